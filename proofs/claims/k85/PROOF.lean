import PyProof.Rows.All
import HandS.Head0
import HandS.Head1
import HandS.Head2
import HandS.HeadHook3
import HandS.HeadHook4
import Wide.All
import OpenK.AllK
import Wide.FinOn
import HandS.ForMost
import HandS.Exc
import HandS.TryOnly
import HandS.TryMany
import HandS.ExcOwn
import HandS.WordsExc
import HandS.IsInst
import HandS.Wide
import HandS.Defaults
import HandS.Deep
import HandS.TupAny
import HandS.FStr
import HandS.Small
import HandS.Codes
import HandS.Style
import HandS.HeadEnd
import HandS.HeadHook1
import HandS.HeadHook2
import HandS.Steps
import HandS.Zip
import PySem.Challenge.RW_creasehall_k85_tables_that_fit_and_fulfi
set_option Elab.async false
set_option linter.all false
set_option maxRecDepth 100000
set_option maxHeartbeats 0
section
namespace X85
open PySem PySem.Spec PyProof.Rows L2
def topS (i : Nat) : Stmt := PySem.Challenge.pw_creasehall_k85_tables_that_fit_and_fulfi.main.body.getD i (.Pass ⟨0, 0, 0, 0⟩)
abbrev s_is_integer : Stmt := topS 7
abbrev s_is_row : Stmt := topS 8
abbrev s_common_part : Stmt := topS 9
abbrev s_opposite : Stmt := topS 13
abbrev s_cell_corners : Stmt := topS 31
abbrev s_cells_of : Stmt := topS 32
abbrev s__law_mixed : Stmt := topS 46
abbrev s__law_great : Stmt := topS 47
abbrev s__law_low : Stmt := topS 50
abbrev s__law_neg : Stmt := topS 52
abbrev s__law_quads : Stmt := topS 73
abbrev s__law_is_wish : Stmt := topS 84
abbrev s_lowest : Stmt := topS 10
abbrev s_is_fraction : Stmt := topS 11
abbrev s_first_line : Stmt := topS 18
abbrev s_second_line : Stmt := topS 19
abbrev s_is_wish : Stmt := topS 39
abbrev s__law_stream : Stmt := topS 48
abbrev s__law_take : Stmt := topS 49
abbrev s__law_add : Stmt := topS 51
abbrev s__law_sub : Stmt := topS 53
abbrev s__law_mul : Stmt := topS 54
abbrev s__law_div : Stmt := topS 55
abbrev s__law_ray : Stmt := topS 61
abbrev s__law_is_fraction : Stmt := topS 81
abbrev s_plus : Stmt := topS 12
abbrev s_product : Stmt := topS 15
abbrev s_divided : Stmt := topS 16
abbrev s_is_angles : Stmt := topS 27
abbrev s__law_times : Stmt := topS 56
abbrev s__law_cross : Stmt := topS 57
abbrev s__law_dot : Stmt := topS 58
abbrev s__law_turn : Stmt := topS 59
abbrev s__law_slope : Stmt := topS 63
abbrev s__law_fraction_pair : Stmt := topS 64
abbrev s__law_leaning : Stmt := topS 65
abbrev s__law_wish : Stmt := topS 79
abbrev s__law_as_rows : Stmt := topS 80
abbrev s__law_is_slant : Stmt := topS 82
abbrev s__law_spoiled_table : Stmt := topS 85
abbrev s__law_spoiled_wish : Stmt := topS 86
abbrev s_minus : Stmt := topS 14
abbrev s_is_angle_row : Stmt := topS 28
abbrev s__law_back : Stmt := topS 60
abbrev s__law_half : Stmt := topS 62
abbrev s__law_pair : Stmt := topS 68
abbrev s__law_new_slope : Stmt := topS 69
abbrev s__law_mill : Stmt := topS 71
abbrev s__law_closed : Stmt := topS 74
abbrev s__law_four : Stmt := topS 76
abbrev s__law_is_table : Stmt := topS 83
abbrev s__law_nudged : Stmt := topS 89
abbrev s_is_table : Stmt := topS 29
abbrev s_cell_closes : Stmt := topS 33
abbrev s_pair_fractions : Stmt := topS 36
abbrev s__law_directions : Stmt := topS 66
abbrev s__law_level_table : Stmt := topS 67
abbrev s__law_free_table : Stmt := topS 70
abbrev s__law_all_closed : Stmt := topS 75
abbrev s__law_rounds : Stmt := topS 77
abbrev s_check_table : Stmt := topS 30
abbrev s_all_close : Stmt := topS 34
abbrev s_told_line : Stmt := topS 37
abbrev s_told_fraction : Stmt := topS 38
abbrev s__law_table : Stmt := topS 72
abbrev s__law_kept : Stmt := topS 78
abbrev s_fits_together : Stmt := topS 35
abbrev s_quotient_of : Stmt := topS 40
abbrev s__law_is_right : Stmt := topS 90
abbrev s_three_product : Stmt := topS 41
abbrev s__law_fitting_told : Stmt := topS 87
abbrev s_cell_comes_out : Stmt := topS 42
abbrev s_is_fulfilled : Stmt := topS 43
abbrev s_fulfils : Stmt := topS 44
abbrev s__law_fulfilled_told : Stmt := topS 88
abbrev s_law : Stmt := topS 91
def d_is_integer : He.DefD := ⟨("is_integer", none), "is_integer", "is_integer", defArgs s_is_integer, defBody s_is_integer, defScope s_is_integer, [], []⟩
def d_is_row : He.DefD := ⟨("is_row", none), "is_row", "is_row", defArgs s_is_row, defBody s_is_row, defScope s_is_row, [], []⟩
def d_common_part : He.DefD := ⟨("common_part", none), "common_part", "common_part", defArgs s_common_part, defBody s_common_part, defScope s_common_part, [], []⟩
def d_opposite : He.DefD := ⟨("opposite", none), "opposite", "opposite", defArgs s_opposite, defBody s_opposite, defScope s_opposite, [], []⟩
def d_cell_corners : He.DefD := ⟨("cell_corners", none), "cell_corners", "cell_corners", defArgs s_cell_corners, defBody s_cell_corners, defScope s_cell_corners, [], []⟩
def d_cells_of : He.DefD := ⟨("cells_of", none), "cells_of", "cells_of", defArgs s_cells_of, defBody s_cells_of, defScope s_cells_of, [], []⟩
def d__law_mixed : He.DefD := ⟨("_law_mixed", none), "_law_mixed", "_law_mixed", defArgs s__law_mixed, defBody s__law_mixed, defScope s__law_mixed, [], []⟩
def d__law_great : He.DefD := ⟨("_law_great", none), "_law_great", "_law_great", defArgs s__law_great, defBody s__law_great, defScope s__law_great, [], []⟩
def d__law_low : He.DefD := ⟨("_law_low", none), "_law_low", "_law_low", defArgs s__law_low, defBody s__law_low, defScope s__law_low, [], []⟩
def d__law_neg : He.DefD := ⟨("_law_neg", none), "_law_neg", "_law_neg", defArgs s__law_neg, defBody s__law_neg, defScope s__law_neg, [], []⟩
def d__law_quads : He.DefD := ⟨("_law_quads", none), "_law_quads", "_law_quads", defArgs s__law_quads, defBody s__law_quads, defScope s__law_quads, [], []⟩
def d__law_is_wish : He.DefD := ⟨("_law_is_wish", none), "_law_is_wish", "_law_is_wish", defArgs s__law_is_wish, defBody s__law_is_wish, defScope s__law_is_wish, [], []⟩
def d_lowest : He.DefD := ⟨("lowest", none), "lowest", "lowest", defArgs s_lowest, defBody s_lowest, defScope s_lowest, [], []⟩
def d_is_fraction : He.DefD := ⟨("is_fraction", none), "is_fraction", "is_fraction", defArgs s_is_fraction, defBody s_is_fraction, defScope s_is_fraction, [], []⟩
def d_first_line : He.DefD := ⟨("first_line", none), "first_line", "first_line", defArgs s_first_line, defBody s_first_line, defScope s_first_line, [], []⟩
def d_second_line : He.DefD := ⟨("second_line", none), "second_line", "second_line", defArgs s_second_line, defBody s_second_line, defScope s_second_line, [], []⟩
def d_is_wish : He.DefD := ⟨("is_wish", none), "is_wish", "is_wish", defArgs s_is_wish, defBody s_is_wish, defScope s_is_wish, [], []⟩
def d__law_stream : He.DefD := ⟨("_law_stream", none), "_law_stream", "_law_stream", defArgs s__law_stream, defBody s__law_stream, defScope s__law_stream, [], []⟩
def d__law_take : He.DefD := ⟨("_law_take", none), "_law_take", "_law_take", defArgs s__law_take, defBody s__law_take, defScope s__law_take, [], []⟩
def d__law_add : He.DefD := ⟨("_law_add", none), "_law_add", "_law_add", defArgs s__law_add, defBody s__law_add, defScope s__law_add, [], []⟩
def d__law_sub : He.DefD := ⟨("_law_sub", none), "_law_sub", "_law_sub", defArgs s__law_sub, defBody s__law_sub, defScope s__law_sub, [], []⟩
def d__law_mul : He.DefD := ⟨("_law_mul", none), "_law_mul", "_law_mul", defArgs s__law_mul, defBody s__law_mul, defScope s__law_mul, [], []⟩
def d__law_div : He.DefD := ⟨("_law_div", none), "_law_div", "_law_div", defArgs s__law_div, defBody s__law_div, defScope s__law_div, [], []⟩
def d__law_ray : He.DefD := ⟨("_law_ray", none), "_law_ray", "_law_ray", defArgs s__law_ray, defBody s__law_ray, defScope s__law_ray, [], []⟩
def d__law_is_fraction : He.DefD := ⟨("_law_is_fraction", none), "_law_is_fraction", "_law_is_fraction", defArgs s__law_is_fraction, defBody s__law_is_fraction, defScope s__law_is_fraction, [], []⟩
def d_plus : He.DefD := ⟨("plus", none), "plus", "plus", defArgs s_plus, defBody s_plus, defScope s_plus, [], []⟩
def d_product : He.DefD := ⟨("product", none), "product", "product", defArgs s_product, defBody s_product, defScope s_product, [], []⟩
def d_divided : He.DefD := ⟨("divided", none), "divided", "divided", defArgs s_divided, defBody s_divided, defScope s_divided, [], []⟩
def d_is_angles : He.DefD := ⟨("is_angles", none), "is_angles", "is_angles", defArgs s_is_angles, defBody s_is_angles, defScope s_is_angles, [], []⟩
def d__law_times : He.DefD := ⟨("_law_times", none), "_law_times", "_law_times", defArgs s__law_times, defBody s__law_times, defScope s__law_times, [], []⟩
def d__law_cross : He.DefD := ⟨("_law_cross", none), "_law_cross", "_law_cross", defArgs s__law_cross, defBody s__law_cross, defScope s__law_cross, [], []⟩
def d__law_dot : He.DefD := ⟨("_law_dot", none), "_law_dot", "_law_dot", defArgs s__law_dot, defBody s__law_dot, defScope s__law_dot, [], []⟩
def d__law_turn : He.DefD := ⟨("_law_turn", none), "_law_turn", "_law_turn", defArgs s__law_turn, defBody s__law_turn, defScope s__law_turn, [], []⟩
def d__law_slope : He.DefD := ⟨("_law_slope", none), "_law_slope", "_law_slope", defArgs s__law_slope, defBody s__law_slope, defScope s__law_slope, [], []⟩
def d__law_fraction_pair : He.DefD := ⟨("_law_fraction_pair", none), "_law_fraction_pair", "_law_fraction_pair", defArgs s__law_fraction_pair, defBody s__law_fraction_pair, defScope s__law_fraction_pair, [], []⟩
def d__law_leaning : He.DefD := ⟨("_law_leaning", none), "_law_leaning", "_law_leaning", defArgs s__law_leaning, defBody s__law_leaning, defScope s__law_leaning, [], []⟩
def d__law_wish : He.DefD := ⟨("_law_wish", none), "_law_wish", "_law_wish", defArgs s__law_wish, defBody s__law_wish, defScope s__law_wish, [], []⟩
def d__law_as_rows : He.DefD := ⟨("_law_as_rows", none), "_law_as_rows", "_law_as_rows", defArgs s__law_as_rows, defBody s__law_as_rows, defScope s__law_as_rows, [], []⟩
def d__law_is_slant : He.DefD := ⟨("_law_is_slant", none), "_law_is_slant", "_law_is_slant", defArgs s__law_is_slant, defBody s__law_is_slant, defScope s__law_is_slant, [], []⟩
def d__law_spoiled_table : He.DefD := ⟨("_law_spoiled_table", none), "_law_spoiled_table", "_law_spoiled_table", defArgs s__law_spoiled_table, defBody s__law_spoiled_table, defScope s__law_spoiled_table, [], []⟩
def d__law_spoiled_wish : He.DefD := ⟨("_law_spoiled_wish", none), "_law_spoiled_wish", "_law_spoiled_wish", defArgs s__law_spoiled_wish, defBody s__law_spoiled_wish, defScope s__law_spoiled_wish, [], []⟩
def d_minus : He.DefD := ⟨("minus", none), "minus", "minus", defArgs s_minus, defBody s_minus, defScope s_minus, [], []⟩
def d_is_angle_row : He.DefD := ⟨("is_angle_row", none), "is_angle_row", "is_angle_row", defArgs s_is_angle_row, defBody s_is_angle_row, defScope s_is_angle_row, [], []⟩
def d__law_back : He.DefD := ⟨("_law_back", none), "_law_back", "_law_back", defArgs s__law_back, defBody s__law_back, defScope s__law_back, [], []⟩
def d__law_half : He.DefD := ⟨("_law_half", none), "_law_half", "_law_half", defArgs s__law_half, defBody s__law_half, defScope s__law_half, [], []⟩
def d__law_pair : He.DefD := ⟨("_law_pair", none), "_law_pair", "_law_pair", defArgs s__law_pair, defBody s__law_pair, defScope s__law_pair, [], []⟩
def d__law_new_slope : He.DefD := ⟨("_law_new_slope", none), "_law_new_slope", "_law_new_slope", defArgs s__law_new_slope, defBody s__law_new_slope, defScope s__law_new_slope, [], []⟩
def d__law_mill : He.DefD := ⟨("_law_mill", none), "_law_mill", "_law_mill", defArgs s__law_mill, defBody s__law_mill, defScope s__law_mill, [], []⟩
def d__law_closed : He.DefD := ⟨("_law_closed", none), "_law_closed", "_law_closed", defArgs s__law_closed, defBody s__law_closed, defScope s__law_closed, [], []⟩
def d__law_four : He.DefD := ⟨("_law_four", none), "_law_four", "_law_four", defArgs s__law_four, defBody s__law_four, defScope s__law_four, [], []⟩
def d__law_is_table : He.DefD := ⟨("_law_is_table", none), "_law_is_table", "_law_is_table", defArgs s__law_is_table, defBody s__law_is_table, defScope s__law_is_table, [], []⟩
def d__law_nudged : He.DefD := ⟨("_law_nudged", none), "_law_nudged", "_law_nudged", defArgs s__law_nudged, defBody s__law_nudged, defScope s__law_nudged, [], []⟩
def d_is_table : He.DefD := ⟨("is_table", none), "is_table", "is_table", defArgs s_is_table, defBody s_is_table, defScope s_is_table, [], []⟩
def d_cell_closes : He.DefD := ⟨("cell_closes", none), "cell_closes", "cell_closes", defArgs s_cell_closes, defBody s_cell_closes, defScope s_cell_closes, [], []⟩
def d_pair_fractions : He.DefD := ⟨("pair_fractions", none), "pair_fractions", "pair_fractions", defArgs s_pair_fractions, defBody s_pair_fractions, defScope s_pair_fractions, [], []⟩
def d__law_directions : He.DefD := ⟨("_law_directions", none), "_law_directions", "_law_directions", defArgs s__law_directions, defBody s__law_directions, defScope s__law_directions, [], []⟩
def d__law_level_table : He.DefD := ⟨("_law_level_table", none), "_law_level_table", "_law_level_table", defArgs s__law_level_table, defBody s__law_level_table, defScope s__law_level_table, [], []⟩
def d__law_free_table : He.DefD := ⟨("_law_free_table", none), "_law_free_table", "_law_free_table", defArgs s__law_free_table, defBody s__law_free_table, defScope s__law_free_table, [], []⟩
def d__law_all_closed : He.DefD := ⟨("_law_all_closed", none), "_law_all_closed", "_law_all_closed", defArgs s__law_all_closed, defBody s__law_all_closed, defScope s__law_all_closed, [], []⟩
def d__law_rounds : He.DefD := ⟨("_law_rounds", none), "_law_rounds", "_law_rounds", defArgs s__law_rounds, defBody s__law_rounds, defScope s__law_rounds, [], []⟩
def d_check_table : He.DefD := ⟨("check_table", none), "check_table", "check_table", defArgs s_check_table, defBody s_check_table, defScope s_check_table, [], []⟩
def d_all_close : He.DefD := ⟨("all_close", none), "all_close", "all_close", defArgs s_all_close, defBody s_all_close, defScope s_all_close, [], []⟩
def d_told_line : He.DefD := ⟨("told_line", none), "told_line", "told_line", defArgs s_told_line, defBody s_told_line, defScope s_told_line, [], []⟩
def d_told_fraction : He.DefD := ⟨("told_fraction", none), "told_fraction", "told_fraction", defArgs s_told_fraction, defBody s_told_fraction, defScope s_told_fraction, [], []⟩
def d__law_table : He.DefD := ⟨("_law_table", none), "_law_table", "_law_table", defArgs s__law_table, defBody s__law_table, defScope s__law_table, [], []⟩
def d__law_kept : He.DefD := ⟨("_law_kept", none), "_law_kept", "_law_kept", defArgs s__law_kept, defBody s__law_kept, defScope s__law_kept, [], []⟩
def d_fits_together : He.DefD := ⟨("fits_together", none), "fits_together", "fits_together", defArgs s_fits_together, defBody s_fits_together, defScope s_fits_together, [], []⟩
def d_quotient_of : He.DefD := ⟨("quotient_of", none), "quotient_of", "quotient_of", defArgs s_quotient_of, defBody s_quotient_of, defScope s_quotient_of, [], []⟩
def d__law_is_right : He.DefD := ⟨("_law_is_right", none), "_law_is_right", "_law_is_right", defArgs s__law_is_right, defBody s__law_is_right, defScope s__law_is_right, [], []⟩
def d_three_product : He.DefD := ⟨("three_product", none), "three_product", "three_product", defArgs s_three_product, defBody s_three_product, defScope s_three_product, [], []⟩
def d__law_fitting_told : He.DefD := ⟨("_law_fitting_told", none), "_law_fitting_told", "_law_fitting_told", defArgs s__law_fitting_told, defBody s__law_fitting_told, defScope s__law_fitting_told, [], []⟩
def d_cell_comes_out : He.DefD := ⟨("cell_comes_out", none), "cell_comes_out", "cell_comes_out", defArgs s_cell_comes_out, defBody s_cell_comes_out, defScope s_cell_comes_out, [], []⟩
def d_is_fulfilled : He.DefD := ⟨("is_fulfilled", none), "is_fulfilled", "is_fulfilled", defArgs s_is_fulfilled, defBody s_is_fulfilled, defScope s_is_fulfilled, [], []⟩
def d_fulfils : He.DefD := ⟨("fulfils", none), "fulfils", "fulfils", defArgs s_fulfils, defBody s_fulfils, defScope s_fulfils, [], []⟩
def d__law_fulfilled_told : He.DefD := ⟨("_law_fulfilled_told", none), "_law_fulfilled_told", "_law_fulfilled_told", defArgs s__law_fulfilled_told, defBody s__law_fulfilled_told, defScope s__law_fulfilled_told, [], []⟩
def d_law : He.DefD := ⟨("law", none), "law", "law", defArgs s_law, defBody s_law, defScope s_law, [], []⟩
def fnL0 : List He.DefD := [d_is_integer, d_is_row, d_common_part, d_opposite, d_cell_corners, d_cells_of, d__law_mixed, d__law_great, d__law_low, d__law_neg, d__law_quads, d__law_is_wish, d_lowest, d_is_fraction, d_first_line, d_second_line, d_is_wish, d__law_stream, d__law_take, d__law_add, d__law_sub, d__law_mul, d__law_div, d__law_ray, d__law_is_fraction, d_plus, d_product, d_divided, d_is_angles, d__law_times]
def fnL1 : List He.DefD := [d__law_cross, d__law_dot, d__law_turn, d__law_slope, d__law_fraction_pair, d__law_leaning, d__law_wish, d__law_as_rows, d__law_is_slant, d__law_spoiled_table, d__law_spoiled_wish, d_minus, d_is_angle_row, d__law_back, d__law_half, d__law_pair, d__law_new_slope, d__law_mill, d__law_closed, d__law_four, d__law_is_table, d__law_nudged, d_is_table, d_cell_closes, d_pair_fractions, d__law_directions, d__law_level_table, d__law_free_table, d__law_all_closed, d__law_rounds]
def fnL2 : List He.DefD := [d_check_table, d_all_close, d_told_line, d_told_fraction, d__law_table, d__law_kept, d_fits_together, d_quotient_of, d__law_is_right, d_three_product, d__law_fitting_told, d_cell_comes_out, d_is_fulfilled, d_fulfils, d__law_fulfilled_told, d_law]
def fnL : List He.DefD := fnL0 ++ fnL1 ++ fnL2
def faL0 : List He.Fa := [.glo "is_integer", .glo "is_row", .glo "common_part", .glo "opposite", .glo "cell_corners", .glo "cells_of", .glo "_law_mixed", .glo "_law_great", .glo "_law_low", .glo "_law_neg", .glo "_law_quads", .glo "_law_is_wish", .glo "lowest", .glo "is_fraction", .glo "first_line", .glo "second_line", .glo "is_wish", .glo "_law_stream", .glo "_law_take", .glo "_law_add", .glo "_law_sub", .glo "_law_mul", .glo "_law_div", .glo "_law_ray", .glo "_law_is_fraction", .glo "plus", .glo "product", .glo "divided", .glo "is_angles", .glo "_law_times"]
def faL1 : List He.Fa := [.glo "_law_cross", .glo "_law_dot", .glo "_law_turn", .glo "_law_slope", .glo "_law_fraction_pair", .glo "_law_leaning", .glo "_law_wish", .glo "_law_as_rows", .glo "_law_is_slant", .glo "_law_spoiled_table", .glo "_law_spoiled_wish", .glo "minus", .glo "is_angle_row", .glo "_law_back", .glo "_law_half", .glo "_law_pair", .glo "_law_new_slope", .glo "_law_mill", .glo "_law_closed", .glo "_law_four", .glo "_law_is_table", .glo "_law_nudged", .glo "is_table", .glo "cell_closes", .glo "pair_fractions", .glo "_law_directions", .glo "_law_level_table", .glo "_law_free_table", .glo "_law_all_closed", .glo "_law_rounds"]
def faL2 : List He.Fa := [.glo "check_table", .glo "all_close", .glo "told_line", .glo "told_fraction", .glo "_law_table", .glo "_law_kept", .glo "fits_together", .glo "quotient_of", .glo "_law_is_right", .glo "three_product", .glo "_law_fitting_told", .glo "cell_comes_out", .glo "is_fulfilled", .glo "fulfils", .glo "_law_fulfilled_told", .glo "law", .free "abs", .free "all", .free "bool", .free "int", .free "isinstance", .free "len", .free "list", .free "range", .free "tuple", .free "zip", .int "EAST" 0, .int "NORTH" 1, .int "WEST" 2, .int "SOUTH" 3]
def faL3 : List He.Fa := [.int "MOST_WIDE" 4, .glo "ONE", .glo "ZERO", .glo "BOTH", .glo "BadTable", .glo "BadWish", .exc "BadTable", .exc "BadWish", .exm "BadTable" "BadTable" true, .exm "BadTable" "BadWish" false, .exm "BadWish" "BadTable" false, .exm "BadWish" "BadWish" true]
def faL : List He.Fa := faL0 ++ faL1 ++ faL2 ++ faL3
def nmL0 : List PySem.Str := ["__name__", "FoldError", "BadTable", "BadWish", "ZERO", "ONE", "is_integer", "is_row", "common_part", "lowest", "is_fraction", "plus", "opposite", "minus", "product", "divided", "first_line", "second_line", "BOTH", "MOST_WIDE", "EAST", "NORTH", "WEST", "SOUTH", "is_angles", "is_angle_row", "is_table", "check_table", "cell_corners", "cells_of"]
def nmL1 : List PySem.Str := ["cell_closes", "all_close", "fits_together", "pair_fractions", "told_line", "told_fraction", "is_wish", "quotient_of", "three_product", "cell_comes_out", "is_fulfilled", "fulfils", "_law_mixed", "_law_great", "_law_stream", "_law_take", "_law_low", "_law_add", "_law_neg", "_law_sub", "_law_mul", "_law_div", "_law_times", "_law_cross", "_law_dot", "_law_turn", "_law_back", "_law_ray", "_law_half", "_law_slope"]
def nmL2 : List PySem.Str := ["_law_fraction_pair", "_law_leaning", "_law_directions", "_law_level_table", "_law_pair", "_law_new_slope", "_law_free_table", "_law_mill", "_law_table", "_law_quads", "_law_closed", "_law_all_closed", "_law_four", "_law_rounds", "_law_kept", "_law_wish", "_law_as_rows", "_law_is_fraction", "_law_is_slant", "_law_is_table", "_law_is_wish", "_law_spoiled_table", "_law_spoiled_wish", "_law_fitting_told", "_law_fulfilled_told", "_law_nudged", "_law_is_right"]
def nmL : List PySem.Str := nmL0 ++ nmL1 ++ nmL2
def exL (K : PySem.W.Frag) : Bool := He.tupB K "ONE" [.int 1, .int 1] && (He.tupB K "ZERO" [.int 0, .int 1] && He.tupB K "BOTH" [.int 1, .int 2])
abbrev RR : PySem.W.OpenRow := PySem.W.OpenLaw.row PySem.Challenge.rw_creasehall_k85_tables_that_fit_and_fulfi
abbrev hkL : PySem.W.Hook := He.hookX 6 faL fnL [] [] exL
def obL (s : PySem.W.SharedT) : He.AlX := He.obsX 6 faL fnL [] [] exL (HandSHeadRun.getT s)
theorem obL_eq (s : PySem.W.SharedT) : obL s = hkL.obs s.abs := He.obsX_eq (HandSHeadRun.getT_eq s)
theorem runL (w : World) : HandSHeadRun.RunEq RR (PySem.W.view RR.prog [91]) hkL obL 8000 nmL w := by
  intro os
  kernel_rfl
end X85
end
section
open PySem PySem.W PySem.Calls PyProof.Rows
theorem X85.head_of (hc : PySem.W.WalkO (view (OpenLaw.row PySem.Challenge.rw_creasehall_k85_tables_that_fit_and_fulfi).prog [91]) X85.nmL (XL (view (OpenLaw.row PySem.Challenge.rw_creasehall_k85_tables_that_fit_and_fulfi).prog [91]) []) X85.hkL.says (OpenLaw.row PySem.Challenge.rw_creasehall_k85_tables_that_fit_and_fulfi).toRowW (HandSHeadRun.topDef (OpenLaw.row PySem.Challenge.rw_creasehall_k85_tables_that_fit_and_fulfi).prog 91) [] (fun f vs => PySem.call f vs)) : PySem.Challenge.rw_creasehall_k85_tables_that_fit_and_fulfi.Holds := by
  w_on; o_law
  refine HandSHeadRun.head_any (r := OpenLaw.row PySem.Challenge.rw_creasehall_k85_tables_that_fit_and_fulfi) (q := view (OpenLaw.row PySem.Challenge.rw_creasehall_k85_tables_that_fit_and_fulfi).prog [91]) (H := X85.hkL) (ob := X85.obL) (M := 8000) (loose := X85.nmL) (d := HandSHeadRun.topDef (OpenLaw.row PySem.Challenge.rw_creasehall_k85_tables_that_fit_and_fulfi).prog 91) (kwd := []) X85.obL_eq
    (by kernel_rfl) (fun s => by kernel_rfl) X85.runL (by kernel_rfl) (by kernel_rfl) (by kernel_rfl) (by rfl) (by first | assumption | decide +kernel) (by decide +kernel) ⟨rfl, rfl, rfl, rfl, rfl, by decide +kernel⟩ ?hw hc
  case hw => w_witness2
end
section
/-! A logic of data over the hand layer: what a reading needs, told by the data alone (cold heap C: what is never written; hot objects: streams and lists under work). -/
namespace DL
open PySem L2

abbrev D := PyData

theorem rd_mono {C C' : Hp} (e : Same C C') {a : Addr} {u : HO} (h : Rd C a u) : Rd C' a u := by
  rcases h with h | ⟨o, h⟩
  · exact .inl (e _ _ h)
  · exact .inr ⟨o, e _ _ h⟩
theorem sqL_mono {K : PySem.W.Frag} {C C' : Hp} (e : Same C C') {a : Addr} {xs : List V} (h : SqL K C a xs) : SqL K C' a xs := by
  rcases h with h | h
  · exact .inl (rd_mono e h)
  · exact .inr h
theorem sqT_mono {K : PySem.W.Frag} {C C' : Hp} (e : Same C C') {a : Addr} {xs : List V} (h : SqT K C a xs) : SqT K C' a xs := by
  rcases h with h | h
  · exact .inl (rd_mono e h)
  · exact .inr h
/-- the value v stands, over the cold heap, for the datum (a dict: that it is one) -/
def IsDic (H : Hp) (a : Addr) : Prop := (∃ kvs, H a = some (.dK kvs)) ∨ ∃ kvs, H a = some (.dT kvs)
mutual
inductive Rp (K : PySem.W.Frag) (H : Hp) : V → D → Prop where
  | non : Rp K H .non .none
  | bl (b : Bool) : Rp K H (.bl b) (.bool b)
  | int (i : Int) : Rp K H (.int i) (.int i)
  | str (x : Str) : Rp K H (.str x) (.str x)
  | lst {a : Addr} {xs : List V} {ds : List D} : H a = some (.lst xs) → RpAll K H xs ds → Rp K H (.ref a) (.list ds)
  | tup {a : Addr} {xs : List V} {ds : List D} : SqT K H a xs → RpAll K H xs ds → Rp K H (.ref a) (.tuple ds)
  | dic {a : Addr} : IsDic H a → Rp K H (.ref a) (.dict [])
inductive RpAll (K : PySem.W.Frag) (H : Hp) : List V → List D → Prop where
  | nil : RpAll K H [] []
  | cons {v : V} {vs : List V} {d : D} {ds : List D} : Rp K H v d → RpAll K H vs ds → RpAll K H (v :: vs) (d :: ds)
end
theorem isDic_mono {C C' : Hp} (e : Same C C') {a : Addr} (h : IsDic C a) : IsDic C' a := by
  rcases h with ⟨k, h⟩ | ⟨k, h⟩
  · exact .inl ⟨k, e _ _ h⟩
  · exact .inr ⟨k, e _ _ h⟩
mutual
theorem rp_dp {K : PySem.W.Frag} {C : Hp} : ∀ {v : V} {d : D}, Rp K C v d → d.canLay0 = true → Dp K C v d
  | _, _, .non, _ => .non
  | _, _, .bl b, _ => .bl b
  | _, _, .int i, _ => .int i
  | _, _, .str x, _ => .str x
  | _, _, .lst h t, q => .lst (SqL.of h) (rpAll_dp t (by simpa [PyData.canLay0] using q))
  | _, _, .tup h t, q => .tup h (rpAll_dp t (by simpa [PyData.canLay0] using q))
  | _, _, .dic h, q => by simp [PyData.canLay0] at q
theorem rpAll_dp {K : PySem.W.Frag} {C : Hp} : ∀ {vs : List V} {ds : List D}, RpAll K C vs ds → PyData.canLayAll0 ds = true → DpAll K C vs ds
  | _, _, .nil, _ => .nil
  | _, _, .cons h t, q => .cons (rp_dp h (by simp [PyData.canLayAll0] at q; exact q.1)) (rpAll_dp t (by simp [PyData.canLayAll0] at q; exact q.2))
end
mutual
theorem rp_mono {K : PySem.W.Frag} {C C' : Hp} (e : Same C C') : ∀ {v : V} {d : D}, Rp K C v d → Rp K C' v d
  | _, _, .non => .non
  | _, _, .bl b => .bl b
  | _, _, .int i => .int i
  | _, _, .str x => .str x
  | _, _, .lst h t => .lst (e _ _ h) (rpAll_mono e t)
  | _, _, .tup h t => .tup (sqT_mono e h) (rpAll_mono e t)
  | _, _, .dic h => .dic (isDic_mono e h)
theorem rpAll_mono {K : PySem.W.Frag} {C C' : Hp} (e : Same C C') : ∀ {vs : List V} {ds : List D}, RpAll K C vs ds → RpAll K C' vs ds
  | _, _, .nil => .nil
  | _, _, .cons h t => .cons (rp_mono e h) (rpAll_mono e t)
end
theorem RpAll.length {K : PySem.W.Frag} {C : Hp} : ∀ {vs : List V} {ds : List D}, RpAll K C vs ds → vs.length = ds.length
  | _, _, .nil => rfl
  | _, _, .cons _ t => by simp [RpAll.length t]
theorem RpAll.get {K : PySem.W.Frag} {C : Hp} : ∀ {vs : List V} {ds : List D}, RpAll K C vs ds → ∀ {i : Nat} {x : D}, ds[i]? = some x → ∃ v, vs[i]? = some v ∧ Rp K C v x
  | _, _, .nil, i, x, h => by simp at h
  | _, _, .cons h _, 0, x, e => by simp at e; subst e; exact ⟨_, rfl, h⟩
  | _, _, .cons _ t, i + 1, x, e => by
    obtain ⟨v, h1, h2⟩ := RpAll.get t (i := i) (x := x) (by simpa using e)
    exact ⟨v, by simpa using h1, h2⟩
theorem RpAll.getV {K : PySem.W.Frag} {C : Hp} : ∀ {vs : List V} {ds : List D}, RpAll K C vs ds → ∀ {i : Nat} {v : V}, vs[i]? = some v → ∃ x, ds[i]? = some x ∧ Rp K C v x
  | _, _, .nil, i, x, h => by simp at h
  | _, _, .cons h _, 0, x, e => by simp at e; subst e; exact ⟨_, rfl, h⟩
  | _, _, .cons _ t, i + 1, x, e => by
    obtain ⟨v, h1, h2⟩ := RpAll.getV t (i := i) (v := x) (by simpa using e)
    exact ⟨v, by simpa using h1, h2⟩
theorem RpAll.append {K : PySem.W.Frag} {C : Hp} : ∀ {vs ws : List V} {ds es : List D}, RpAll K C vs ds → RpAll K C ws es → RpAll K C (vs ++ ws) (ds ++ es)
  | _, _, _, _, .nil, h => h
  | _, _, _, _, .cons h t, k => .cons h (RpAll.append t k)
theorem RpAll.one {K : PySem.W.Frag} {C : Hp} {v : V} {d : D} (h : Rp K C v d) : RpAll K C [v] [d] := .cons h .nil
theorem RpAll.take {K : PySem.W.Frag} {C : Hp} : ∀ (n : Nat) {vs : List V} {ds : List D}, RpAll K C vs ds → RpAll K C (vs.take n) (ds.take n)
  | 0, _, _, _ => by simp; exact .nil
  | n + 1, _, _, .nil => by simp; exact .nil
  | n + 1, _, _, .cons h t => .cons h (RpAll.take n t)
theorem RpAll.drop {K : PySem.W.Frag} {C : Hp} : ∀ (n : Nat) {vs : List V} {ds : List D}, RpAll K C vs ds → RpAll K C (vs.drop n) (ds.drop n)
  | 0, _, _, h => h
  | n + 1, _, _, .nil => .nil
  | n + 1, _, _, .cons h t => RpAll.drop n t
theorem RpAll.set {K : PySem.W.Frag} {C : Hp} : ∀ (n : Nat) {vs : List V} {ds : List D} {v : V} {d : D}, RpAll K C vs ds → Rp K C v d → RpAll K C (vs.set n v) (ds.set n d)
  | _, _, _, _, _, .nil, _ => .nil
  | 0, _, _, _, _, .cons h t, k => .cons k t
  | n + 1, _, _, _, _, .cons h t, k => .cons h (RpAll.set n t k)
theorem RpAll.rep {K : PySem.W.Frag} {C : Hp} {vs : List V} {ds : List D} (h : RpAll K C vs ds) : ∀ n : Nat, RpAll K C (List.replicate n vs).flatten (List.replicate n ds).flatten
  | 0 => by simp; exact .nil
  | n + 1 => by
    simp only [List.replicate_succ, List.flatten_cons]
    exact RpAll.append h (RpAll.rep h n)
theorem RpAll.reverse {K : PySem.W.Frag} {C : Hp} : ∀ {vs : List V} {ds : List D}, RpAll K C vs ds → RpAll K C vs.reverse ds.reverse
  | _, _, .nil => .nil
  | _, _, .cons h t => by
    simp only [List.reverse_cons]
    exact RpAll.append (RpAll.reverse t) (RpAll.one h)
theorem RpAll.ints {K : PySem.W.Frag} {C : Hp} : ∀ {vs : List V} {ns : List Int}, RpAll K C vs (ns.map PyData.int) → vs = ns.map V.int
  | _, [], .nil => rfl
  | _, _ :: _, .cons h t => by
    cases h
    simp [RpAll.ints t]
theorem RpAll.of_ints {K : PySem.W.Frag} {C : Hp} : ∀ ns : List Int, RpAll K C (ns.map V.int) (ns.map PyData.int)
  | [] => .nil
  | _ :: r => .cons (.int _) (RpAll.of_ints r)
theorem RpAll.strs {K : PySem.W.Frag} {C : Hp} : ∀ {vs : List V} {ns : List Str}, RpAll K C vs (ns.map PyData.str) → vs = ns.map V.str
  | _, [], .nil => rfl
  | _, _ :: _, .cons h t => by
    cases h
    simp [RpAll.strs t]
theorem RpAll.of_strs {K : PySem.W.Frag} {C : Hp} : ∀ ns : List Str, RpAll K C (ns.map V.str) (ns.map PyData.str)
  | [] => .nil
  | _ :: r => .cons (.str _) (RpAll.of_strs r)
theorem RpAll.bls {K : PySem.W.Frag} {C : Hp} : ∀ {vs : List V} {ns : List Bool}, RpAll K C vs (ns.map PyData.bool) → vs = ns.map V.bl
  | _, [], .nil => rfl
  | _, _ :: _, .cons h t => by
    cases h
    simp [RpAll.bls t]

/-! ### the state -/
/-- a stream of the law's: [cells, place, great, count] -/
def Strm (K : PySem.W.Frag) (C H : Hp) (s : Addr) : Prop :=
  C s = none ∧ ∃ (c : Addr) (ns : List Int) (p g k : Int), H s = some (.lst [.ref c, .int p, .int g, .int k]) ∧ C c = some (.lst (ns.map V.int)) ∧ 0 < ns.length ∧ 0 ≤ p
/-- from (C, H) on, the objects of M may be written, nothing else that stood there; C grows -/
structure Grow (M : List Addr) (C H C' H' : Hp) : Prop where
  cc : Same C C'
  ch : Same C' H'
  hh : ∀ a o, a ∉ M → H a = some o → H' a = some o
  al : ∀ a, H a ≠ none → H' a ≠ none
  hc : ∀ a, H a ≠ none → C a = none → C' a = none
theorem Grow.refl {M : List Addr} {C H : Hp} (h : Same C H) : Grow M C H C H := ⟨Same.refl C, h, fun _ _ _ e => e, fun _ e => e, fun _ _ e => e⟩
theorem Grow.trans {M : List Addr} {C H C1 H1 C2 H2 : Hp} (a : Grow M C H C1 H1) (b : Grow M C1 H1 C2 H2) : Grow M C H C2 H2 :=
  ⟨a.cc.trans b.cc, b.ch, fun x o n e => b.hh x o n (a.hh x o n e), fun x e => b.al x (a.al x e), fun x e f => b.hc x (a.al x e) (a.hc x e f)⟩
theorem Grow.mono {M M' : List Addr} {C H C1 H1 : Hp} (a : Grow M C H C1 H1) (h : ∀ x ∈ M, x ∈ M') : Grow M' C H C1 H1 :=
  ⟨a.cc, a.ch, fun x o n e => a.hh x o (fun z => n (h x z)) e, a.al, a.hc⟩
/-- a new cold object -/
theorem Grow.cold {M : List Addr} {C H : Hp} (h : Same C H) {p : Addr} (o : HO) (hp : H p = none) : Grow M C H (upd C p o) (upd H p o) := by
  have cp : C p = none := by
    cases q : C p with
    | none => rfl
    | some u => rw [h p u q] at hp; cases hp
  refine ⟨fun a u e => ?_, fun a u e => ?_, fun a u _ e => ?_, fun a e => ?_, fun a e f => ?_⟩
  · rw [upd_ne (ne_of_none e cp)]; exact e
  · by_cases q : a = p
    · rw [q, upd_same] at e; rw [q, upd_same]; exact e
    · rw [upd_ne q] at e; rw [upd_ne q]; exact h a u e
  · rw [upd_ne (ne_of_none e hp)]; exact e
  · by_cases q : a = p
    · rw [q, upd_same]; simp
    · rw [upd_ne q]; exact e
  · by_cases q : a = p
    · rw [q] at e; exact absurd hp e
    · rw [upd_ne q]; exact f
/-- a new hot object -/
theorem Grow.hot {M : List Addr} {C H : Hp} (h : Same C H) {p : Addr} (o : HO) (hp : H p = none) : Grow M C H C (upd H p o) := by
  refine ⟨Same.refl C, fun a u e => ?_, fun a u _ e => ?_, fun a e => ?_, fun _ _ f => f⟩
  · rw [upd_ne (ne_of_none (h a u e) hp)]; exact h a u e
  · rw [upd_ne (ne_of_none e hp)]; exact e
  · by_cases q : a = p
    · rw [q, upd_same]; simp
    · rw [upd_ne q]; exact e
/-- an object that was not there is written -/
theorem Grow.wr {M : List Addr} {C H C1 H1 : Hp} (a : Grow M C H C1 H1) {p : Addr} (o : HO) (hp : p ∈ M ∨ H p = none) (hc : C1 p = none) : Grow M C H C1 (upd H1 p o) := by
  refine ⟨a.cc, fun b u e => ?_, fun b u n e => ?_, fun b e => ?_, a.hc⟩
  · rw [upd_ne (ne_of_none e hc)]; exact a.ch b u e
  · have nb : b ≠ p := by
      rcases hp with z | z
      · intro q; rw [q] at n; exact n z
      · exact ne_of_none e z
    rw [upd_ne nb]; exact a.hh b u n e
  · by_cases q : b = p
    · rw [q, upd_same]; simp
    · rw [upd_ne q]; exact a.al b e
/-- a hot object that was not there becomes cold -/
theorem Grow.frz {M : List Addr} {C H C1 H1 : Hp} (a : Grow M C H C1 H1) {p : Addr} {o : HO} (hp : H p = none) (hc : C1 p = none) (ho : H1 p = some o) : Grow M C H (upd C1 p o) H1 := by
  refine ⟨fun b u e => ?_, fun b u e => ?_, a.hh, a.al, fun b e f => ?_⟩
  · have q := a.cc b u e
    rw [upd_ne (ne_of_none q hc)]; exact q
  · by_cases q : b = p
    · rw [q, upd_same] at e; cases e; rw [q]; exact ho
    · rw [upd_ne q] at e; exact a.ch b u e
  · by_cases q : b = p
    · rw [q] at e; exact absurd hp e
    · rw [upd_ne q]; exact a.hc b e f
theorem Strm.grow {K : PySem.W.Frag} {M : List Addr} {C H C' H' : Hp} {s : Addr} (h : Strm K C H s) (g : Grow M C H C' H') (n : s ∉ M) : Strm K C' H' s := by
  obtain ⟨h1, c, ns, p, q, k, h2, h3, h4⟩ := h
  exact ⟨g.hc s (by rw [h2]; simp) h1, c, ns, p, q, k, g.hh _ _ n h2, g.cc _ _ h3, h4⟩

/-- what a slot holds: not told | cold data | hot object k | stream k | this very value -/
inductive SV where
  | any | d (x : D) | hot (k : Nat) | st (k : Nat) | val (v : V)
/-- a hot object: a list under work | a list of lists under work | none any more -/
inductive HV where
  | lst (xs : List D) | rows (xss : List (List D)) | off
structure Gm where
  sl : List SV
  hot : List HV := []
/-- the addresses behind -/
structure Gh where
  ss : List Addr
  hs : List (List Addr)
/-- the entry: streams that were given, heaps -/
structure Bs where
  M : List Addr
  C : Hp
  H : Hp
def SlotOk (K : PySem.W.Frag) (C : Hp) (g : Gh) (σ : St) (i : Nat) : SV → Prop
  | .any => True
  | .d x => ∃ v, σ[i]? = some (some v) ∧ Rp K C v x
  | .hot k => ∃ a f, g.hs[k]? = some (a :: f) ∧ σ[i]? = some (some (.ref a))
  | .st k => ∃ a, g.ss[k]? = some a ∧ σ[i]? = some (some (.ref a))
  | .val v => σ[i]? = some (some v)
inductive RowsAt (K : PySem.W.Frag) (C H : Hp) : List Addr → List (List D) → Prop where
  | nil : RowsAt K C H [] []
  | cons {r : Addr} {rs : List Addr} {xs : List D} {xss : List (List D)} {vs : List V} : C r = none → H r = some (.lst vs) → RpAll K C vs xs → RowsAt K C H rs xss → RowsAt K C H (r :: rs) (xs :: xss)
def HotOk (K : PySem.W.Frag) (C H : Hp) (f : List Addr) : HV → Prop
  | .lst xs => ∃ a vs, f = [a] ∧ C a = none ∧ H a = some (.lst vs) ∧ RpAll K C vs xs
  | .rows xss => ∃ a rs, f = a :: rs ∧ C a = none ∧ H a = some (.lst (rs.map V.ref)) ∧ RowsAt K C H rs xss
  | .off => f = []
structure Holds (K : PySem.W.Frag) (B : Bs) (G : Gm) (g : Gh) (C H : Hp) (σ : St) : Prop where
  gr : Grow B.M B.C B.H C H
  len : σ.length = G.sl.length
  sl : ∀ (i : Nat) (s : SV), G.sl[i]? = some s → SlotOk K C g σ i s
  st : ∀ s ∈ g.ss, Strm K C H s ∧ (s ∈ B.M ∨ B.H s = none)
  sub : ∀ s ∈ B.M, s ∈ g.ss
  hl : G.hot.length = g.hs.length
  ht : ∀ (k : Nat) (h : HV) (f : List Addr), G.hot[k]? = some h → g.hs[k]? = some f → HotOk K C H f h
  nw : ∀ f ∈ g.hs, ∀ a ∈ f, B.H a = none
  nd : (g.ss ++ g.hs.flatten).Nodup
theorem RowsAt.grow {K : PySem.W.Frag} {M : List Addr} {C H C' H' : Hp} (g : Grow M C H C' H') : ∀ {rs : List Addr} {xss : List (List D)}, RowsAt K C H rs xss → (∀ r ∈ rs, r ∉ M) → RowsAt K C' H' rs xss
  | _, _, .nil, _ => .nil
  | _, _, .cons (r := r) h1 h2 h3 t, n => .cons (g.hc _ (by rw [h2]; simp) h1) (g.hh _ _ (n r (by simp)) h2) (rpAll_mono g.cc h3) (RowsAt.grow g t fun x hx => n x (by simp [hx]))
theorem HotOk.grow {K : PySem.W.Frag} {M : List Addr} {C H C' H' : Hp} {f : List Addr} {h : HV} (ok : HotOk K C H f h) (g : Grow M C H C' H') (n : ∀ a ∈ f, a ∉ M) : HotOk K C' H' f h := by
  cases h with
  | lst xs =>
    obtain ⟨a, vs, rfl, h1, h2, h3⟩ := ok
    exact ⟨a, vs, rfl, g.hc _ (by rw [h2]; simp) h1, g.hh _ _ (n a (by simp)) h2, rpAll_mono g.cc h3⟩
  | rows xss =>
    obtain ⟨a, rs, rfl, h1, h2, h3⟩ := ok
    exact ⟨a, rs, rfl, g.hc _ (by rw [h2]; simp) h1, g.hh _ _ (n a (by simp)) h2, h3.grow g fun r hr => n r (by simp [hr])⟩
  | off => exact ok
theorem SlotOk.mono {K : PySem.W.Frag} {C C' : Hp} {g : Gh} {σ : St} {i : Nat} {s : SV} (e : Same C C') (h : SlotOk K C g σ i s) : SlotOk K C' g σ i s := by
  cases s with
  | any => trivial
  | d x => obtain ⟨v, h1, h2⟩ := h; exact ⟨v, h1, rp_mono e h2⟩
  | hot k => exact h
  | st k => exact h
  | val v => exact h
section
variable {K : PySem.W.Frag} {B : Bs} {G : Gm} {g : Gh} {C H C' H' : Hp} {σ : St}
theorem Holds.ch (h : Holds K B G g C H σ) : Same C H := h.gr.ch
theorem Holds.apart (h : Holds K B G g C H σ) {k : Nat} {f : List Addr} (e : g.hs[k]? = some f) {a : Addr} (ha : a ∈ f) : a ∉ g.ss := fun z => by
  have q := List.nodup_append.mp h.nd
  exact q.2.2 a z a (List.mem_flatten.mpr ⟨f, List.mem_of_getElem? e, ha⟩) rfl
/-- what grows but the streams keeps the state, if the streams are streams again -/
theorem Holds.grow (h : Holds K B G g C H σ) (r : Grow g.ss C H C' H') (s : ∀ x ∈ g.ss, Strm K C' H' x) : Holds K B G g C' H' σ where
  gr := by
    refine ⟨h.gr.cc.trans r.cc, r.ch, fun a o n e => ?_, fun a e => r.al a (h.gr.al a e), fun a e f => r.hc a (h.gr.al a e) (h.gr.hc a e f)⟩
    refine r.hh a o (fun z => ?_) (h.gr.hh a o n e)
    rcases (h.st a z).2 with q | q
    · exact n q
    · rw [q] at e; cases e
  len := h.len
  sl := fun i x e => (h.sl i x e).mono r.cc
  st := fun x hx => ⟨s x hx, (h.st x hx).2⟩
  sub := h.sub
  hl := h.hl
  ht := fun k x f e1 e2 => (h.ht k x f e1 e2).grow r fun a ha => h.apart e2 ha
  nw := h.nw
  nd := h.nd
theorem Holds.grow0 (h : Holds K B G g C H σ) (r : Grow [] C H C' H') : Holds K B G g C' H' σ :=
  h.grow (r.mono (by simp)) fun x hx => (h.st x hx).1.grow r (by simp)
theorem Holds.cold (h : Holds K B G g C H σ) {p : Addr} (o : HO) (hp : H p = none) : Holds K B G g (upd C p o) (upd H p o) σ := h.grow0 (Grow.cold h.ch o hp)
end

/-! ### the judgements -/
/-- an exception told: its class, its field -/
structure XD where
  cls : Value
  fld : Option (Str × D) := none
def XOk (K : PySem.W.Frag) (C H : Hp) (cls : Value) (d : Option Addr) (x : XD) : Prop := cls = x.cls ∧ match x.fld with
  | none => d = none
  | some (f, y) => ∃ a v, d = some a ∧ H a = some (.xd [(f, v)]) ∧ Rp K C v y
/-- what is fixed through a body: the written part, the wish of exceptions -/
structure Cn where
  K : PySem.W.Frag
  W : WX
  PX : XD → Gm → Prop
def ExOk (c : Cn) (B : Bs) (C0 : Hp) : Prop := ∀ (x : XD) (G : Gm) (g : Gh) (C H : Hp) (σ : St) (cls : Value) (d : Option Addr), c.PX x G → Same C0 C → Holds c.K B G g C H σ → XOk c.K C H cls d x → c.W cls d σ H
theorem ExOk.on {c : Cn} {B : Bs} {C0 C1 : Hp} (h : ExOk c B C0) (e : Same C0 C1) : ExOk c B C1 := fun x G g C H σ cls d p s => h x G g C H σ cls d p (e.trans s)
def EvP (c : Cn) (te : TE) (G : Gm) (P : D → Prop) : Prop :=
  ∀ B g C H σ, ExOk c B C → Holds c.K B G g C H σ → ∀ Q : VK, (∀ x v C' H', P x → Holds c.K B G g C' H' σ → Grow g.ss C H C' H' → Rp c.K C' v x → Q v H') → te σ H Q
def EvT (c : Cn) (tt : TT) (G : Gm) (P : Bool → Prop) : Prop :=
  ∀ B g C H σ, ExOk c B C → Holds c.K B G g C H σ → ∀ Q : Bool → Hp → Prop, (∀ b C' H', P b → Holds c.K B G g C' H' σ → Grow g.ss C H C' H' → Q b H') → tt σ H Q
/-- an argument: data, a stream, a value -/
inductive AV where
  | d (x : D) | st (k : Nat) | val (v : V)
def AVok (K : PySem.W.Frag) (C : Hp) (g : Gh) (v : V) : AV → Prop
  | .d x => Rp K C v x
  | .st k => ∃ a, g.ss[k]? = some a ∧ v = .ref a
  | .val w => v = w
inductive AVs (K : PySem.W.Frag) (C : Hp) (g : Gh) : List V → List AV → Prop where
  | nil : AVs K C g [] []
  | cons {v : V} {vs : List V} {a : AV} {as : List AV} : AVok K C g v a → AVs K C g vs as → AVs K C g (v :: vs) (a :: as)
theorem AVok.mono {K : PySem.W.Frag} {C C' : Hp} {g : Gh} {v : V} {a : AV} (e : Same C C') (h : AVok K C g v a) : AVok K C' g v a := by
  cases a with
  | d x => exact rp_mono e h
  | st k => exact h
  | val w => exact h
theorem AVs.mono {K : PySem.W.Frag} {C C' : Hp} {g : Gh} (e : Same C C') : ∀ {vs : List V} {as : List AV}, AVs K C g vs as → AVs K C' g vs as
  | _, _, .nil => .nil
  | _, _, .cons h t => .cons (h.mono e) (AVs.mono e t)
def dat : List AV → Option (List D)
  | [] => some []
  | .d x :: r => (dat r).map (x :: ·)
  | _ :: _ => none
theorem AVs.data {K : PySem.W.Frag} {C : Hp} {g : Gh} : ∀ {vs : List V} {as : List AV} {ds : List D}, AVs K C g vs as → dat as = some ds → RpAll K C vs ds
  | _, _, _, .nil, e => by simp [dat] at e; subst e; exact .nil
  | _, _, _, .cons (a := .d x) h t, e => by
    simp only [dat, Option.map_eq_some_iff] at e
    obtain ⟨r, e1, rfl⟩ := e
    exact .cons h (AVs.data t e1)
  | _, _, _, .cons (a := .st x) h t, e => by simp [dat] at e
  | _, _, _, .cons (a := .val x) h t, e => by simp [dat] at e
theorem AVs.len {K : PySem.W.Frag} {C : Hp} {g : Gh} : ∀ {vs : List V} {as : List AV}, AVs K C g vs as → vs.length = as.length
  | _, _, .nil => rfl
  | _, _, .cons _ t => by simp [AVs.len t]
def EvA (c : Cn) (ta : TA) (G : Gm) (P : List AV → Prop) : Prop :=
  ∀ B g C H σ, ExOk c B C → Holds c.K B G g C H σ → ∀ Q : List V → Hp → Prop, (∀ as vs C' H', P as → Holds c.K B G g C' H' σ → Grow g.ss C H C' H' → AVs c.K C' g vs as → Q vs H') → ta σ H Q
def EvO (c : Cn) (to : TO) (G : Gm) (P : Option Int → Prop) : Prop :=
  ∀ B g C H σ, ExOk c B C → Holds c.K B G g C H σ → ∀ Q : Option Int → Hp → Prop, (∀ o C' H', P o → Holds c.K B G g C' H' σ → Grow g.ss C H C' H' → Q o H') → to σ H Q
/-- an address that none of the state's objects has -/
structure Off (B : Bs) (g : Gh) (p : Addr) : Prop where
  ss : p ∉ g.ss
  hs : p ∉ g.hs.flatten
  bh : B.H p = none
section
variable {K : PySem.W.Frag} {B : Bs} {G : Gm} {g : Gh} {C H : Hp} {σ : St} {p : Addr}
theorem rowsAt_some : ∀ {rs : List Addr} {xss : List (List D)}, RowsAt K C H rs xss → ∀ r ∈ rs, H r ≠ none ∧ C r = none
  | _, _, .nil, r, h => by simp at h
  | _, _, .cons h1 h2 h3 t, r, h => by
    rcases List.mem_cons.mp h with e | e
    · subst e; exact ⟨by rw [h2]; simp, h1⟩
    · exact rowsAt_some t r e
theorem Holds.foot (I : Holds K B G g C H σ) {a : Addr} (ha : a ∈ g.hs.flatten) : H a ≠ none ∧ C a = none := by
  obtain ⟨f, hf, haf⟩ := List.mem_flatten.mp ha
  obtain ⟨k, hk⟩ := List.mem_iff_getElem?.mp hf
  have hk2 : k < G.hot.length := by rw [I.hl]; exact (List.getElem?_eq_some_iff.mp hk).1
  have z := I.ht k _ f (List.getElem?_eq_getElem hk2) hk
  cases q : G.hot[k] with
  | lst xs =>
    rw [q] at z
    obtain ⟨b, vs, rfl, h1, h2, _⟩ := z
    have e : a = b := by simpa using haf
    subst e
    exact ⟨by rw [h2]; simp, h1⟩
  | rows xss =>
    rw [q] at z
    obtain ⟨b, rs, rfl, h1, h2, h3⟩ := z
    rcases List.mem_cons.mp haf with e | e
    · subst e; exact ⟨by rw [h2]; simp, h1⟩
    · exact rowsAt_some h3 a e
  | off =>
    rw [q] at z
    have e : f = [] := z
    subst e
    simp at haf
theorem Holds.off (I : Holds K B G g C H σ) (hp : H p = none) : Off B g p := by
  refine ⟨fun z => ?_, fun z => (I.foot z).1 hp, ?_⟩
  · obtain ⟨⟨_, c, ns, q1, q2, q3, h, _⟩, _⟩ := I.st p z
    rw [hp] at h; cases h
  · cases q : B.H p with
    | none => rfl
    | some o => exact absurd hp (I.gr.al p (by rw [q]; simp))
theorem RowsAt.wr {o : HO} : ∀ {rs : List Addr} {xss : List (List D)}, RowsAt K C H rs xss → p ∉ rs → RowsAt K C (upd H p o) rs xss
  | _, _, .nil, _ => .nil
  | _, _, .cons h1 h2 h3 t, n => .cons h1 (by rw [upd_ne (by intro z; exact n (by simp [z]))]; exact h2) h3 (RowsAt.wr t fun z => n (by simp [z]))
theorem HotOk.wr {f : List Addr} {h : HV} {o : HO} (ok : HotOk K C H f h) (n : p ∉ f) : HotOk K C (upd H p o) f h := by
  cases h with
  | lst xs =>
    obtain ⟨a, vs, rfl, h1, h2, h3⟩ := ok
    exact ⟨a, vs, rfl, h1, by rw [upd_ne (by intro z; exact n (by simp [z]))]; exact h2, h3⟩
  | rows xss =>
    obtain ⟨a, rs, rfl, h1, h2, h3⟩ := ok
    exact ⟨a, rs, rfl, h1, by rw [upd_ne (by intro z; exact n (by simp [z]))]; exact h2, h3.wr fun z => n (by simp [z])⟩
  | off => exact ok
theorem Strm.wr {s : Addr} {o : HO} (h : Strm K C H s) (n : s ≠ p) : Strm K C (upd H p o) s := by
  obtain ⟨h1, c, ns, q1, q2, q3, h2, h3⟩ := h
  exact ⟨h1, c, ns, q1, q2, q3, by rw [upd_ne n]; exact h2, h3⟩
/-- an object off the state is written -/
theorem Holds.wrOff (I : Holds K B G g C H σ) (f : Off B g p) (hc : C p = none) (o : HO) : Holds K B G g C (upd H p o) σ where
  gr := I.gr.wr o (.inr f.bh) hc
  len := I.len
  sl := I.sl
  st := fun s hs => ⟨(I.st s hs).1.wr (by intro z; subst z; exact f.ss hs), (I.st s hs).2⟩
  sub := I.sub
  hl := I.hl
  ht := fun k h x e1 e2 => (I.ht k h x e1 e2).wr fun z => f.hs (List.mem_flatten.mpr ⟨x, List.mem_of_getElem? e2, z⟩)
  nw := I.nw
  nd := I.nd
end
section
variable {K : PySem.W.Frag} {B : Bs} {G : Gm} {g : Gh} {C H : Hp} {σ : St} {p : Addr}
theorem Strm.frz {s : Addr} {o : HO} (h : Strm K C H s) (n : s ≠ p) (hc : C p = none) : Strm K (upd C p o) H s := by
  obtain ⟨h1, c, ns, q1, q2, q3, h2, h3, h4⟩ := h
  refine ⟨by rw [upd_ne n]; exact h1, c, ns, q1, q2, q3, h2, ?_, h4⟩
  rw [upd_ne (ne_of_none h3 hc)]; exact h3
theorem RowsAt.frz {o : HO} (hc : C p = none) : ∀ {rs : List Addr} {xss : List (List D)}, RowsAt K C H rs xss → p ∉ rs → RowsAt K (upd C p o) H rs xss
  | _, _, .nil, _ => .nil
  | _, _, .cons h1 h2 h3 t, n => .cons (by rw [upd_ne (by intro z; exact n (by simp [z]))]; exact h1) h2 (rpAll_mono (fun a u e => by rw [upd_ne (ne_of_none e hc)]; exact e) h3) (RowsAt.frz hc t fun z => n (by simp [z]))
theorem HotOk.frz {f : List Addr} {h : HV} {o : HO} (hc : C p = none) (ok : HotOk K C H f h) (n : p ∉ f) : HotOk K (upd C p o) H f h := by
  have e : Same C (upd C p o) := fun a u e => by rw [upd_ne (ne_of_none e hc)]; exact e
  cases h with
  | lst xs =>
    obtain ⟨a, vs, rfl, h1, h2, h3⟩ := ok
    exact ⟨a, vs, rfl, by rw [upd_ne (by intro z; exact n (by simp [z]))]; exact h1, h2, rpAll_mono e h3⟩
  | rows xss =>
    obtain ⟨a, rs, rfl, h1, h2, h3⟩ := ok
    exact ⟨a, rs, rfl, by rw [upd_ne (by intro z; exact n (by simp [z]))]; exact h1, h2, h3.frz hc fun z => n (by simp [z])⟩
  | off => exact ok
/-- an object off the state becomes cold -/
theorem Holds.frz (I : Holds K B G g C H σ) (f : Off B g p) (hc : C p = none) {o : HO} (ho : H p = some o) : Holds K B G g (upd C p o) H σ where
  gr := I.gr.frz f.bh hc ho
  len := I.len
  sl := fun i s e => (I.sl i s e).mono fun a u e => by rw [upd_ne (ne_of_none e hc)]; exact e
  st := fun s hs => ⟨(I.st s hs).1.frz (by intro z; subst z; exact f.ss hs) hc, (I.st s hs).2⟩
  sub := I.sub
  hl := I.hl
  ht := fun k h x e1 e2 => (I.ht k h x e1 e2).frz hc fun z => f.hs (List.mem_flatten.mpr ⟨x, List.mem_of_getElem? e2, z⟩)
  nw := I.nw
  nd := I.nd
end
/-- a new list, not yet cold -/
def EvL (c : Cn) (te : TE) (G : Gm) (P : List D → Prop) : Prop :=
  ∀ B g C H σ, ExOk c B C → Holds c.K B G g C H σ → ∀ Q : VK, (∀ xs p vs C' H', P xs → Holds c.K B G g C' H' σ → Grow g.ss C H C' H' → Off B g p → H p = none → C' p = none → H' p = some (.lst vs) → RpAll c.K C' vs xs → Q (.ref p) H') → te σ H Q
/-- data-level ends -/
structure DE where
  nx : Gm → Prop := fun _ => False
  rt : D → Prop := fun _ => False
  bk : Gm → Prop := fun _ => False
  ct : Gm → Prop := fun _ => False
def Fin (K : PySem.W.Frag) (B : Bs) (C H : Hp) : Prop := Grow B.M B.C B.H C H ∧ ∀ s ∈ B.M, Strm K C H s
/-- a K of ends -/
def NxOk (K : PySem.W.Frag) (B : Bs) (C0 : Hp) (P : Gm → Prop) (N : St → Hp → Prop) : Prop := ∀ G g C H σ, P G → Same C0 C → Holds K B G g C H σ → N σ H
def RtOk (K : PySem.W.Frag) (B : Bs) (P : D → Prop) (Q : VK) : Prop := ∀ x v C H, P x → Fin K B C H → Rp K C v x → Q v H
structure DOk (K : PySem.W.Frag) (B : Bs) (C0 : Hp) (E : DE) (D : Ends) : Prop where
  nx : NxOk K B C0 E.nx D.nx
  rt : RtOk K B E.rt D.rt
  bk : NxOk K B C0 E.bk D.bk
  ct : NxOk K B C0 E.ct D.ct
theorem DOk.on {K : PySem.W.Frag} {B : Bs} {C0 C1 : Hp} {E : DE} {D : Ends} (h : DOk K B C0 E D) (e : Same C0 C1) : DOk K B C1 E D :=
  ⟨fun G g C H σ p s => h.nx G g C H σ p (e.trans s), h.rt, fun G g C H σ p s => h.bk G g C H σ p (e.trans s), fun G g C H σ p s => h.ct G g C H σ p (e.trans s)⟩
def SatS (c : Cn) (t : TS) (G : Gm) (E : DE) : Prop :=
  ∀ B g C H σ, ExOk c B C → Holds c.K B G g C H σ → ∀ D : Ends, DOk c.K B C E D → t D σ H
theorem Holds.fin {K : PySem.W.Frag} {B : Bs} {G : Gm} {g : Gh} {C H : Hp} {σ : St} (h : Holds K B G g C H σ) : Fin K B C H :=
  ⟨h.gr, fun s hs => (h.st s (h.sub s hs)).1⟩
/-- a def's promise by data -/
abbrev FS := List AV → (D → Prop) → (XD → Prop) → Prop
def spF (K : PySem.W.Frag) (f : FS) : Sp := fun vs H Q E => ∃ (C : Hp) (ss : List Addr) (as : List AV) (P : D → Prop) (PX : XD → Prop),
  Same C H ∧ AVs K C ⟨ss, []⟩ vs as ∧ (∀ s ∈ ss, Strm K C H s) ∧ ss.Nodup ∧ f as P PX ∧
  (∀ x v C' H', P x → Grow ss C H C' H' → (∀ s ∈ ss, Strm K C' H' s) → Rp K C' v x → Q v H') ∧
  (∀ x cls d C' H', PX x → Grow ss C H C' H' → (∀ s ∈ ss, Strm K C' H' s) → XOk K C' H' cls d x → E cls d H')
end DL
end
section
namespace DL
open PySem L2
section
variable {c : Cn} {G : Gm} {ta tb tc te : TE} {t u : TT} {P P' : D → Prop} {PB : Bool → Prop}
theorem ev_mono (h : EvP c te G P) (k : ∀ x, P x → P' x) : EvP c te G P' := fun B g C H σ X I Q q =>
  h B g C H σ X I Q fun x v C' H' p => q x v C' H' (k x p)
theorem evl_mono {P P' : List D → Prop} (h : EvL c te G P) (k : ∀ x, P x → P' x) : EvL c te G P' := fun B g C H σ X I Q q =>
  h B g C H σ X I Q fun x v vs C' H' p => q x v vs C' H' (k x p)
theorem ev_var {i : Nat} {x : D} (h : G.sl[i]? = some (.d x)) (p : P x) : EvP c (tVar i) G P := fun B g C H σ X I Q q => by
  obtain ⟨v, h1, h2⟩ := I.sl i _ h
  exact ⟨v, h1, q x v C H p I (Grow.refl I.ch) h2⟩
theorem ev_c {v : V} {d : D} (h : ∀ C, Rp c.K C v d) (p : P d) : EvP c (tC v) G P := fun B g C H σ X I Q q => q d v C H p I (Grow.refl I.ch) (h C)
theorem ev_int {i : Int} (p : P (.int i)) : EvP c (tC (.int i)) G P := ev_c (fun _ => .int i) p
theorem ev_str {i : Str} (p : P (.str i)) : EvP c (tC (.str i)) G P := ev_c (fun _ => .str i) p
theorem ev_bl {i : Bool} (p : P (.bool i)) : EvP c (tC (.bl i)) G P := ev_c (fun _ => .bl i) p
theorem ev_non (p : P .none) : EvP c (tC .non) G P := ev_c (fun _ => .non) p
/-- two data put together -/
def K2 (c : Cn) (G : Gm) (r : R2) (x y : D) (P : D → Prop) : Prop :=
  ∀ B g C H σ, ExOk c B C → Holds c.K B G g C H σ → ∀ v w, Rp c.K C v x → Rp c.K C w y → ∀ Q : VK, (∀ z u C' H', P z → Holds c.K B G g C' H' σ → Grow g.ss C H C' H' → Rp c.K C' u z → Q u H') → r v w H Q
theorem ev_op {r : R2} (h : EvP c ta G fun x => EvP c tb G fun y => K2 c G r x y P) : EvP c (tOp r ta tb) G P := fun B g C H σ X I Q q =>
  h B g C H σ X I _ fun x v C1 H1 h1 I1 g1 r1 => h1 B g C1 H1 σ (X.on g1.cc) I1 _ fun y w C2 H2 h2 I2 g2 r2 =>
    h2 B g C2 H2 σ (X.on (g1.trans g2).cc) I2 v w (rp_mono g2.cc r1) r2 Q fun z u C3 H3 p I3 g3 r3 => q z u C3 H3 p I3 ((g1.trans g2).trans g3) r3
theorem k2_l {r r' : R2} {x y : D} (h : K2 c G r x y P) : K2 c G (fun x y H Q => r x y H Q ∨ r' x y H Q) x y P := fun B g C H σ X I v w a b Q q => .inl (h B g C H σ X I v w a b Q q)
theorem k2_r {r r' : R2} {x y : D} (h : K2 c G r' x y P) : K2 c G (fun x y H Q => r x y H Q ∨ r' x y H Q) x y P := fun B g C H σ X I v w a b Q q => .inr (h B g C H σ X I v w a b Q q)
theorem k2_II {f : Int → Int → Int} {i j : Int} (p : P (.int (f i j))) : K2 c G (rI0 fun i j => .int (f i j)) (.int i) (.int j) P := fun B g C H σ X I v w a b Q q => by
  cases a; cases b
  exact ⟨i, j, rfl, rfl, q _ _ C H p I (Grow.refl I.ch) (.int _)⟩
theorem k2_IB {f : Int → Int → Bool} {i j : Int} (p : P (.bool (f i j))) : K2 c G (rI0 fun i j => .bl (f i j)) (.int i) (.int j) P := fun B g C H σ X I v w a b Q q => by
  cases a; cases b
  exact ⟨i, j, rfl, rfl, q _ _ C H p I (Grow.refl I.ch) (.bl _)⟩
theorem k2_C {f : Int → Int → Int} {R : Int → Int → Prop} {i j : Int} (h : R i j) (p : P (.int (f i j))) : K2 c G (rI R fun i j => .int (f i j)) (.int i) (.int j) P := fun B g C H σ X I v w a b Q q => by
  cases a; cases b
  exact ⟨i, j, rfl, rfl, h, q _ _ C H p I (Grow.refl I.ch) (.int _)⟩
theorem k2_eq {x y : D} (hx : SeqAt.shaped x = true) (hy : SeqAt.shaped y = true) (p : P (.bool (PyData.eqv x y))) : K2 c G (rEqD c.K) x y P := fun B g C H σ X I v w a b Q q =>
  ⟨x, y, rp_dp (rp_mono I.ch a) (SeqAt.canLay_of_shaped hx), rp_dp (rp_mono I.ch b) (SeqAt.canLay_of_shaped hy), hx, hy, q _ _ C H p I (Grow.refl I.ch) (.bl _)⟩
theorem k2_ne {x y : D} (hx : SeqAt.shaped x = true) (hy : SeqAt.shaped y = true) (p : P (.bool (!PyData.eqv x y))) : K2 c G (rNeD c.K) x y P := fun B g C H σ X I v w a b Q q =>
  ⟨x, y, rp_dp (rp_mono I.ch a) (SeqAt.canLay_of_shaped hx), rp_dp (rp_mono I.ch b) (SeqAt.canLay_of_shaped hy), hx, hy, q _ _ C H p I (Grow.refl I.ch) (.bl _)⟩
def isNo : D → Bool
  | .none => true
  | _ => false
theorem rp_non {K : PySem.W.Frag} {C : Hp} {v : V} {x : D} (h : Rp K C v x) : decide (v = .non) = isNo x := by
  cases h <;> simp [isNo]
theorem k2_is {x : D} (p : P (.bool (isNo x))) : K2 c G (fun x y H Q => y = .non ∧ Q (.bl (decide (x = .non))) H) x .none P := fun B g C H σ X I v w a b Q q => by
  cases b
  exact ⟨rfl, q _ _ C H p I (Grow.refl I.ch) (by rw [rp_non a]; exact .bl _)⟩
theorem k2_isnot {x : D} (p : P (.bool (!isNo x))) : K2 c G (fun x y H Q => y = .non ∧ Q (.bl (!decide (x = .non))) H) x .none P := fun B g C H σ X I v w a b Q q => by
  cases b
  exact ⟨rfl, q _ _ C H p I (Grow.refl I.ch) (by rw [rp_non a]; exact .bl _)⟩
theorem k2_ixL {xs : List D} {i : Int} {x : D} (h : atI xs i = some x) (p : P x) : K2 c G (rIxL c.K) (.list xs) (.int i) P := fun B g C H σ X I v w a b Q q => by
  cases b
  cases a with
  | @lst a vs ds hs ha =>
    unfold atI at h
    obtain ⟨j, h1, h2⟩ := Option.bind_eq_some_iff.mp h
    obtain ⟨v, h3, h4⟩ := RpAll.get ha h2
    refine ⟨a, vs, i, v, rfl, rfl, SqL.of (I.ch _ _ hs), ?_, q _ _ C H p I (Grow.refl I.ch) h4⟩
    unfold atI
    rw [RpAll.length ha, h1]
    exact h3
theorem k2_ixT {xs : List D} {i : Int} {x : D} (h : atI xs i = some x) (p : P x) : K2 c G (rIxT c.K) (.tuple xs) (.int i) P := fun B g C H σ X I v w a b Q q => by
  cases b
  cases a with
  | @tup a vs ds hs ha =>
    unfold atI at h
    obtain ⟨j, h1, h2⟩ := Option.bind_eq_some_iff.mp h
    obtain ⟨v, h3, h4⟩ := RpAll.get ha h2
    refine ⟨a, vs, i, v, rfl, rfl, sqT_mono I.ch hs, ?_, q _ _ C H p I (Grow.refl I.ch) h4⟩
    unfold atI
    rw [RpAll.length ha, h1]
    exact h3
theorem ev_neg {f : Int → Int} (h : EvP c ta G fun x => ∃ i, x = .int i ∧ P (.int (f i))) : EvP c (tUn (rU fun i => .int (f i)) ta) G P := fun B g C H σ X I Q q =>
  h B g C H σ X I _ fun x v C1 H1 h1 I1 g1 r1 => by
    obtain ⟨i, rfl, p⟩ := h1
    cases r1
    exact ⟨i, rfl, q _ _ C1 H1 p I1 g1 (.int _)⟩
theorem ev_chain {r r' : R2} (h : EvP c ta G fun x => EvP c tb G fun y => K2 c G r x y fun z => ∃ k, z = .bool k ∧ (k = true → EvP c tc G fun w => K2 c G r' y w P) ∧ (k = false → P (.bool false))) : EvP c (tChain r r' ta tb tc) G P := fun B g C H σ X I Q q =>
  h B g C H σ X I _ fun x v C1 H1 h1 I1 g1 r1 => h1 B g C1 H1 σ (X.on g1.cc) I1 _ fun y w C2 H2 h2 I2 g2 r2 =>
    h2 B g C2 H2 σ (X.on (g1.trans g2).cc) I2 v w (rp_mono g2.cc r1) r2 _ fun z u C3 H3 p I3 g3 r3 => by
      obtain ⟨k, rfl, pt, pf⟩ := p
      cases r3
      refine ⟨k, rfl, ?_⟩
      cases k with
      | true =>
        rw [if_pos rfl]
        exact pt rfl B g C3 H3 σ (X.on ((g1.trans g2).trans g3).cc) I3 _ fun w' x' C4 H4 h4 I4 g4 r4 => h4 B g C4 H4 σ (X.on (((g1.trans g2).trans g3).trans g4).cc) I4 _ _ (rp_mono (g3.trans g4).cc r2) r4 Q fun z u C5 H5 p I5 g5 r5 => q z u C5 H5 p I5 ((((g1.trans g2).trans g3).trans g4).trans g5) r5
      | false =>
        rw [if_neg Bool.false_ne_true]
        exact q _ _ C3 H3 (pf rfl) I3 ((g1.trans g2).trans g3) (.bl _)
/-! tests -/
theorem evt_of (h : EvP c te G fun x => ∃ b, x = .bool b ∧ PB b) : EvT c (tTest te) G PB := fun B g C H σ X I Q q =>
  h B g C H σ X I _ fun x v C1 H1 h1 I1 g1 r1 => by
    obtain ⟨b, rfl, p⟩ := h1
    cases r1
    exact ⟨b, rfl, q b C1 H1 p I1 g1⟩
theorem evt_B (h : EvP c te G fun x => ∃ b, x = .bool b ∧ PB b) : EvT c (tB te) G PB := evt_of h
theorem evt_yes (p : PB true) : EvT c tYes G PB := fun B g C H σ X I Q q => q true C H p I (Grow.refl I.ch)
theorem evt_and (h : EvT c t G fun b => (b = true → EvT c u G PB) ∧ (b = false → PB false)) : EvT c (tAnd t u) G PB := fun B g C H σ X I Q q =>
  h B g C H σ X I _ fun b C1 H1 h1 I1 g1 => by
    cases b with
    | true => rw [if_pos rfl]; exact h1.1 rfl B g C1 H1 σ (X.on g1.cc) I1 Q fun b C2 H2 p I2 g2 => q b C2 H2 p I2 (g1.trans g2)
    | false => rw [if_neg Bool.false_ne_true]; exact q false C1 H1 (h1.2 rfl) I1 g1
theorem evt_or (h : EvT c t G fun b => (b = true → PB true) ∧ (b = false → EvT c u G PB)) : EvT c (tOr t u) G PB := fun B g C H σ X I Q q =>
  h B g C H σ X I _ fun b C1 H1 h1 I1 g1 => by
    cases b with
    | true => rw [if_pos rfl]; exact q true C1 H1 (h1.1 rfl) I1 g1
    | false => rw [if_neg Bool.false_ne_true]; exact h1.2 rfl B g C1 H1 σ (X.on g1.cc) I1 Q fun b C2 H2 p I2 g2 => q b C2 H2 p I2 (g1.trans g2)
theorem evt_not (h : EvT c t G fun b => PB (!b)) : EvT c (tNot t) G PB := fun B g C H σ X I Q q =>
  h B g C H σ X I _ fun b C1 H1 h1 I1 g1 => q _ C1 H1 h1 I1 g1
theorem ev_and (h : EvP c ta G fun x => ∃ b, x = .bool b ∧ (b = true → EvP c tb G P) ∧ (b = false → P (.bool false))) : EvP c (tAndV ta tb) G P := fun B g C H σ X I Q q =>
  h B g C H σ X I _ fun x v C1 H1 h1 I1 g1 r1 => by
    obtain ⟨b, rfl, h2, h3⟩ := h1
    cases r1
    refine ⟨b, rfl, ?_⟩
    cases b with
    | true => rw [if_pos rfl]; exact h2 rfl B g C1 H1 σ (X.on g1.cc) I1 Q fun x v C2 H2 p I2 g2 => q x v C2 H2 p I2 (g1.trans g2)
    | false => rw [if_neg Bool.false_ne_true]; exact q _ _ C1 H1 (h3 rfl) I1 g1 (.bl _)
theorem ev_or (h : EvP c ta G fun x => ∃ b, x = .bool b ∧ (b = true → P (.bool true)) ∧ (b = false → EvP c tb G P)) : EvP c (tOrV ta tb) G P := fun B g C H σ X I Q q =>
  h B g C H σ X I _ fun x v C1 H1 h1 I1 g1 r1 => by
    obtain ⟨b, rfl, h2, h3⟩ := h1
    cases r1
    refine ⟨b, rfl, ?_⟩
    cases b with
    | true => rw [if_pos rfl]; exact q _ _ C1 H1 (h2 rfl) I1 g1 (.bl _)
    | false => rw [if_neg Bool.false_ne_true]; exact h3 rfl B g C1 H1 σ (X.on g1.cc) I1 Q fun x v C2 H2 p I2 g2 => q x v C2 H2 p I2 (g1.trans g2)
theorem ev_not (h : EvP c ta G fun x => ∃ b, x = .bool b ∧ P (.bool (!b))) : EvP c (tNotV ta) G P := fun B g C H σ X I Q q =>
  h B g C H σ X I _ fun x v C1 H1 h1 I1 g1 r1 => by
    obtain ⟨b, rfl, h2⟩ := h1
    cases r1
    exact ⟨b, rfl, q _ _ C1 H1 h2 I1 g1 (.bl _)⟩
theorem ev_if (h : EvT c t G fun b => (b = true → EvP c ta G P) ∧ (b = false → EvP c tb G P)) : EvP c (tIf t ta tb) G P := fun B g C H σ X I Q q =>
  h B g C H σ X I _ fun b C1 H1 h1 I1 g1 => by
    cases b with
    | true => rw [if_pos rfl]; exact h1.1 rfl B g C1 H1 σ (X.on g1.cc) I1 Q fun x v C2 H2 p I2 g2 => q x v C2 H2 p I2 (g1.trans g2)
    | false => rw [if_neg Bool.false_ne_true]; exact h1.2 rfl B g C1 H1 σ (X.on g1.cc) I1 Q fun x v C2 H2 p I2 g2 => q x v C2 H2 p I2 (g1.trans g2)
/-! arguments -/
theorem ea_nil {PA : List AV → Prop} (p : PA []) : EvA c tNil G PA := fun B g C H σ X I Q q => q [] [] C H p I (Grow.refl I.ch) .nil
theorem ea_cons {PA : List AV → Prop} {tr : TA} (h : EvP c ta G fun x => EvA c tr G fun as => PA (.d x :: as)) : EvA c (tCons ta tr) G PA := fun B g C H σ X I Q q =>
  h B g C H σ X I _ fun x v C1 H1 h1 I1 g1 r1 => h1 B g C1 H1 σ (X.on g1.cc) I1 _ fun as vs C2 H2 p I2 g2 r2 => q _ _ C2 H2 p I2 (g1.trans g2) (.cons (AVok.mono (a := .d x) g2.cc r1) r2)
theorem ea_st {PA : List AV → Prop} {tr : TA} {i k : Nat} (h : G.sl[i]? = some (.st k)) (p : EvA c tr G fun as => PA (.st k :: as)) : EvA c (tCons (tVar i) tr) G PA := fun B g C H σ X I Q q => by
  obtain ⟨a, h1, h2⟩ := I.sl i _ h
  exact ⟨.ref a, h2, p B g C H σ X I _ fun as vs C2 H2 p I2 g2 r2 => q _ _ C2 H2 p I2 g2 (.cons ⟨a, h1, rfl⟩ r2)⟩
theorem ea_val {PA : List AV → Prop} {tr : TA} {v : V} (p : EvA c tr G fun as => PA (.val v :: as)) : EvA c (tCons (tC v) tr) G PA := fun B g C H σ X I Q q =>
  p B g C H σ X I _ fun as vs C2 H2 p I2 g2 r2 => q _ _ C2 H2 p I2 g2 (.cons rfl r2)
theorem le_line {n : Nat} (h : n ≤ 100000) : n ≤ sizeLine := Nat.le_trans h (by decide)
theorem lt_line {n : Nat} (h : n < 100000) : n < sizeLine := Nat.lt_of_lt_of_le h (by decide)
theorem ev_tup {t : TA} (h : EvA c t G fun as => ∃ ds, dat as = some ds ∧ ds.length ≤ 100000 ∧ P (.tuple ds)) : EvP c (tTup t) G P := fun B g C H σ X I Q q =>
  h B g C H σ X I _ fun as vs C1 H1 h1 I1 g1 r1 => by
    obtain ⟨ds, e, hl, p⟩ := h1
    have r2 := r1.data e
    refine ⟨by rw [RpAll.length r2]; exact le_line hl, fun a ha => ?_⟩
    have g2 := Grow.cold (M := g.ss) I1.ch (.tup vs) ha
    exact q _ _ _ _ p (I1.cold _ ha) (g1.trans g2) (.tup (SqT.of upd_same) (rpAll_mono g2.cc r2))
theorem el_lst {t : TA} {P : List D → Prop} (h : EvA c t G fun as => ∃ ds, dat as = some ds ∧ ds.length ≤ 100000 ∧ P ds) : EvL c (tLst t) G P := fun B g C H σ X I Q q =>
  h B g C H σ X I _ fun as vs C1 H1 h1 I1 g1 r1 => by
    obtain ⟨ds, e, hl, p⟩ := h1
    have r2 := r1.data e
    have l2 : vs.length ≤ sizeLine := by rw [RpAll.length r2]; exact le_line hl
    exact ⟨l2, fun a' ha' => by
      have g2 := Grow.hot (M := g.ss) I1.ch (.lst vs) ha'
      have ha0 : H a' = none := by
        cases z : H a' with
        | none => rfl
        | some o => exact absurd ha' (g1.al a' (by rw [z]; simp))
      have hc0 : C1 a' = none := by
        cases z : C1 a' with
        | none => rfl
        | some o => rw [I1.ch a' o z] at ha'; cases ha'
      exact q _ a' vs C1 _ p (I1.grow0 (Grow.hot I1.ch (.lst vs) ha')) (g1.trans g2) (I1.off ha') ha0 hc0 upd_same r2⟩
theorem ev_ofL (h : EvL c te G fun xs => P (.list xs)) : EvP c te G P := fun B g C H σ X I Q q =>
  h B g C H σ X I _ fun xs p vs C1 H1 h1 I1 g1 f hp hc hv r1 => by
    have e : Same C1 (upd C1 p (.lst vs)) := fun a u e => by rw [upd_ne (ne_of_none e hc)]; exact e
    exact q _ _ _ _ h1 (I1.frz f hc hv) (g1.frz hp hc hv) (.lst upd_same (rpAll_mono e r1))
end
end DL
end
section
namespace DL
open PySem L2
def Gm.put (G : Gm) (i : Nat) (s : SV) : Gm := { G with sl := G.sl.set i s }
theorem SlotOk.set_ne {K : PySem.W.Frag} {C : Hp} {g : Gh} {σ : St} {i j : Nat} {s : SV} {v : Option V} (n : i ≠ j) (h : SlotOk K C g σ i s) : SlotOk K C g (σ.set j v) i s := by
  have e : (σ.set j v)[i]? = σ[i]? := List.getElem?_set_ne (Ne.symm n)
  cases s with
  | any => trivial
  | d x => obtain ⟨w, h1, h2⟩ := h; exact ⟨w, by rw [e]; exact h1, h2⟩
  | hot k => obtain ⟨a, f, h1, h2⟩ := h; exact ⟨a, f, h1, by rw [e]; exact h2⟩
  | st k => obtain ⟨a, h1, h2⟩ := h; exact ⟨a, h1, by rw [e]; exact h2⟩
  | val w => show (σ.set j v)[i]? = _; rw [e]; exact h
theorem Holds.put {K : PySem.W.Frag} {B : Bs} {G : Gm} {g : Gh} {C H : Hp} {σ : St} (I : Holds K B G g C H σ) (i : Nat) (s : SV) (v : Option V) (h : i < σ.length → SlotOk K C g (σ.set i v) i s) : Holds K B (G.put i s) g C H (σ.set i v) where
  gr := I.gr
  len := by simp [Gm.put, I.len]
  sl := fun j x e => by
    have e' : (G.sl.set i s)[j]? = some x := e
    by_cases q : j = i
    · subst q
      have hj : j < G.sl.length := by
        have := (List.getElem?_eq_some_iff.mp e').1
        simpa using this
      rw [List.getElem?_set_self hj] at e'
      cases e'
      exact h (by rw [I.len]; exact hj)
    · rw [List.getElem?_set_ne (Ne.symm q)] at e'
      exact (I.sl j x e').set_ne q
  st := I.st
  sub := I.sub
  hl := I.hl
  ht := I.ht
  nw := I.nw
  nd := I.nd
theorem Holds.putD {K : PySem.W.Frag} {B : Bs} {G : Gm} {g : Gh} {C H : Hp} {σ : St} (I : Holds K B G g C H σ) {x : D} {v : V} (i : Nat) (r : Rp K C v x) : Holds K B (G.put i (.d x)) g C H (σ.set i (some v)) :=
  I.put i _ _ fun h => ⟨v, by rw [List.getElem?_set_self h], r⟩
theorem Holds.putAny {K : PySem.W.Frag} {B : Bs} {G : Gm} {g : Gh} {C H : Hp} {σ : St} (I : Holds K B G g C H σ) (i : Nat) (v : Option V) : Holds K B (G.put i .any) g C H (σ.set i v) := I.put i _ _ fun _ => trivial
section
variable {c : Cn} {G : Gm} {ta tb te : TE} {tc : TT} {t u : TS} {E : DE}
theorem sat_mono {E' : DE} (h : SatS c t G E) (k1 : ∀ G, E.nx G → E'.nx G) (k2 : ∀ x, E.rt x → E'.rt x) (k3 : ∀ G, E.bk G → E'.bk G) (k4 : ∀ G, E.ct G → E'.ct G) : SatS c t G E' := fun B g C H σ X I D ok =>
  h B g C H σ X I D ⟨fun G g C H σ p => ok.nx G g C H σ (k1 G p), fun x v C H p => ok.rt x v C H (k2 x p), fun G g C H σ p => ok.bk G g C H σ (k3 G p), fun G g C H σ p => ok.ct G g C H σ (k4 G p)⟩
theorem sat_seq (h : SatS c t G { E with nx := fun G' => SatS c u G' E }) : SatS c (tSeq t u) G E := fun B g C H σ X I D ok =>
  h B g C H σ X I { D with nx := u D } ⟨fun G' g' C' H' σ' p s I' => p B g' C' H' σ' (X.on s) I' D (ok.on s), ok.rt, ok.bk, ok.ct⟩
theorem sat_next (p : E.nx G) : SatS c tNext G E := fun B g C H σ X I D ok => ok.nx G g C H σ p (Same.refl C) I
theorem sat_break (p : E.bk G) : SatS c tBreak G E := fun B g C H σ X I D ok => ok.bk G g C H σ p (Same.refl C) I
theorem sat_cont (p : E.ct G) : SatS c tCont G E := fun B g C H σ X I D ok => ok.ct G g C H σ p (Same.refl C) I
theorem sat_if (h : EvT c tc G fun b => (b = true → SatS c t G E) ∧ (b = false → SatS c u G E)) : SatS c (tIfS tc t u) G E := fun B g C H σ X I D ok =>
  h B g C H σ X I _ fun b C1 H1 h1 I1 g1 => by
    cases b with
    | true => rw [if_pos rfl]; exact h1.1 rfl B g C1 H1 σ (X.on g1.cc) I1 D (ok.on g1.cc)
    | false => rw [if_neg Bool.false_ne_true]; exact h1.2 rfl B g C1 H1 σ (X.on g1.cc) I1 D (ok.on g1.cc)
theorem sat_drop (h : EvP c te G fun _ => E.nx G) : SatS c (tDrop te) G E := fun B g C H σ X I D ok =>
  h B g C H σ X I _ fun x v C1 H1 h1 I1 g1 r1 => ok.nx G g C1 H1 σ h1 g1.cc I1
theorem sat_ret (h : EvP c te G E.rt) : SatS c (tRet te) G E := fun B g C H σ X I D ok =>
  h B g C H σ X I _ fun x v C1 H1 h1 I1 g1 r1 => ok.rt x v C1 H1 h1 I1.fin r1
theorem sat_retN (h : E.rt .none) : SatS c tRetN G E := fun B g C H σ X I D ok => ok.rt _ _ C H h I.fin .non
theorem sat_asg {i : Nat} (h : EvP c te G fun x => E.nx (G.put i (.d x))) : SatS c (tAsg te (gName i)) G E := fun B g C H σ X I D ok =>
  h B g C H σ X I _ fun x v C1 H1 h1 I1 g1 r1 => ok.nx _ g C1 H1 _ h1 g1.cc (I1.putD i r1)
/-- a, b = e1, e2 -/
theorem sat_par {i j : Nat} {ta : TA} (h : EvA c ta G fun as => ∃ x y, as = [.d x, .d y] ∧ E.nx ((G.put i (.d x)).put j (.d y))) : SatS c (tPar i j ta) G E := fun B g C H σ X I D ok =>
  h B g C H σ X I _ fun as vs C1 H1 h1 I1 g1 r1 => by
    obtain ⟨x, y, rfl, p⟩ := h1
    cases r1 with
    | cons ra rt =>
      cases rt with
      | cons rb rn =>
        cases rn
        exact ⟨_, _, rfl, ok.nx _ g C1 H1 _ p g1.cc ((I1.putD i ra).putD j rb)⟩
/-- targets -/
def EvG (c : Cn) (gt : TG) (G : Gm) (x : D) (P : Gm → Prop) : Prop :=
  ∀ B g C H σ, ExOk c B C → Holds c.K B G g C H σ → ∀ v, Rp c.K C v x → ∀ Q : St → Hp → Prop, (∀ G' C' H' σ', P G' → Holds c.K B G' g C' H' σ' → Grow g.ss C H C' H' → Q σ' H') → gt v σ H Q
theorem eg_name {i : Nat} {x : D} {P : Gm → Prop} (p : P (G.put i (.d x))) : EvG c (gName i) G x P := fun B g C H σ X I v r Q q => q _ C H _ p (I.putD i r) (Grow.refl I.ch)
theorem eg_tup2 {i j : Nat} {x y : D} {P : Gm → Prop} (p : P ((G.put i (.d x)).put j (.d y))) : EvG c (gTup c.K 2 (gCons (gName i) (gCons (gName j) gNil))) G (.tuple [x, y]) P := fun B g C H σ X I v r Q q => by
  cases r with
  | @tup a vs ds hs ha =>
    cases ha with
    | cons h1 t1 =>
      cases t1 with
      | cons h2 t2 =>
        cases t2
        exact ⟨a, _, rfl, sqT_mono I.ch hs, rfl, _, _, rfl, _, _, rfl, rfl, q _ C H _ p ((I.putD i h1).putD j h2) (Grow.refl I.ch)⟩
theorem eg_tup4 {i j k l : Nat} {x y z w : D} {P : Gm → Prop} (p : P ((((G.put i (.d x)).put j (.d y)).put k (.d z)).put l (.d w))) : EvG c (gTup c.K 4 (gCons (gName i) (gCons (gName j) (gCons (gName k) (gCons (gName l) gNil))))) G (.tuple [x, y, z, w]) P := fun B g C H σ X I v r Q q => by
  cases r with
  | @tup a vs ds hs ha =>
    cases ha with
    | cons h1 t1 =>
      cases t1 with
      | cons h2 t2 =>
        cases t2 with
        | cons h3 t3 =>
          cases t3 with
          | cons h4 t4 =>
            cases t4
            exact ⟨a, _, rfl, sqT_mono I.ch hs, rfl, _, _, rfl, _, _, rfl, _, _, rfl, _, _, rfl, rfl, q _ C H _ p ((((I.putD i h1).putD j h2).putD k h3).putD l h4) (Grow.refl I.ch)⟩
theorem sat_asgG {gt : TG} (h : EvP c te G fun x => EvG c gt G x E.nx) : SatS c (tAsg te gt) G E := fun B g C H σ X I D ok =>
  h B g C H σ X I _ fun x v C1 H1 h1 I1 g1 r1 => h1 B g C1 H1 σ (X.on g1.cc) I1 v r1 _ fun G' C2 H2 σ' p I2 g2 => ok.nx G' g C2 H2 σ' p (g1.trans g2).cc I2
/-! x += e -/
theorem sat_augI {i : Nat} {f : Int → Int → Int} {n : Int} (hi : G.sl[i]? = some (.d (.int n))) (h : EvP c te G fun x => ∃ m, x = .int m ∧ E.nx (G.put i (.d (.int (f n m))))) : SatS c (tAug i te (ipI f)) G E := fun B g C H σ X I D ok => by
  obtain ⟨v, h1, h2⟩ := I.sl i _ hi
  cases h2
  refine ⟨_, h1, h B g C H σ X I _ fun x w C1 H1 h3 I1 g1 r1 => ?_⟩
  obtain ⟨m, rfl, p⟩ := h3
  cases r1
  exact ⟨n, m, rfl, rfl, ok.nx _ g C1 H1 _ p g1.cc (I1.putD i (.int _))⟩
/-! loops -/
theorem sat_while {I : Nat → Gm → Prop} {m0 : Nat} (h0 : I m0 G) (hs : ∀ m G', I m G' → EvT c tc G' fun b => (b = true → SatS c t G' { E with nx := fun G2 => ∃ m', m' < m ∧ I m' G2, ct := fun G2 => ∃ m', m' < m ∧ I m' G2, bk := E.nx }) ∧ (b = false → E.nx G')) : SatS c (tWhile tc t) G E := fun B g C H σ X J D ok => by
  refine ⟨fun m σ H => ∃ G' g' C', I m G' ∧ Holds c.K B G' g' C' H σ ∧ Same C C', ⟨m0, G, g, C, h0, J, Same.refl C⟩, ?_⟩
  rintro m σ H ⟨G', g', C', i1, J', e⟩
  refine hs m G' i1 B g' C' H σ (X.on e) J' _ fun b C1 H1 h1 I1 g1 => ?_
  cases b with
  | true =>
    rw [if_pos rfl]
    refine ⟨fun σ' H' => ∃ m', m' < m ∧ ∃ G2 g2 C2, I m' G2 ∧ Holds c.K B G2 g2 C2 H' σ' ∧ Same C C2, ?_, ?_⟩
    · rintro σ' H' ⟨m', hm, r⟩
      exact ⟨m', hm, r⟩
    · have e1 : Same C C1 := e.trans g1.cc
      refine h1.1 rfl B g' C1 H1 σ (X.on e1) I1 _ ⟨?_, ok.rt, (ok.on e1).nx, ?_⟩
      · rintro G2 g2 C2 H2 σ2 ⟨m', hm, i2⟩ e2 I2
        exact ⟨m', hm, G2, g2, C2, i2, I2, e1.trans e2⟩
      · rintro G2 g2 C2 H2 σ2 ⟨m', hm, i2⟩ e2 I2
        exact ⟨m', hm, G2, g2, C2, i2, I2, e1.trans e2⟩
  | false =>
    rw [if_neg Bool.false_ne_true]
    exact ok.nx G' g' C1 H1 σ (h1.2 rfl) (e.trans g1.cc) I1
/-- what a loop asks of its invariant -/
def LoopI (c : Cn) (gt : TG) (t : TS) (xs : List D) (G : Gm) (E : DE) : Prop := ∃ I : Nat → Gm → Prop, I 0 G ∧
    (∀ n x G', xs[n]? = some x → I n G' → EvG c gt G' x fun G2 => SatS c t G2 { E with nx := I (n + 1), ct := I (n + 1), bk := E.nx }) ∧ (∀ G', I xs.length G' → E.nx G')
/-- over a list -/
theorem sat_forL {gt : TG} {tl : TE} (h : EvP c tl G fun d => ∃ xs, d = .list xs ∧ LoopI c gt t xs G E) : SatS c (tFor (iList c.K tl) gt t) G E := fun B g C H σ X J D ok =>
  h B g C H σ X J _ fun d v C1 H1 h1 I1 g1 r1 => by
    obtain ⟨xs, rfl, I, i0, hs, hd⟩ := h1
    cases r1 with
    | @lst a vs ds hq ha =>
      have hlen := RpAll.length ha
      refine ⟨a, rfl, ⟨vs, SqL.of (I1.ch _ _ hq)⟩, for_list (K := c.K) (a := a) (xs := vs) (fun n σ' H' => ∃ G' g' C', I n G' ∧ Holds c.K B G' g' C' H' σ' ∧ Same C1 C') ⟨G, g, C1, i0, I1, Same.refl _⟩ ?_ ?_ ?_⟩
      · rintro n σ' H' _ ⟨G', g', C', _, I', e⟩
        exact SqL.of ((e.trans I'.ch) _ _ hq)
      · rintro n v' σ' H' hn ⟨G', g', C', i1, I', e⟩
        obtain ⟨x, hx, rx⟩ := RpAll.getV ha hn
        refine hs n x G' hx i1 B g' C' H' σ' (X.on (g1.cc.trans e)) I' v' (rp_mono e rx) _ fun G2 C2 H2 σ2 p I2 g2 => ?_
        have e2 : Same C1 C2 := e.trans g2.cc
        exact p B g' C2 H2 σ2 (X.on (g1.cc.trans e2)) I2 _ ⟨fun G3 g3 C3 H3 σ3 p3 s3 I3 => ⟨G3, g3, C3, p3, I3, e2.trans s3⟩, ok.rt, ((ok.on g1.cc).on e2).nx, fun G3 g3 C3 H3 σ3 p3 s3 I3 => ⟨G3, g3, C3, p3, I3, e2.trans s3⟩⟩
      · rintro σ' H' ⟨G', g', C', i1, I', e⟩
        rw [hlen] at i1
        exact ok.nx G' g' C' H' σ' (hd G' i1) (g1.cc.trans e) I'
theorem sat_forT {gt : TG} {tl : TE} (h : EvP c tl G fun d => ∃ xs, d = .tuple xs ∧ LoopI c gt t xs G E) : SatS c (tFor (iTup c.K tl) gt t) G E := fun B g C H σ X J D ok =>
  h B g C H σ X J _ fun d v C1 H1 h1 I1 g1 r1 => by
    obtain ⟨xs, rfl, I, i0, hs, hd⟩ := h1
    cases r1 with
    | @tup a vs ds hq ha =>
      have hlen := RpAll.length ha
      refine ⟨a, rfl, ⟨vs, sqT_mono I1.ch hq⟩, for_tup (K := c.K) (a := a) (xs := vs) (fun n σ' H' => ∃ G' g' C', I n G' ∧ Holds c.K B G' g' C' H' σ' ∧ Same C1 C') ⟨G, g, C1, i0, I1, Same.refl _⟩ ?_ ?_ ?_⟩
      · rintro n σ' H' _ ⟨G', g', C', _, I', e⟩
        exact sqT_mono (e.trans I'.ch) hq
      · rintro n v' σ' H' hn ⟨G', g', C', i1, I', e⟩
        obtain ⟨x, hx, rx⟩ := RpAll.getV ha hn
        refine hs n x G' hx i1 B g' C' H' σ' (X.on (g1.cc.trans e)) I' v' (rp_mono e rx) _ fun G2 C2 H2 σ2 p I2 g2 => ?_
        have e2 : Same C1 C2 := e.trans g2.cc
        exact p B g' C2 H2 σ2 (X.on (g1.cc.trans e2)) I2 _ ⟨fun G3 g3 C3 H3 σ3 p3 s3 I3 => ⟨G3, g3, C3, p3, I3, e2.trans s3⟩, ok.rt, ((ok.on g1.cc).on e2).nx, fun G3 g3 C3 H3 σ3 p3 s3 I3 => ⟨G3, g3, C3, p3, I3, e2.trans s3⟩⟩
      · rintro σ' H' ⟨G', g', C', i1, I', e⟩
        rw [hlen] at i1
        exact ok.nx G' g' C' H' σ' (hd G' i1) (g1.cc.trans e) I'
/-- ints lo, lo + 1, .. -/
def rngD (lo : Int) (n : Nat) : List D := (List.range n).map fun (i : Nat) => .int (lo + (i : Int))
theorem rngD_len (lo : Int) (n : Nat) : (rngD lo n).length = n := by simp [rngD]
theorem rngD_at {lo : Int} {n i : Nat} (h : i < n) : (rngD lo n)[i]? = some (.int (lo + (i : Int))) := by simp [rngD, h]
theorem rngD_of {lo : Int} {n i : Nat} {x : D} (h : (rngD lo n)[i]? = some x) : i < n ∧ x = .int (lo + (i : Int)) := by
  have l := (List.getElem?_eq_some_iff.mp h).1
  rw [rngD_len] at l
  rw [rngD_at l] at h
  exact ⟨l, (Option.some.inj h).symm⟩
theorem for_rng {gt : TG} {B : Bs} {g : Gh} {C H : Hp} {σ : St} {lo : Int} {n : Nat} (X : ExOk c B C) (J : Holds c.K B G g C H σ) {D : Ends} (ok : DOk c.K B C E D) (h : LoopI c gt t (rngD lo n) G E) :
    ∃ W : Nat → Nat → St → Hp → Prop, (∃ m, W 0 m σ H) ∧ ∀ i m σ H, W i m σ H → ((Itr lo n).stop i H ∧ D.nx σ H) ∨ ((Itr lo n).go i H ∧ ∃ N : St → Hp → Prop, (∀ σ' H', N σ' H' → ∃ m', m' < m ∧ W (i + 1) m' σ' H') ∧ ∀ x H', (Itr lo n).yld i H x H' → gt x σ H' fun σ2 H2 => t { D with nx := N, ct := N, bk := D.nx } σ2 H2) := by
  obtain ⟨I, i0, hs, hd⟩ := h
  refine for_range (fun k σ' H' => ∃ G' g' C', I k G' ∧ Holds c.K B G' g' C' H' σ' ∧ Same C C') ⟨G, g, C, i0, J, Same.refl _⟩ ?_ ?_
  · rintro k σ' H' hk ⟨G', g', C', i1, I', e⟩
    refine hs k _ G' (rngD_at hk) i1 B g' C' H' σ' (X.on e) I' _ (.int _) _ fun G2 C2 H2 σ2 p I2 g2 => ?_
    have e2 : Same C C2 := e.trans g2.cc
    exact p B g' C2 H2 σ2 (X.on e2) I2 _ ⟨fun G3 g3 C3 H3 σ3 p3 s3 I3 => ⟨G3, g3, C3, p3, I3, e2.trans s3⟩, ok.rt, (ok.on e2).nx, fun G3 g3 C3 H3 σ3 p3 s3 I3 => ⟨G3, g3, C3, p3, I3, e2.trans s3⟩⟩
  · rintro σ' H' ⟨G', g', C', i1, I', e⟩
    exact ok.nx G' g' C' H' σ' (hd G' (by rw [rngD_len]; exact i1)) e I'
theorem sat_forR1 {gt : TG} {ta : TA} (h : EvA c ta G fun as => ∃ n : Int, as = [.d (.int n)] ∧ n ≤ 100000 ∧ -100000 ≤ n ∧ LoopI c gt t (rngD 0 n.toNat) G E) : SatS c (tFor (iRng1 ta) gt t) G E := fun B g C H σ X J D ok =>
  h B g C H σ X J _ fun as vs C1 H1 h1 I1 g1 r1 => by
    obtain ⟨n, rfl, l1, l2, L⟩ := h1
    cases r1 with
    | cons ra rt =>
      cases rt; cases ra
      exact ⟨n, rfl, by omega, by omega, for_rng (X.on g1.cc) I1 (ok.on g1.cc) L⟩
theorem sat_forR2 {gt : TG} {ta : TA} (h : EvA c ta G fun as => ∃ m n : Int, as = [.d (.int m), .d (.int n)] ∧ n ≤ 100000 ∧ -100000 ≤ n ∧ m ≤ 100000 ∧ -100000 ≤ m ∧ LoopI c gt t (rngD m (n - m).toNat) G E) : SatS c (tFor (iRng2 ta) gt t) G E := fun B g C H σ X J D ok =>
  h B g C H σ X J _ fun as vs C1 H1 h1 I1 g1 r1 => by
    obtain ⟨m, n, rfl, l1, l2, l3, l4, L⟩ := h1
    cases r1 with
    | cons ra rt =>
      cases rt with
      | cons rb rt =>
        cases rt; cases ra; cases rb
        exact ⟨m, n, rfl, by omega, for_rng (X.on g1.cc) I1 (ok.on g1.cc) L⟩
end
end DL
end
section
namespace DL
open PySem L2
def AV.sv : AV → SV
  | .d x => .d x
  | .st k => .st k
  | .val v => .val v
/-- the slots at a def's entry: the arguments, then n names that stand for nothing -/
def gin (as : List AV) (n : Nat) : Gm := ⟨as.map AV.sv ++ List.replicate n .any, []⟩
theorem AVs.slot {K : PySem.W.Frag} {C : Hp} {g : Gh} : ∀ {vs : List V} {as : List AV}, AVs K C g vs as → ∀ {i : Nat} {a : AV} {σ : St} {r : St} {j : Nat}, as[i]? = some a → σ.drop j = vs.map some ++ r → SlotOk K C g σ (j + i) a.sv
  | _, _, .nil, i, a, σ, r, j, e, _ => by simp at e
  | _, _, .cons (v := v) (vs := vs) (a := b) (as := as) h t, 0, a, σ, r, j, e, q => by
    simp at e
    subst e
    have e1 : σ[j]? = some (some v) := by
      have z : (σ.drop j)[0]? = some (some v) := by rw [q]; rfl
      rw [List.getElem?_drop] at z
      simpa using z
    show SlotOk K C g σ j _
    cases b with
    | d x => exact ⟨v, e1, h⟩
    | st k => obtain ⟨b, h1, h2⟩ := h; subst h2; exact ⟨b, h1, e1⟩
    | val w => cases h; exact e1
  | _, _, .cons (v := v) (vs := vs) (as := as) h t, i + 1, a, σ, r, j, e, q => by
    have e' : as[i]? = some a := by simpa using e
    have q' : σ.drop (j + 1) = vs.map some ++ r := by
      have z : (σ.drop j).drop 1 = vs.map some ++ r := by rw [q]; rfl
      rw [List.drop_drop] at z
      exact z
    have := AVs.slot t (i := i) (j := j + 1) e' q'
    rwa [show j + 1 + i = j + (i + 1) by omega] at this
/-- the entry of a def's body -/
theorem holds_in {K : PySem.W.Frag} {C H : Hp} {ss : List Addr} {vs : List V} {as : List AV} {N : List Str} (hs : Same C H) (ha : AVs K C ⟨ss, []⟩ vs as) (hst : ∀ s ∈ ss, Strm K C H s) (nd : ss.Nodup) (hN : as.length ≤ N.length) :
    Holds K ⟨ss, C, H⟩ (gin as (N.length - as.length)) ⟨ss, []⟩ C H (L2.start N vs) where
  gr := Grow.refl hs
  len := by
    have l := AVs.len ha
    simp [gin, L2.start]
    omega
  sl := fun i s e => by
    have l := AVs.len ha
    unfold gin at e
    by_cases q : i < as.length
    · rw [List.getElem?_append_left (by simpa using q), List.getElem?_map] at e
      obtain ⟨a, e1, rfl⟩ := Option.map_eq_some_iff.mp e
      have z := AVs.slot ha (i := i) (j := 0) (σ := L2.start N vs) (r := List.replicate (N.length - vs.length) none) e1 (by unfold L2.start; simp)
      rw [Nat.zero_add] at z
      exact z
    · rw [List.getElem?_append_right (by simpa using q)] at e
      have e2 := List.getElem?_eq_some_iff.mp e
      obtain ⟨h1, h2⟩ := e2
      rw [List.getElem_replicate] at h2
      subst h2
      trivial
  st := fun s h => ⟨hst s h, .inl h⟩
  sub := fun _ h => h
  hl := rfl
  ht := fun k h f e => by simp [gin] at e
  nw := fun f h => by simp at h
  nd := by simpa using nd
/-- how a def's body by data answers its promise -/
theorem sat_fn {K : PySem.W.Frag} {f : FS} {N : List Str} {vs : List V} {H : Hp} {Q : VK} {E : XK} {t : TS} (n : Nat) (h : spF K f vs H Q E) (hlen : ∀ as P PX, f as P PX → as.length = n) (hN : n ≤ N.length)
    (body : ∀ as P PX, f as P PX → SatS ⟨K, fun cls d _ H => E cls d H, fun x _ => PX x⟩ t (gin as (N.length - n)) { nx := fun _ => P .none, rt := P }) : t { nx := fun _ H' => Q .non H', rt := Q } (L2.start N vs) H := by
  obtain ⟨C, ss, as, P, PX, hs, ha, hst, nd, hf, hP, hX⟩ := h
  have l := hlen as P PX hf
  have I := holds_in (N := N) hs ha hst nd (by rw [l]; exact hN)
  rw [l] at I
  refine body as P PX hf _ _ _ _ _ ?_ I _ ⟨?_, ?_, ?_, ?_⟩
  · intro x G g C' H' σ cls d hx _ I' hxo
    exact hX x cls d C' H' hx I'.gr (fun s hs => (I'.st s (I'.sub s hs)).1) hxo
  · intro G g C' H' σ p s I'
    exact hP _ _ C' H' p I'.gr (fun s hs => (I'.st s (I'.sub s hs)).1) .non
  · intro x v C' H' p fin r
    exact hP x v C' H' p fin.1 fin.2 r
  · intro G g C' H' σ p
    exact p.elim
  · intro G g C' H' σ p
    exact p.elim
theorem spF_len {K : PySem.W.Frag} {f : FS} {n : Nat} (hlen : ∀ as P PX, f as P PX → as.length = n) {vs : List V} {H : Hp} {Q : VK} {E : XK} (h : spF K f vs H Q E) : vs.length = n := by
  obtain ⟨C, ss, as, P, PX, hs, ha, hst, nd, hf, hP, hX⟩ := h
  rw [AVs.len ha]
  exact hlen as P PX hf
section
variable {c : Cn} {G : Gm} {ta : TA} {te : TE} {P : D → Prop} {f : FS}
theorem call_core {B : Bs} {g : Gh} {C H : Hp} {σ : St} {as : List AV} {vs : List V} {PX : XD → Prop} {E : XK} (I : Holds c.K B G g C H σ) (ha : AVs c.K C g vs as) (hf : f as P PX) {Q : VK}
    (q : ∀ x v C' H', P x → Holds c.K B G g C' H' σ → Grow g.ss C H C' H' → Rp c.K C' v x → Q v H')
    (qx : ∀ x cls d C' H', PX x → Holds c.K B G g C' H' σ → Grow g.ss C H C' H' → XOk c.K C' H' cls d x → E cls d H') : spF c.K f vs H Q E := by
  have ha' : ∀ {vs : List V} {as : List AV}, AVs c.K C g vs as → AVs c.K C ⟨g.ss, []⟩ vs as := by
    intro vs as h
    induction h with
    | nil => exact .nil
    | cons h t ih =>
      refine .cons ?_ ih
      rename_i a _
      cases a <;> exact h
  refine ⟨C, g.ss, as, P, PX, I.ch, ha' ha, fun s h => (I.st s h).1, (List.nodup_append.mp I.nd).1, hf, ?_, ?_⟩
  · intro x v C' H' p gr st r
    exact q x v C' H' p (I.grow gr st) gr r
  · intro x cls d C' H' p gr st r
    exact qx x cls d C' H' p (I.grow gr st) gr r
/-- a call that raises nothing -/
theorem ev_call {E : XK} (h : EvA c ta G fun as => f as P fun _ => False) : EvP c (tCall (spF c.K f) [] E ta) G P := fun B g C H σ X I Q q =>
  h B g C H σ X I _ fun as vs C1 H1 h1 I1 g1 r1 => by
    rw [List.append_nil]
    exact call_core I1 r1 h1 (fun x v C2 H2 p I2 g2 r2 => q x v C2 H2 p I2 (g1.trans g2) r2) fun _ _ _ _ _ z => z.elim
/-- a call that may raise -/
theorem ev_callS (h : EvA c ta G fun as => f as P fun x => c.PX x G) : EvP c (tCallS (spF c.K f) (WE c.W) ta) G P := fun B g C H σ X I Q q =>
  h B g C H σ X I _ fun as vs C1 H1 h1 I1 g1 r1 => call_core I1 r1 h1 (fun x v C2 H2 p I2 g2 r2 => q x v C2 H2 p I2 (g1.trans g2) r2) fun x cls d C2 H2 p I2 g2 xo => X x G g C2 H2 σ cls d p (g1.trans g2).cc I2 xo
/-- a built-in's call, by values -/
def KC (c : Cn) (G : Gm) (r : List V → Hp → VK → Prop) (as : List AV) (P : D → Prop) : Prop :=
  ∀ B g C H σ, ExOk c B C → Holds c.K B G g C H σ → ∀ vs, AVs c.K C g vs as → ∀ Q : VK, (∀ z u C' H', P z → Holds c.K B G g C' H' σ → Grow g.ss C H C' H' → Rp c.K C' u z → Q u H') → r vs H Q
theorem ev_cb {r : List V → Hp → VK → Prop} (h : EvA c ta G fun as => KC c G r as P) : EvP c (tCB r ta) G P := fun B g C H σ X I Q q =>
  h B g C H σ X I _ fun as vs C1 H1 h1 I1 g1 r1 => h1 B g C1 H1 σ (X.on g1.cc) I1 vs r1 Q fun z u C2 H2 p I2 g2 r2 => q z u C2 H2 p I2 (g1.trans g2) r2
theorem kc_abs {i : Int} (p : P (.int (if i < 0 then -i else i))) : KC c G (fun xs H Q => ∃ i, xs = [.int i] ∧ Q (.int (if i < 0 then -i else i)) H) [.d (.int i)] P := fun B g C H σ X I vs ha Q q => by
  cases ha with
  | cons h t => cases t; cases h; exact ⟨i, rfl, q _ _ C H p I (Grow.refl I.ch) (.int _)⟩
theorem kc_int {i : Int} (p : P (.int i)) : KC c G (fun xs H Q => (∃ i, xs = [.int i] ∧ Q (.int i) H) ∨ ∃ k, xs = [.bl k] ∧ Q (.int (if k then 1 else 0)) H) [.d (.int i)] P := fun B g C H σ X I vs ha Q q => by
  cases ha with
  | cons h t => cases t; cases h; exact .inl ⟨i, rfl, q _ _ C H p I (Grow.refl I.ch) (.int _)⟩
theorem kc_intB {k : Bool} (p : P (.int (if k then 1 else 0))) : KC c G (fun xs H Q => (∃ i, xs = [.int i] ∧ Q (.int i) H) ∨ ∃ k, xs = [.bl k] ∧ Q (.int (if k then 1 else 0)) H) [.d (.bool k)] P := fun B g C H σ X I vs ha Q q => by
  cases ha with
  | cons h t => cases t; cases h; exact .inr ⟨k, rfl, q _ _ C H p I (Grow.refl I.ch) (.int _)⟩
def dlen : D → Option Nat
  | .list xs => some xs.length
  | .tuple xs => some xs.length
  | .str z => if z.length ≤ 100000 then some z.length else none
  | _ => none
theorem kc_len {x : D} {n : Nat} (e : dlen x = some n) (p : P (.int n)) : KC c G (fun xs H Q => ∃ x n, xs = [x] ∧ LenV c.K x H n ∧ Q (.int n) H) [.d x] P := fun B g C H σ X I vs ha Q q => by
  cases ha with
  | cons h t =>
    cases t
    have h' : Rp c.K C _ x := h
    cases h' with
    | lst hs ha =>
      have e2 : some _ = some n := e
      cases e2
      exact ⟨_, _, rfl, .inl ⟨_, SqL.of (I.ch _ _ hs), rfl⟩, by rw [RpAll.length ha]; exact q _ _ C H p I (Grow.refl I.ch) (.int _)⟩
    | tup hs ha =>
      have e2 : some _ = some n := e
      cases e2
      exact ⟨_, _, rfl, .inr ⟨_, sqT_mono I.ch hs, rfl⟩, by rw [RpAll.length ha]; exact q _ _ C H p I (Grow.refl I.ch) (.int _)⟩
    | str z =>
      have e2 : (if z.length ≤ 100000 then some z.length else none) = some n := e
      split at e2
      · rename_i hz
        cases e2
        exact ⟨_, _, rfl, ⟨le_line hz, rfl⟩, q _ _ C H p I (Grow.refl I.ch) (.int _)⟩
      · cases e2
    | _ => cases e
theorem kc_all {bs : List Bool} (p : P (.bool (bs.all id))) : KC c G (rAll c.K) [.d (.list (bs.map .bool))] P := fun B g C H σ X I vs ha Q q => by
  cases ha with
  | cons h t =>
    cases t
    have h' : Rp c.K C _ (.list (bs.map .bool)) := h
    cases h' with
    | lst hs ha =>
      have e := RpAll.bls ha
      subst e
      exact ⟨_, bs, rfl, SqL.of (I.ch _ _ hs), q _ _ C H p I (Grow.refl I.ch) (.bl _)⟩
theorem kc_any {bs : List Bool} (p : P (.bool (bs.any id))) : KC c G (rAny c.K) [.d (.list (bs.map .bool))] P := fun B g C H σ X I vs ha Q q => by
  cases ha with
  | cons h t =>
    cases t
    have h' : Rp c.K C _ (.list (bs.map .bool)) := h
    cases h' with
    | lst hs ha =>
      have e := RpAll.bls ha
      subst e
      exact ⟨_, bs, rfl, SqL.of (I.ch _ _ hs), q _ _ C H p I (Grow.refl I.ch) (.bl _)⟩
/-- isinstance of a datum -/
def tyOf : D → String
  | .none => "NoneType"
  | .bool _ => "bool"
  | .int _ => "int"
  | .str _ => "str"
  | .list _ => "list"
  | .tuple _ => "tuple"
  | .dict _ => "dict"
theorem rp_ty {K : PySem.W.Frag} {C : Hp} {v : V} {x : D} (h : Rp K C v x) : TyX K C v (.type (tyOf x)) := by
  cases h with
  | non => exact .base .non
  | bl b => exact .base (.bl b)
  | int i => exact .base (.int i)
  | str x => exact .base (.str x)
  | lst hs ha => exact .base (.lst hs)
  | tup hs ha =>
    rcases hs with (h | ⟨o, h⟩) | ⟨o, its, n, h, hc, _⟩
    · exact .base (.tup h)
    · exact .fTuple h
    · exact .kTuple h hc
  | dic h =>
    rcases h with ⟨k, h⟩ | ⟨k, h⟩
    · exact .base (.dK h)
    · exact .base (.dT h)
/-- is x of the built-in type n -/
def isI (x : D) (n : String) : Option Bool := kitB (tyOf x) n
theorem kc_isi {x : D} {n : String} {b : Bool} (e : isI x n = some b) (p : P (.bool b)) : KC c G (rIsi c.K) [.d x, .val (.ty n)] P := fun B g C H σ X I vs ha Q q => by
  cases ha with
  | cons h t =>
    cases t with
    | cons h2 t2 =>
      cases t2
      have h' : Rp c.K C _ x := h
      obtain rfl : _ = V.ty n := h2
      exact ⟨_, _, _, _, b, rfl, .ty n, rp_ty (rp_mono I.ch h'), kit_ty e, q _ _ C H p I (Grow.refl I.ch) (.bl _)⟩
def kitBs (a : String) : List String → Option Bool
  | [] => some false
  | n :: r => match kitB a n with
    | some true => some true
    | some false => kitBs a r
    | none => none
theorem kit_any {K : PySem.W.Frag} {a : String} : ∀ {ns : List String} {b : Bool}, kitBs a ns = some b → PySem.W.kitAny K (.type a) (ns.map Value.type) = some b
  | [], b, h => by
    cases h
    exact kitAny_nil
  | n :: r, b, h => by
    unfold kitBs at h
    cases e : kitB a n with
    | none => rw [e] at h; cases h
    | some k =>
      rw [e] at h
      cases k with
      | true => cases h; exact kitAny_cons (kit_ty e) (fun z => by cases z) fun _ => rfl
      | false => exact kitAny_cons (kit_ty e) (fun _ => kit_any h) fun z => by cases z
theorem clsV_all (ns : List String) : Paired ClsV (ns.map V.ty) (ns.map Value.type) := by
  induction ns with
  | nil => exact .nil
  | cons n r ih => exact .cons (.ty n) ih
def tyArgs : List String → TA
  | [] => tNil
  | n :: r => tCons (tC (.ty n)) (tyArgs r)
theorem tyArgs_run {σ : St} {H : Hp} : ∀ (ns : List String) (Q : List V → Hp → Prop), Q (ns.map V.ty) H → tyArgs ns σ H Q
  | [], Q, q => q
  | n :: r, Q, q => tyArgs_run r (fun xs H2 => Q (.ty n :: xs) H2) q
/-- isinstance(e, (t1, t2, ..)) -/
theorem ev_isiT {ns : List String} (hl : ns.length ≤ 100000) (h : EvP c te G fun x => ∃ b, kitBs (tyOf x) ns = some b ∧ P (.bool b)) : EvP c (tCB (rIsiT c.K) (tCons te (tCons (tTup (tyArgs ns)) tNil))) G P := fun B g C H σ X I Q q =>
  h B g C H σ X I _ fun x v C1 H1 h1 I1 g1 r1 => by
    obtain ⟨b, e, p⟩ := h1
    refine tyArgs_run ns _ ⟨by rw [List.length_map]; exact le_line hl, fun a ha => ?_⟩
    have g2 := Grow.cold (M := g.ss) I1.ch (.tup (ns.map V.ty)) ha
    have I2 := I1.cold (.tup (ns.map V.ty)) ha
    exact ⟨v, a, ns.map V.ty, _, ns.map Value.type, b, rfl, upd_same, clsV_all ns, rp_ty (rp_mono (g1.trans g2 |>.cc |> fun _ => (g2.cc.trans I2.ch)) r1), kit_any e, q _ _ _ _ p I2 (g1.trans g2) (.bl _)⟩
end
end DL
end
section
namespace DL
open PySem L2
def Gm.wipe (G : Gm) : List Nat → Gm
  | [] => G
  | v :: vs => (G.wipe vs).put v .any
section
variable {K : PySem.W.Frag} {B : Bs} {G : Gm} {g : Gh} {C H : Hp} {σ : St} {p : Addr}
theorem Holds.wipe (I : Holds K B G g C H σ) : ∀ vs : List Nat, Holds K B (G.wipe vs) g C H (L2.wipe σ vs)
  | [] => I
  | v :: vs => (Holds.wipe I vs).putAny v none
end
section
variable {c : Cn} {G : Gm} {ta tb te tl : TE} {tt : TT} {P : D → Prop} {gt : TG}
def EvGw (c : Cn) (gt : TG) (G : Gm) (vs : List Nat) (x : D) (P : Gm → Prop) : Prop :=
  ∀ B g C H σ, ExOk c B C → Holds c.K B G g C H σ → ∀ v, Rp c.K C v x → ∀ Q : St → Hp → Prop, (∀ G' C' H' σ', P G' → L2.wipe σ' vs = L2.wipe σ vs → Holds c.K B G' g C' H' σ' → Grow g.ss C H C' H' → Q σ' H') → gt v σ H Q
theorem wipe_set {σ : St} {i : Nat} {x : Option V} : ∀ {vs : List Nat}, i ∈ vs → L2.wipe (σ.set i x) vs = L2.wipe σ vs
  | v :: vs, h => by
    unfold L2.wipe
    by_cases hv : i ∈ vs
    · rw [wipe_set hv]
    · have e : i = v := by
        rcases List.mem_cons.mp h with z | z
        · exact z
        · exact absurd z hv
      subst e
      have q : ∀ (us : List Nat) (σ : St), i ∉ us → L2.wipe (σ.set i x) us = (L2.wipe σ us).set i x := by
        intro us
        induction us with
        | nil => intro σ _; rfl
        | cons u us ih =>
          intro σ n
          unfold L2.wipe
          rw [ih σ (fun z => n (by simp [z])), List.set_comm]
          intro z
          exact n (by simp [z])
      rw [q vs σ hv, List.set_set]
theorem egw_name {i : Nat} {vs : List Nat} {x : D} {P : Gm → Prop} (hi : i ∈ vs) (p : P (G.put i (.d x))) : EvGw c (gName i) G vs x P := fun B g C H σ X I v r Q q => q _ C H _ p (wipe_set hi) (I.putD i r) (Grow.refl I.ch)
theorem egw_tup2 {i j : Nat} {vs : List Nat} {x y : D} {P : Gm → Prop} (hi : i ∈ vs) (hj : j ∈ vs) (p : P ((G.put i (.d x)).put j (.d y))) : EvGw c (gTup c.K 2 (gCons (gName i) (gCons (gName j) gNil))) G vs (.tuple [x, y]) P := fun B g C H σ X I v r Q q => by
  cases r with
  | @tup a vs ds hs ha =>
    cases ha with
    | cons h1 t1 =>
      cases t1 with
      | cons h2 t2 =>
        cases t2
        exact ⟨a, _, rfl, sqT_mono I.ch hs, rfl, _, _, rfl, _, _, rfl, rfl, q _ C H _ p (by rw [wipe_set hj, wipe_set hi]) ((I.putD i h1).putD j h2) (Grow.refl I.ch)⟩
/-- what a comprehension asks of its invariant -/
def CompI (c : Cn) (gt : TG) (tt : TT) (te : TE) (vs : List Nat) (xs : List D) (G : Gm) (P : List D → Prop) : Prop := ∃ I : Nat → List D → Prop, I 0 [] ∧
  (∀ n x acc, xs[n]? = some x → I n acc → acc.length < 100000 ∧ EvGw c gt (G.wipe vs) vs x fun G2 => EvT c tt G2 fun b => (b = true → EvP c te G2 fun y => I (n + 1) (acc ++ [y])) ∧ (b = false → I (n + 1) acc)) ∧
  (∀ acc, I xs.length acc → acc.length ≤ 100000 ∧ P acc)
def CInv (c : Cn) (B : Bs) (G : Gm) (g : Gh) (σ : St) (C1 H1 : Hp) (p : Addr) (I : List D → Prop) (H' : Hp) : Prop :=
  ∃ C' vs acc, I acc ∧ Holds c.K B G g C' H' σ ∧ Grow g.ss C1 H1 C' H' ∧ C' p = none ∧ H' p = some (.lst vs) ∧ RpAll c.K C' vs acc
theorem comp_start {B : Bs} {g : Gh} {σ : St} {C1 H1 : Hp} {p : Addr} {I : List D → Prop} (J : Holds c.K B G g C1 H1 σ) (hp : H1 p = none) (i0 : I []) : CInv c B G g σ C1 H1 p I (upd H1 p (.lst [])) := by
  have g2 := Grow.hot (M := g.ss) J.ch (.lst []) hp
  refine ⟨C1, [], [], i0, J.grow0 (Grow.hot J.ch (.lst []) hp), g2, ?_, upd_same, .nil⟩
  cases z : C1 p with
  | none => rfl
  | some o => rw [J.ch p o z] at hp; cases hp
theorem comp_turn {B : Bs} {g : Gh} {σ : St} {C1 H1 H' : Hp} {p : Addr} {vs : List Nat} {I I' : List D → Prop} {x : D} {v : V} (X : ExOk c B C1) (f : Off B g p) (h1p : H1 p = none) (hx : Rp c.K C1 v x) (h : CInv c B G g σ C1 H1 p I H')
    (hs : ∀ acc, I acc → acc.length < 100000 ∧ EvGw c gt (G.wipe vs) vs x fun G2 => EvT c tt G2 fun b => (b = true → EvP c te G2 fun y => I' (acc ++ [y])) ∧ (b = false → I' acc)) :
    gt v (L2.wipe σ vs) H' fun σ2 H2 => L2.wipe σ2 vs = L2.wipe σ vs ∧ tt σ2 H2 fun b H3 =>
      if b = true then te σ2 H3 fun y H4 => ∃ acc, H4 p = some (.lst acc) ∧ acc.length < sizeLine ∧ CInv c B G g σ C1 H1 p I' (upd H4 p (.lst (acc ++ [y]))) else CInv c B G g σ C1 H1 p I' H3 := by
  obtain ⟨C', ws, acc, i1, J, e, hc, hp, ra⟩ := h
  obtain ⟨hl, body⟩ := hs acc i1
  have wv : ∀ us : List Nat, (∀ i ∈ us, i ∈ vs) → L2.wipe (L2.wipe σ us) vs = L2.wipe σ vs := by
    intro us
    induction us with
    | nil => intro _; rfl
    | cons u us ih =>
      intro h
      show L2.wipe ((L2.wipe σ us).set u none) vs = _
      rw [wipe_set (h u (by simp)), ih fun i hi => h i (by simp [hi])]
  refine body B g C' H' (L2.wipe σ vs) (X.on e.cc) (J.wipe vs) v (rp_mono e.cc hx) _ fun G2 C2 H2 σ2 b2 w2 J2 g2 => ⟨w2.trans (wv vs fun _ z => z), ?_⟩
  refine b2 B g C2 H2 σ2 (X.on (e.trans g2).cc) J2 _ fun b C3 H3 b3 J3 g3 => ?_
  have g23 := g2.trans g3
  cases b with
  | true =>
    rw [if_pos rfl]
    refine b3.1 rfl B g C3 H3 σ2 (X.on (e.trans g23).cc) J3 _ fun y u C4 H4 b4 J4 g4 r4 => ?_
    have gg := g23.trans g4
    have hp4 := gg.hh p _ f.ss hp
    have hc4 := gg.hc p (by rw [hp]; simp) hc
    refine ⟨ws, hp4, by rw [RpAll.length ra]; exact lt_line hl, C4, ws ++ [u], acc ++ [y], b4, ?_, (e.trans gg).wr _ (.inr h1p) hc4, hc4, upd_same, RpAll.append (rpAll_mono gg.cc ra) (RpAll.one r4)⟩
    have J' : Holds c.K B G g C4 H4 σ := J.grow gg fun s hs => (J4.st s hs).1
    exact J'.wrOff f hc4 _
  | false =>
    rw [if_neg Bool.false_ne_true]
    refine ⟨C3, ws, acc, b3.2 rfl, J.grow g23 fun s hs => (J3.st s hs).1, e.trans g23, g23.hc p (by rw [hp]; simp) hc, g23.hh p _ f.ss hp, rpAll_mono g23.cc ra⟩
theorem CInv.fin {B : Bs} {g : Gh} {σ : St} {C H C1 H1 H' : Hp} {p : Addr} {Pl : List D → Prop} (g1 : Grow g.ss C H C1 H1) (hp : H1 p = none) (f : Off B g p) (h : CInv c B G g σ C1 H1 p Pl H')
    {Q : VK} (q : ∀ xs p vs C' H', Pl xs → Holds c.K B G g C' H' σ → Grow g.ss C H C' H' → Off B g p → H p = none → C' p = none → H' p = some (.lst vs) → RpAll c.K C' vs xs → Q (.ref p) H') : Q (.ref p) H' := by
  obtain ⟨C', ws, acc, i1, J, e, hc, hp2, ra⟩ := h
  refine q acc p ws C' H' i1 J (g1.trans e) f ?_ hc hp2 ra
  cases z : H p with
  | none => rfl
  | some o => exact absurd hp (g1.al p (by rw [z]; simp))
theorem CInv.imp {B : Bs} {g : Gh} {σ : St} {C1 H1 H' : Hp} {p : Addr} {I I' : List D → Prop} (h : CInv c B G g σ C1 H1 p I H') (k : ∀ x, I x → I' x) : CInv c B G g σ C1 H1 p I' H' := by
  obtain ⟨C', ws, acc, i1, r⟩ := h
  exact ⟨C', ws, acc, k _ i1, r⟩
/-- [e for x in xs if t] -/
theorem el_compL {vs : List Nat} {P : List D → Prop} (h : EvP c tl G fun d => ∃ xs, d = .list xs ∧ CompI c gt tt te vs xs G P) : EvL c (tLc (iList c.K tl) gt tt te vs) G P := fun B g C H σ X J Q q =>
  h B g C H σ X J _ fun d v C1 H1 h1 J1 g1 r1 => by
    obtain ⟨xs, rfl, I, i0, hs, hd⟩ := h1
    cases r1 with
    | @lst a us ds hq ha =>
      have hlen := RpAll.length ha
      refine ⟨a, rfl, ⟨us, SqL.of (J1.ch _ _ hq)⟩, fun p hp => ?_⟩
      refine lc_list (K := c.K) (a := a) (xs := us) (fun n H' => CInv c B G g σ C1 H1 p (I n) H') (comp_start J1 hp i0) ?_ ?_ ?_
      · rintro n H' _ ⟨C', _, _, _, J', e, _⟩
        exact SqL.of ((e.cc.trans J'.ch) _ _ hq)
      · intro n u H' hn ci
        obtain ⟨x, hx, rx⟩ := RpAll.getV ha hn
        exact comp_turn (X.on g1.cc) (J1.off hp) hp rx ci fun acc i1 => hs n x acc hx i1
      · intro H' ci
        rw [hlen] at ci
        exact (ci.imp fun acc i => (hd acc i).2).fin g1 hp (J1.off hp) q
theorem el_compT {vs : List Nat} {P : List D → Prop} (h : EvP c tl G fun d => ∃ xs, d = .tuple xs ∧ CompI c gt tt te vs xs G P) : EvL c (tLc (iTup c.K tl) gt tt te vs) G P := fun B g C H σ X J Q q =>
  h B g C H σ X J _ fun d v C1 H1 h1 J1 g1 r1 => by
    obtain ⟨xs, rfl, I, i0, hs, hd⟩ := h1
    cases r1 with
    | @tup a us ds hq ha =>
      have hlen := RpAll.length ha
      refine ⟨a, rfl, ⟨us, sqT_mono J1.ch hq⟩, fun p hp => ?_⟩
      refine lc_tup (K := c.K) (a := a) (xs := us) (fun n H' => CInv c B G g σ C1 H1 p (I n) H') (comp_start J1 hp i0) ?_ ?_ ?_
      · rintro n H' _ ⟨C', _, _, _, J', e, _⟩
        exact sqT_mono (e.cc.trans J'.ch) hq
      · intro n u H' hn ci
        obtain ⟨x, hx, rx⟩ := RpAll.getV ha hn
        exact comp_turn (X.on g1.cc) (J1.off hp) hp rx ci fun acc i1 => hs n x acc hx i1
      · intro H' ci
        rw [hlen] at ci
        exact (ci.imp fun acc i => (hd acc i).2).fin g1 hp (J1.off hp) q
theorem el_compR1 {ta : TA} {vs : List Nat} {P : List D → Prop} (h : EvA c ta G fun as => ∃ n : Int, as = [.d (.int n)] ∧ n ≤ 100000 ∧ -100000 ≤ n ∧ CompI c gt tt te vs (rngD 0 n.toNat) G P) : EvL c (tLc (iRng1 ta) gt tt te vs) G P := fun B g C H σ X J Q q =>
  h B g C H σ X J _ fun as us C1 H1 h1 J1 g1 r1 => by
    obtain ⟨n, rfl, l1, l2, I, i0, hs, hd⟩ := h1
    cases r1 with
    | cons ra rt =>
      cases rt; cases ra
      refine ⟨n, rfl, by omega, by omega, fun p hp => ?_⟩
      refine lc_range (lo := 0) (n := n.toNat) (fun k H' => CInv c B G g σ C1 H1 p (I k) H') (comp_start J1 hp i0) ?_ ?_
      · intro k H' hk ci
        exact comp_turn (X.on g1.cc) (J1.off hp) hp (.int _) ci fun acc i1 => hs k _ acc (rngD_at hk) i1
      · intro H' ci
        rw [rngD_len] at hd
        exact (ci.imp fun acc i => (hd acc i).2).fin g1 hp (J1.off hp) q
end
end DL
end
section
namespace DL
open PySem L2
/-! hot objects -/
def Gm.setHot (G : Gm) (k : Nat) (h : HV) : Gm := { G with hot := G.hot.set k h }
def Gm.addHot (G : Gm) (i : Nat) (h : HV) : Gm := ⟨G.sl.set i (.hot G.hot.length), G.hot ++ [h]⟩
def SV.cool (k : Nat) (x : D) : SV → SV
  | .hot j => if j = k then .d x else .hot j
  | s => s
/-- hot list k becomes a datum -/
def Gm.cool (G : Gm) (k : Nat) (x : D) : Gm := ⟨G.sl.map (SV.cool k x), G.hot.set k .off⟩
section
variable {K : PySem.W.Frag} {B : Bs} {G : Gm} {g : Gh} {C H : Hp} {σ : St} {p : Addr}
theorem Holds.hotL (I : Holds K B G g C H σ) {k : Nat} {xs : List D} (h : G.hot[k]? = some (.lst xs)) : ∃ a vs, g.hs[k]? = some [a] ∧ C a = none ∧ H a = some (.lst vs) ∧ RpAll K C vs xs := by
  have hk : k < g.hs.length := by rw [← I.hl]; exact (List.getElem?_eq_some_iff.mp h).1
  obtain ⟨a, vs, h1, h2, h3, h4⟩ := I.ht k _ _ h (List.getElem?_eq_getElem hk)
  exact ⟨a, vs, by rw [List.getElem?_eq_getElem hk, h1], h2, h3, h4⟩
theorem Holds.addHot (I : Holds K B G g C H σ) {i : Nat} {xs : List D} {vs : List V} (f : Off B g p) (hc : C p = none) (hv : H p = some (.lst vs)) (ra : RpAll K C vs xs) :
    Holds K B (G.addHot i (.lst xs)) ⟨g.ss, g.hs ++ [[p]]⟩ C H (σ.set i (some (.ref p))) where
  gr := I.gr
  len := by simp [Gm.addHot, I.len]
  sl := fun j s e => by
    have up : ∀ {j : Nat} {s : SV} {σ : St}, SlotOk K C g σ j s → SlotOk K C ⟨g.ss, g.hs ++ [[p]]⟩ σ j s := by
      intro j s σ h
      cases s with
      | hot k =>
        obtain ⟨a, f, h1, h2⟩ := h
        refine ⟨a, f, ?_, h2⟩
        show (g.hs ++ [[p]])[k]? = _
        rw [List.getElem?_append_left (List.getElem?_eq_some_iff.mp h1).1]
        exact h1
      | any => trivial
      | d x => exact h
      | st k => exact h
      | val v => exact h
    have e' : (G.sl.set i (.hot G.hot.length))[j]? = some s := e
    by_cases q : j = i
    · subst q
      have hj : j < G.sl.length := by
        have := (List.getElem?_eq_some_iff.mp e').1
        simpa using this
      rw [List.getElem?_set_self hj] at e'
      cases e'
      refine ⟨p, [], ?_, ?_⟩
      · show (g.hs ++ [[p]])[G.hot.length]? = _
        rw [I.hl]
        simp
      · rw [List.getElem?_set_self (by rw [I.len]; exact hj)]
    · rw [List.getElem?_set_ne (Ne.symm q)] at e'
      exact up ((I.sl j s e').set_ne q)
  st := I.st
  sub := I.sub
  hl := by simp [Gm.addHot, I.hl]
  ht := fun k h x e1 e2 => by
    have e1' : (G.hot ++ [HV.lst xs])[k]? = some h := e1
    have e2' : (g.hs ++ [[p]])[k]? = some x := e2
    by_cases q : k < G.hot.length
    · rw [List.getElem?_append_left q] at e1'
      rw [List.getElem?_append_left (by rw [← I.hl]; exact q)] at e2'
      exact I.ht k h x e1' e2'
    · have q1 : k = G.hot.length := by
        have := (List.getElem?_eq_some_iff.mp e1').1
        simp at this
        omega
      subst q1
      rw [List.getElem?_append_right (Nat.le_refl _)] at e1'
      rw [I.hl, List.getElem?_append_right (Nat.le_refl _)] at e2'
      simp at e1' e2'
      subst e1' e2'
      exact ⟨p, vs, rfl, hc, hv, ra⟩
  nw := fun x hx a ha => by
    rcases List.mem_append.mp hx with z | z
    · exact I.nw x z a ha
    · have : x = [p] := by simpa using z
      subst this
      have : a = p := by simpa using ha
      subst this
      exact f.bh
  nd := by
    have := I.nd
    rw [List.nodup_append] at this ⊢
    obtain ⟨n1, n2, n3⟩ := this
    simp only [List.flatten_append, List.flatten_cons, List.flatten_nil, List.append_nil]
    refine ⟨n1, ?_, ?_⟩
    · rw [List.nodup_append]
      refine ⟨n2, by simp, fun a ha b hb => ?_⟩
      have : b = p := by simpa using hb
      subst this
      intro z; subst z
      exact f.hs ha
    · intro a ha b hb
      rcases List.mem_append.mp hb with z | z
      · exact n3 a ha b z
      · have : b = p := by simpa using z
        subst this
        intro z; subst z
        exact f.ss ha
/-- hot list k is written -/
theorem Holds.wrHot (I : Holds K B G g C H σ) {k : Nat} {xs ys : List D} {vs : List V} {a : Addr} (h : G.hot[k]? = some (.lst xs)) (ha : g.hs[k]? = some [a]) (ra : RpAll K C vs ys) : Holds K B (G.setHot k (.lst ys)) g C (upd H a (.lst vs)) σ := by
  have am : a ∈ g.hs.flatten := List.mem_flatten.mpr ⟨[a], List.mem_of_getElem? ha, by simp⟩
  have ha0 := I.foot am
  have na : a ∉ g.ss := I.apart ha (by simp)
  have hb : B.H a = none := I.nw _ (List.mem_of_getElem? ha) a (by simp)
  refine ⟨I.gr.wr _ (.inr hb) ha0.2, I.len, I.sl, fun s hs => ⟨(I.st s hs).1.wr (by intro z; subst z; exact na hs), (I.st s hs).2⟩, I.sub, ?_, ?_, I.nw, I.nd⟩
  · simp [Gm.setHot, I.hl]
  · intro j hh x e1 e2
    have e1' : (G.hot.set k (.lst ys))[j]? = some hh := e1
    by_cases q : j = k
    · subst q
      rw [List.getElem?_set_self (List.getElem?_eq_some_iff.mp h).1] at e1'
      rw [ha] at e2
      cases e1'; cases e2
      exact ⟨a, vs, rfl, ha0.2, upd_same, ra⟩
    · rw [List.getElem?_set_ne (Ne.symm q)] at e1'
      refine (I.ht j hh x e1' e2).wr fun z => ?_
      -- a is in two footprints
      have nd := (List.nodup_append.mp I.nd).2.1
      have ij : ∀ (l : List (List Addr)) (i j : Nat) (x y : List Addr) (a : Addr), l.flatten.Nodup → l[i]? = some x → l[j]? = some y → a ∈ x → a ∈ y → i = j := by
        intro l
        induction l with
        | nil => intro i j x y a _ h; simp at h
        | cons w l ih =>
          intro i j x y a n h1 h2 hx hy
          rw [List.flatten_cons, List.nodup_append] at n
          obtain ⟨n1, n2, n3⟩ := n
          cases i with
          | zero =>
            cases j with
            | zero => rfl
            | succ j =>
              simp at h1 h2
              subst h1
              exact absurd rfl (n3 a hx a (List.mem_flatten.mpr ⟨y, List.mem_of_getElem? h2, hy⟩))
          | succ i =>
            cases j with
            | zero =>
              simp at h1 h2
              subst h2
              exact absurd rfl (n3 a hy a (List.mem_flatten.mpr ⟨x, List.mem_of_getElem? h1, hx⟩))
            | succ j =>
              simp at h1 h2
              rw [ih i j x y a n2 h1 h2 hx hy]
      exact q (ij g.hs j k x [a] a nd e2 ha z (by simp))
theorem flatten_set_nil : ∀ (l : List (List Addr)) (k : Nat) (a : Addr), a ∈ (l.set k []).flatten → a ∈ l.flatten
  | [], _, a, h => by simpa using h
  | x :: l, 0, a, h => by
    simp only [List.set_cons_zero, List.flatten_cons, List.nil_append] at h
    simp only [List.flatten_cons, List.mem_append]
    exact .inr h
  | x :: l, k + 1, a, h => by
    simp only [List.set_cons_succ, List.flatten_cons, List.mem_append] at h ⊢
    rcases h with z | z
    · exact .inl z
    · exact .inr (flatten_set_nil l k a z)
theorem nodup_set_nil : ∀ (l : List (List Addr)) (k : Nat), l.flatten.Nodup → (l.set k []).flatten.Nodup
  | [], _, h => by simpa using h
  | x :: l, 0, h => by
    simp only [List.flatten_cons, List.set_cons_zero, List.nil_append] at h ⊢
    exact (List.nodup_append.mp h).2.1
  | x :: l, k + 1, h => by
    simp only [List.flatten_cons, List.set_cons_succ] at h ⊢
    rw [List.nodup_append] at h ⊢
    obtain ⟨h1, h2, h3⟩ := h
    exact ⟨h1, nodup_set_nil l k h2, fun a ha b hb => h3 a ha b (flatten_set_nil l k b hb)⟩
theorem Holds.cool (I : Holds K B G g C H σ) {k : Nat} {xs : List D} (h : G.hot[k]? = some (.lst xs)) : ∃ g' C', Holds K B (G.cool k (.list xs)) g' C' H σ ∧ Same C C' ∧ g'.ss = g.ss := by
  obtain ⟨a, vs, ha, hc, hv, ra⟩ := I.hotL h
  have am : a ∈ g.hs.flatten := List.mem_flatten.mpr ⟨[a], List.mem_of_getElem? ha, by simp⟩
  have na : a ∉ g.ss := I.apart ha (by simp)
  have hb : B.H a = none := I.nw _ (List.mem_of_getElem? ha) a (by simp)
  have e : Same C (upd C a (.lst vs)) := fun b u e => by rw [upd_ne (ne_of_none e hc)]; exact e
  have nd := (List.nodup_append.mp I.nd).2.1
  have out : ∀ (l : List (List Addr)) (k : Nat), l.flatten.Nodup → l[k]? = some [a] → a ∉ (l.set k []).flatten := by
    intro l
    induction l with
    | nil => intro k _ h; simp at h
    | cons x l ih =>
      intro k n h
      rw [List.flatten_cons, List.nodup_append] at n
      obtain ⟨n1, n2, n3⟩ := n
      cases k with
      | zero =>
        simp at h
        subst h
        simp only [List.set_cons_zero, List.flatten_cons, List.nil_append]
        intro z
        exact n3 a (by simp) a z rfl
      | succ k =>
        simp only [List.getElem?_cons_succ] at h
        simp only [List.set_cons_succ, List.flatten_cons, List.mem_append]
        rintro (z | z)
        · exact n3 a z a (List.mem_flatten.mpr ⟨[a], List.mem_of_getElem? h, by simp⟩) rfl
        · exact ih k n2 h z
  have hk : k < G.hot.length := (List.getElem?_eq_some_iff.mp h).1
  refine ⟨⟨g.ss, g.hs.set k []⟩, upd C a (.lst vs), ⟨I.gr.frz hb hc hv, by simp [Gm.cool, I.len], ?_, ?_, I.sub, by simp [Gm.cool, I.hl], ?_, ?_, ?_⟩, e, rfl⟩
  · intro i s es
    have es' : (G.sl.map (SV.cool k (.list xs)))[i]? = some s := es
    rw [List.getElem?_map] at es'
    obtain ⟨s0, e0, rfl⟩ := Option.map_eq_some_iff.mp es'
    have ok := I.sl i s0 e0
    cases s0 with
    | any => trivial
    | d x => obtain ⟨v, h1, h2⟩ := ok; exact ⟨v, h1, rp_mono e h2⟩
    | st j => exact ok
    | val v => exact ok
    | hot j =>
      obtain ⟨b, f, h1, h2⟩ := ok
      show SlotOk K (upd C a (.lst vs)) ⟨g.ss, g.hs.set k []⟩ σ i (if j = k then .d (.list xs) else .hot j)
      by_cases q : j = k
      · subst q
        rw [if_pos rfl]
        rw [ha] at h1
        cases h1
        exact ⟨.ref a, h2, .lst upd_same (rpAll_mono e ra)⟩
      · rw [if_neg q]
        refine ⟨b, f, ?_, h2⟩
        show (g.hs.set k [])[j]? = _
        rw [List.getElem?_set_ne (Ne.symm q)]
        exact h1
  · intro s hs
    exact ⟨(I.st s hs).1.frz (by intro z; subst z; exact na hs) hc, (I.st s hs).2⟩
  · intro j hh x e1 e2
    have e1' : (G.hot.set k .off)[j]? = some hh := e1
    have e2' : (g.hs.set k [])[j]? = some x := e2
    by_cases q : j = k
    · subst q
      rw [List.getElem?_set_self hk] at e1'
      rw [List.getElem?_set_self (by rw [← I.hl]; exact hk)] at e2'
      cases e1'; cases e2'
      rfl
    · have e2'' := e2'
      rw [List.getElem?_set_ne (Ne.symm q)] at e1' e2'
      exact (I.ht j hh x e1' e2').frz hc fun z => out g.hs k nd ha (List.mem_flatten.mpr ⟨x, List.mem_of_getElem? e2'', z⟩)
  · intro x hx b hb
    rcases List.mem_or_eq_of_mem_set hx with z | z
    · exact I.nw x z b hb
    · subst z; simp at hb
  · show (g.ss ++ (g.hs.set k []).flatten).Nodup
    have n0 := I.nd
    rw [List.nodup_append] at n0 ⊢
    exact ⟨n0.1, nodup_set_nil _ _ n0.2.1, fun a ha b hb => n0.2.2 a ha b (flatten_set_nil _ _ _ hb)⟩
/-- a last hot object that is none any more -/
theorem Holds.pop {sl : List SV} {hot : List HV} (I : Holds K B ⟨sl, hot ++ [.off]⟩ g C H σ) (hs : ∀ s ∈ sl, s ≠ .hot hot.length) : ∃ g', Holds K B ⟨sl, hot⟩ g' C H σ ∧ g'.ss = g.ss := by
  have hl : hot.length + 1 = g.hs.length := by have := I.hl; simpa using this
  have el : g.hs = g.hs.dropLast ++ [[]] := by
    have hne : g.hs ≠ [] := by intro z; rw [z] at hl; simp at hl
    have e1 := (List.dropLast_concat_getLast hne).symm
    have e2 : g.hs.getLast hne = [] := by
      have h1 : g.hs[hot.length]? = some (g.hs.getLast hne) := by
        rw [List.getLast_eq_getElem]
        rw [List.getElem?_eq_getElem (by omega)]
        congr 1
        congr 1
        omega
      have h2 := I.ht hot.length .off _ (by simp) h1
      exact h2
    rw [e2] at e1
    exact e1
  refine ⟨⟨g.ss, g.hs.dropLast⟩, ⟨I.gr, I.len, ?_, I.st, I.sub, by simp; omega, ?_, ?_, ?_⟩, rfl⟩
  · intro i s e
    have ok := I.sl i s e
    cases s with
    | any => trivial
    | d x => exact ok
    | st j => exact ok
    | val v => exact ok
    | hot j =>
      obtain ⟨b, f, h1, h2⟩ := ok
      refine ⟨b, f, ?_, h2⟩
      have hj : j ≠ hot.length := fun z => hs _ (List.mem_of_getElem? e) (by rw [z])
      have hj2 : j < g.hs.length := (List.getElem?_eq_some_iff.mp h1).1
      show g.hs.dropLast[j]? = _
      rw [List.getElem?_dropLast, if_pos (by omega)]
      exact h1
  · intro k h f e1 e2
    have hk : k < hot.length := (List.getElem?_eq_some_iff.mp e1).1
    refine I.ht k h f ?_ ?_
    · show (hot ++ [HV.off])[k]? = _
      rw [List.getElem?_append_left hk]
      exact e1
    · have e2' : g.hs.dropLast[k]? = some f := e2
      rw [List.getElem?_dropLast, if_pos (by omega)] at e2'
      exact e2'
  · intro f hf
    exact I.nw f (by rw [el]; exact List.mem_append_left _ hf)
  · have := I.nd
    rw [el] at this
    simpa using this
end
section
variable {c : Cn} {G : Gm} {ta tb te : TE} {tc : TT} {t u : TS} {E : DE} {P : D → Prop}
theorem sat_asgHot {i : Nat} (h : EvL c te G fun xs => E.nx (G.addHot i (.lst xs))) : SatS c (tAsg te (gName i)) G E := fun B g C H σ X I D ok =>
  h B g C H σ X I _ fun xs p vs C1 H1 h1 I1 g1 f hp hc hv ra => ok.nx _ _ C1 H1 _ h1 g1.cc (I1.addHot f hc hv ra)
theorem sat_cool (k : Nat) {xs : List D} (h : G.hot[k]? = some (.lst xs)) (q : SatS c t (G.cool k (.list xs)) E) : SatS c t G E := fun B g C H σ X I D ok => by
  obtain ⟨g', C', I', e, _⟩ := I.cool h
  exact q B g' C' H σ (X.on e) I' D (ok.on e)
theorem sat_pop {sl : List SV} {hot : List HV} (hs : ∀ s ∈ sl, s ≠ .hot hot.length) (q : SatS c t ⟨sl, hot⟩ E) : SatS c t ⟨sl, hot ++ [.off]⟩ E := fun B g C H σ X I D ok => by
  obtain ⟨g', I', _⟩ := I.pop hs
  exact q B g' C H σ X I' D ok
theorem sat_retHot {i k : Nat} {xs : List D} (hi : G.sl[i]? = some (.hot k)) (hk : G.hot[k]? = some (.lst xs)) (p : E.rt (.list xs)) : SatS c (tRet (tVar i)) G E := by
  refine sat_cool k hk (sat_ret (ev_var (x := .list xs) ?_ p))
  unfold Gm.cool
  rw [List.getElem?_map, hi]
  simp [SV.cool]
theorem hot_at {B : Bs} {g : Gh} {C H : Hp} {σ : St} (I : Holds c.K B G g C H σ) {i k : Nat} {xs : List D} (hi : G.sl[i]? = some (.hot k)) (hk : G.hot[k]? = some (.lst xs)) :
    ∃ a vs, σ[i]? = some (some (.ref a)) ∧ g.hs[k]? = some [a] ∧ C a = none ∧ H a = some (.lst vs) ∧ RpAll c.K C vs xs ∧ a ∉ g.ss := by
  obtain ⟨a, vs, ha, h1, h2, h3⟩ := I.hotL hk
  obtain ⟨b, f, h4, h5⟩ := I.sl i _ hi
  rw [ha] at h4
  cases h4
  exact ⟨a, vs, h5, ha, h1, h2, h3, I.apart ha (by simp)⟩
/-- l.append(e), l a list under work -/
theorem sat_append {i k : Nat} {xs : List D} (hi : G.sl[i]? = some (.hot k)) (hk : G.hot[k]? = some (.lst xs)) (hl : xs.length < 100000) (h : EvP c te G fun x => E.nx (G.setHot k (.lst (xs ++ [x])))) :
    SatS c (tDrop (tBM c.K "list" rAppend (tVar i) (tCons te tNil))) G E := fun B g C H σ X I D ok => by
  obtain ⟨a, vs, h1, ha, h2, h3, h4, na⟩ := hot_at I hi hk
  refine ⟨.ref a, h1, .inl ⟨rfl, _, SqL.of h3⟩, h B g C H σ X I _ fun x v C1 H1 p I1 g1 r1 => ?_⟩
  refine ⟨a, vs, v, rfl, rfl, g1.hh a _ na h3, by rw [RpAll.length h4]; exact lt_line hl, ?_⟩
  exact ok.nx _ g C1 _ σ p g1.cc (I1.wrHot hk ha (RpAll.append (rpAll_mono g1.cc h4) (RpAll.one r1)))
/-- l[j] = e -/
theorem sat_setitem {i k : Nat} {xs : List D} (hi : G.sl[i]? = some (.hot k)) (hk : G.hot[k]? = some (.lst xs)) (h : EvP c te G fun x => EvP c tb G fun y => ∃ n m, y = .int n ∧ ixN xs.length n = some m ∧ E.nx (G.setHot k (.lst (xs.set m x)))) :
    SatS c (tAsg te (gSub (tVar i) tb rSetL)) G E := fun B g C H σ X I D ok =>
  h B g C H σ X I _ fun x v C1 H1 p I1 g1 r1 => by
    obtain ⟨a, vs, h1, ha, h2, h3, h4, na⟩ := hot_at I1 hi hk
    refine ⟨.ref a, h1, p B g C1 H1 σ (X.on g1.cc) I1 _ fun y w C2 H2 p2 I2 g2 r2 => ?_⟩
    obtain ⟨n, m, rfl, hm, q⟩ := p2
    cases r2
    refine ⟨a, vs, n, m, rfl, rfl, g2.hh a _ na h3, by rw [RpAll.length h4]; exact hm, ?_⟩
    exact ok.nx _ g C2 _ σ q (g1.trans g2).cc (I2.wrHot hk ha (RpAll.set m (rpAll_mono g2.cc h4) (rp_mono g2.cc r1)))
/-- l[e], l a list under work -/
theorem ev_ixHot {i k : Nat} {xs : List D} (hi : G.sl[i]? = some (.hot k)) (hk : G.hot[k]? = some (.lst xs)) (h : EvP c tb G fun y => ∃ n x, y = .int n ∧ atI xs n = some x ∧ P x) : EvP c (tOp (rIx c.K) (tVar i) tb) G P := fun B g C H σ X I Q q => by
  obtain ⟨a, vs, h1, ha, h2, h3, h4, na⟩ := hot_at I hi hk
  refine ⟨.ref a, h1, h B g C H σ X I _ fun y w C2 H2 p2 I2 g2 r2 => ?_⟩
  obtain ⟨n, x, rfl, hx, p⟩ := p2
  cases r2
  unfold atI at hx
  obtain ⟨j, e1, e2⟩ := Option.bind_eq_some_iff.mp hx
  obtain ⟨v, e3, e4⟩ := RpAll.get h4 e2
  refine .inl ⟨a, vs, n, v, rfl, rfl, SqL.of (g2.hh a _ na h3), ?_, q _ _ C2 H2 p I2 g2 (rp_mono g2.cc e4)⟩
  unfold atI
  rw [RpAll.length h4, e1]
  exact e3
theorem ev_lenHot {i k : Nat} {xs : List D} (hi : G.sl[i]? = some (.hot k)) (hk : G.hot[k]? = some (.lst xs)) (p : P (.int xs.length)) : EvP c (tCB (fun xs H Q => ∃ x n, xs = [x] ∧ LenV c.K x H n ∧ Q (.int n) H) (tCons (tVar i) tNil)) G P := fun B g C H σ X I Q q => by
  obtain ⟨a, vs, h1, ha, h2, h3, h4, na⟩ := hot_at I hi hk
  exact ⟨.ref a, h1, .ref a, _, rfl, .inl ⟨vs, SqL.of h3, rfl⟩, by rw [RpAll.length h4]; exact q _ _ C H p I (Grow.refl I.ch) (.int _)⟩
/-! what a name stands for is forgotten -/
theorem sat_forget {sl sl' : List SV} {hot : List HV} (hl : sl'.length = sl.length) (h : ∀ (i : Nat) (s : SV), sl'[i]? = some s → s = .any ∨ sl[i]? = some s) (q : SatS c t ⟨sl', hot⟩ E) : SatS c t ⟨sl, hot⟩ E := fun B g C H σ X I D ok => by
  refine q B g C H σ X ⟨I.gr, by rw [I.len]; exact hl.symm, fun i s e => ?_, I.st, I.sub, I.hl, I.ht, I.nw, I.nd⟩ D ok
  rcases h i s e with z | z
  · subst z; trivial
  · exact I.sl i s z
end
end DL
end
section
namespace DL
open PySem L2
/-! operators of our own -/
section
open PyProof.Rows
variable {X : Cx}
theorem op_mulI : OpR X (binaryOp .Mult) (rI IntMulOk fun i j => .int (i * j)) := opI fun _ _ _ _ _ _ _ hc q => mul_int q hc
/-- // that needs no help of _pylong -/
def CDivI (i j : Int) : Prop := j ≠ 0 ∧ Builtin.divisionGoesByPylong i j = false
theorem op_fdivI : OpR X (binaryOp .FloorDiv) (rI CDivI fun i j => .int (i.fdiv j)) := opI fun i j _ _ _ _ _ hc q => floordiv_int hc.1 q (.inl hc.2)
/-- X(), X an own exception class without own __init__ -/
theorem pmk_own0 {C : Addr} {bmB : List Value} {B newId initId : String} {x : Str} {p pos : Pos} (F : ExcBaseFacts B newId initId bmB) (q : PySem.W.excIn X.K C bmB newId = true) (gC : X.mg x = some (.ref C))
    (kC : PySem.W.keepIn X.K (.ref C) = true) (r : Raises X (.ref C)) (hg : Gl X x) (hdb : (x == ("__debug__" : Str)) = false := by decide) :
    PMk X (.Call (.Name x p) [] [] pos) (fun _ H Q => Q (.ref C) none H) := by
  intro pins s σ H Q I h
  refine wpAny_Call_Name_kw (ld_glob I hg gC ?_ hdb)
  refine PySem.W.callWith_K0 I.kIn kC ?_
  obtain ⟨bm, N, nm, qn, bs, hdct, sn, sub, ab, col, dd, k0, k1, k2, k3, k5, mN, hC, hN, hni, T⟩ := exc_obj I.kIn q
  refine wpAny_call_exc_subT F T hC hN hni (fun h' e hm => ?_) (by show 0 ≤ sizeLine; exact Nat.zero_le _)
  exact mk_of I hm r h (I.hok.gone hm.new)
theorem PI.or {tg iter : Expr} {w1 w2 : TI} (h1 : PI X tg iter w1) (h2 : PI X tg iter w2) : PI X tg iter (fun σ H R => w1 σ H R ∨ w2 σ H R) :=
  ⟨fun pins s σ H R I h => h.elim (h1.run pins s σ H R I) (h2.run pins s σ H R I)⟩
end
section
variable {c : Cn} {G : Gm} {ta tb te tl : TE} {tc : TT} {t u : TS} {E : DE} {P : D → Prop} {gt : TG} {tt : TT}
/-! either way of walking -/
theorem sat_for_l {w1 w2 : TI} (h : SatS c (tFor w1 gt t) G E) : SatS c (tFor (fun σ H R => w1 σ H R ∨ w2 σ H R) gt t) G E := fun B g C H σ X I D ok => .inl (h B g C H σ X I D ok)
theorem sat_for_r {w1 w2 : TI} (h : SatS c (tFor w2 gt t) G E) : SatS c (tFor (fun σ H R => w1 σ H R ∨ w2 σ H R) gt t) G E := fun B g C H σ X I D ok => .inr (h B g C H σ X I D ok)
theorem el_comp_l {w1 w2 : TI} {vs : List Nat} {P : List D → Prop} (h : EvL c (tLc w1 gt tt te vs) G P) : EvL c (tLc (fun σ H R => w1 σ H R ∨ w2 σ H R) gt tt te vs) G P := fun B g C H σ X I Q q => .inl (h B g C H σ X I Q q)
theorem el_comp_r {w1 w2 : TI} {vs : List Nat} {P : List D → Prop} (h : EvL c (tLc w2 gt tt te vs) G P) : EvL c (tLc (fun σ H R => w1 σ H R ∨ w2 σ H R) gt tt te vs) G P := fun B g C H σ X I Q q => .inr (h B g C H σ X I Q q)
/-! subscripts of any sequence -/
theorem k2_ix {xs : List D} {i : Int} {x y : D} (hx : y = .list xs ∨ y = .tuple xs) (h : atI xs i = some x) (p : P x) : K2 c G (rIx c.K) y (.int i) P := by
  rcases hx with rfl | rfl
  · exact k2_l (k2_ixL h p)
  · exact k2_r (k2_l (k2_ixT h p))
theorem k2_ixS {z : Str} {i : Int} {n : Nat} (hl : z.length ≤ 100000) (h : atI z.cps.toList i = some n) (p : P (.str ⟨#[n]⟩)) : K2 c G (rIx c.K) (.str z) (.int i) P :=
  k2_r (k2_r fun B g C H σ X I v w a b Q q => by
    cases a; cases b
    exact ⟨z, i, n, rfl, rfl, le_line hl, h, q _ _ C H p I (Grow.refl I.ch) (.str _)⟩)
/-! new lists -/
theorem ev_newcold {B : Bs} {g : Gh} {C H : Hp} {σ : St} {p : Addr} {vs : List V} {xs : List D} (I : Holds c.K B G g C H σ) (hp : H p = none) (ra : RpAll c.K C vs xs) :
    Holds c.K B G g (upd C p (.lst vs)) (upd H p (.lst vs)) σ ∧ Grow g.ss C H (upd C p (.lst vs)) (upd H p (.lst vs)) ∧ Rp c.K (upd C p (.lst vs)) (.ref p) (.list xs) := by
  have g2 := Grow.cold (M := g.ss) I.ch (.lst vs) hp
  exact ⟨I.cold _ hp, g2, .lst upd_same (rpAll_mono g2.cc ra)⟩
/-- an address that is new to H: a list that is laid there, off the state -/
theorem newL {B : Bs} {g : Gh} {C0 H0 C H : Hp} {σ : St} {p : Addr} {vs : List V} {xs : List D} {Pl : List D → Prop} (I : Holds c.K B G g C H σ) (g0 : Grow g.ss C0 H0 C H) (hp : H p = none) (ra : RpAll c.K C vs xs) (pl : Pl xs)
    {Q : VK} (q : ∀ xs p vs C' H', Pl xs → Holds c.K B G g C' H' σ → Grow g.ss C0 H0 C' H' → Off B g p → H0 p = none → C' p = none → H' p = some (.lst vs) → RpAll c.K C' vs xs → Q (.ref p) H') : Q (.ref p) (upd H p (.lst vs)) := by
  have g2 := Grow.hot (M := g.ss) I.ch (.lst vs) hp
  have h0 : H0 p = none := by
    cases z : H0 p with
    | none => rfl
    | some o => exact absurd hp (g0.al p (by rw [z]; simp))
  have hc0 : C p = none := by
    cases z : C p with
    | none => rfl
    | some o => rw [I.ch p o z] at hp; cases hp
  exact q xs p vs C _ pl (I.grow0 (Grow.hot I.ch (.lst vs) hp)) (g0.trans g2) (I.off hp) h0 hc0 upd_same ra
def rListOf (K : PySem.W.Frag) : List V → Hp → VK → Prop := fun xs H Q => ∃ p ys, xs = [.ref p] ∧ (SqL K H p ys ∨ SqT K H p ys) ∧ ∀ l, H l = none → Q (.ref l) (upd H l (.lst ys))
theorem call_listOf {X : Cx} : CallR X (.type "list") (rListOf X.K) := call_list_of
/-- list(e) -/
theorem el_listOf {P : List D → Prop} (h : EvP c te G fun x => ∃ xs, (x = .list xs ∨ x = .tuple xs) ∧ P xs) : EvL c (tCB (rListOf c.K) (tCons te tNil)) G P := fun B g C H σ X I Q q =>
  h B g C H σ X I _ fun x v C1 H1 h1 I1 g1 r1 => by
    obtain ⟨xs, hx, p⟩ := h1
    rcases hx with rfl | rfl
    · cases r1 with
      | @lst a vs ds hs ha => exact ⟨a, vs, rfl, .inl (SqL.of (I1.ch _ _ hs)), fun l hl => newL I1 g1 hl ha p q⟩
    · cases r1 with
      | @tup a vs ds hs ha => exact ⟨a, vs, rfl, .inr (sqT_mono I1.ch hs), fun l hl => newL I1 g1 hl ha p q⟩
def rTupOf (K : PySem.W.Frag) : List V → Hp → VK → Prop := fun xs H Q => ∃ p ys, xs = [.ref p] ∧ ((SqL K H p ys ∧ ∀ l, H l = none → Q (.ref l) (upd H l (.tup ys))) ∨ (SqT K H p ys ∧ Q (.ref p) H))
theorem call_tupOf {X : Cx} : CallR X (.type "tuple") (rTupOf X.K) := call_tuple_of
theorem kc_tupOf {x : D} {xs : List D} (hx : x = .list xs ∨ x = .tuple xs) (p : P (.tuple xs)) : KC c G (rTupOf c.K) [.d x] P := fun B g C H σ X I vs ha Q q => by
  cases ha with
  | cons h t =>
    cases t
    have h' : Rp c.K C _ x := h
    rcases hx with rfl | rfl
    · cases h' with
      | @lst a vs ds hs ha => exact ⟨a, vs, rfl, .inl ⟨SqL.of (I.ch _ _ hs), fun l hl => q _ _ _ _ p (I.cold (.tup vs) hl) (Grow.cold I.ch _ hl) (.tup (SqT.of upd_same) (rpAll_mono (Grow.cold (M := []) I.ch _ hl).cc ha))⟩⟩
    · cases h' with
      | @tup a vs ds hs ha => exact ⟨a, vs, rfl, .inr ⟨sqT_mono I.ch hs, q _ _ C H p I (Grow.refl I.ch) (.tup hs ha)⟩⟩
/-- tuple(hot list) -/
theorem ev_tupOfHot {i k : Nat} {xs : List D} (hi : G.sl[i]? = some (.hot k)) (hk : G.hot[k]? = some (.lst xs)) (p : P (.tuple xs)) : EvP c (tCB (rTupOf c.K) (tCons (tVar i) tNil)) G P := fun B g C H σ X I Q q => by
  obtain ⟨a, vs, h1, ha, h2, h3, h4, na⟩ := hot_at I hi hk
  exact ⟨.ref a, h1, a, vs, rfl, .inl ⟨SqL.of h3, fun l hl => q _ _ _ _ p (I.cold (.tup vs) hl) (Grow.cold I.ch _ hl) (.tup (SqT.of upd_same) (rpAll_mono (Grow.cold (M := []) I.ch _ hl).cc h4))⟩⟩
/-- xs + ys, of lists; r: the way of a list, within any rule -/
theorem el_cat {r : R2} {P : List D → Prop} (hr : ∀ x y H Q, rCat x y H Q → r x y H Q) (h : EvP c ta G fun x => ∃ xs, x = .list xs ∧ EvP c tb G fun y => ∃ ys, y = .list ys ∧ xs.length + ys.length ≤ 100000 ∧ P (xs ++ ys)) : EvL c (tOp r ta tb) G P := fun B g C H σ X I Q q =>
  h B g C H σ X I _ fun x v C1 H1 h1 I1 g1 r1 => by
    obtain ⟨xs, rfl, h2⟩ := h1
    refine h2 B g C1 H1 σ (X.on g1.cc) I1 _ fun y w C2 H2 h3 I2 g2 r2 => ?_
    obtain ⟨ys, rfl, hl, p⟩ := h3
    cases r1 with
    | @lst a vs ds hs ha =>
      cases r2 with
      | @lst b ws es hs2 ha2 =>
        refine hr _ _ _ _ ⟨a, b, vs, ws, rfl, rfl, I2.ch _ _ (g2.cc _ _ hs), I2.ch _ _ hs2, by rw [RpAll.length ha, RpAll.length ha2]; exact le_line hl, fun l hl => ?_⟩
        exact newL I2 (g1.trans g2) hl (RpAll.append (rpAll_mono g2.cc ha) ha2) p q
/-- xs * k -/
theorem el_rep {r : R2} {P : List D → Prop} (hr : ∀ x y H Q, rRep x y H Q → r x y H Q) (h : EvP c ta G fun x => ∃ xs, x = .list xs ∧ EvP c tb G fun y => ∃ n, y = .int n ∧ -100000 ≤ n ∧ n ≤ 100000 ∧ xs.length * n.toNat ≤ 100000 ∧ P (List.replicate n.toNat xs).flatten) : EvL c (tOp r ta tb) G P := fun B g C H σ X I Q q =>
  h B g C H σ X I _ fun x v C1 H1 h1 I1 g1 r1 => by
    obtain ⟨xs, rfl, h2⟩ := h1
    refine h2 B g C1 H1 σ (X.on g1.cc) I1 _ fun y w C2 H2 h3 I2 g2 r2 => ?_
    obtain ⟨n, rfl, l1, l2, hl, p⟩ := h3
    cases r2
    cases r1 with
    | @lst a vs ds hs ha =>
      refine hr _ _ _ _ ⟨a, n, vs, rfl, rfl, I2.ch _ _ (g2.cc _ _ hs), by omega, by omega, by rw [RpAll.length ha]; exact le_line hl, fun l hl => ?_⟩
      exact newL I2 (g1.trans g2) hl (RpAll.rep (rpAll_mono g2.cc ha) n.toNat) p q
/-! slices -/
theorem eo_none {P : Option Int → Prop} (p : P none) : EvO c tNoPart G P := fun B g C H σ X I Q q => q none C H p I (Grow.refl I.ch)
theorem eo_some {P : Option Int → Prop} (h : EvP c te G fun x => ∃ i, x = .int i ∧ P (some i)) : EvO c (tPart te) G P := fun B g C H σ X I Q q =>
  h B g C H σ X I _ fun x v C1 H1 h1 I1 g1 r1 => by
    obtain ⟨i, rfl, p⟩ := h1
    cases r1
    exact ⟨i, rfl, q _ C1 H1 p I1 g1⟩
def cutD (xs : List D) (lo hi : Option Int) : List D := (xs.drop (HT.sIx xs.length 0 lo)).take (HT.sIx xs.length xs.length hi - HT.sIx xs.length 0 lo)
theorem rp_cut {K : PySem.W.Frag} {C : Hp} {vs : List V} {xs : List D} (h : RpAll K C vs xs) (lo hi : Option Int) : RpAll K C (cutV vs lo hi) (cutD xs lo hi) := by
  unfold cutV cutD
  rw [RpAll.length h]
  exact RpAll.take _ (RpAll.drop _ h)
/-- xs[lo:hi], a list: a new one -/
theorem el_slice {r : V → Option Int → Option Int → Hp → VK → Prop} {tlo thi : TO} {P : List D → Prop} (hr : ∀ x lo hi H Q, rSlL c.K x lo hi H Q → r x lo hi H Q)
    (h : EvP c te G fun x => ∃ xs, x = .list xs ∧ EvO c tlo G fun lo => EvO c thi G fun hi => P (cutD xs lo hi)) : EvL c (tSl r te tlo thi) G P := fun B g C H σ X I Q q =>
  h B g C H σ X I _ fun x v C1 H1 h1 I1 g1 r1 => by
    obtain ⟨xs, rfl, h2⟩ := h1
    refine h2 B g C1 H1 σ (X.on g1.cc) I1 _ fun lo C2 H2 h3 I2 g2 => h3 B g C2 H2 σ (X.on (g1.trans g2).cc) I2 _ fun hi C3 H3 p I3 g3 => ?_
    have g23 := g2.trans g3
    cases r1 with
    | @lst a vs ds hs ha =>
      refine hr _ _ _ _ _ ⟨a, vs, rfl, SqL.of (I3.ch _ _ (g23.cc _ _ hs)), fun l hl => ?_⟩
      exact newL I3 (g1.trans g23) hl (rp_cut (rpAll_mono g23.cc ha) lo hi) p q
/-- t[lo:hi], a tuple -/
theorem ev_sliceT {r : V → Option Int → Option Int → Hp → VK → Prop} {tlo thi : TO} (hr : ∀ x lo hi H Q, rSlA c.K x lo hi H Q → r x lo hi H Q)
    (h : EvP c te G fun x => ∃ xs, x = .tuple xs ∧ EvO c tlo G fun lo => EvO c thi G fun hi => P (.tuple (cutD xs lo hi))) : EvP c (tSl r te tlo thi) G P := fun B g C H σ X I Q q =>
  h B g C H σ X I _ fun x v C1 H1 h1 I1 g1 r1 => by
    obtain ⟨xs, rfl, h2⟩ := h1
    refine h2 B g C1 H1 σ (X.on g1.cc) I1 _ fun lo C2 H2 h3 I2 g2 => h3 B g C2 H2 σ (X.on (g1.trans g2).cc) I2 _ fun hi C3 H3 p I3 g3 => ?_
    have g23 := g2.trans g3
    cases r1 with
    | @tup a vs ds hs ha =>
      have ra := rp_cut (rpAll_mono g23.cc ha) lo hi
      refine hr _ _ _ _ _ ⟨a, vs, rfl, sqT_mono (g23.cc.trans I3.ch) hs, fun z => ?_, fun _ l hl => ?_⟩
      · have e : cutD xs lo hi = xs := by
          unfold cutD
          rw [← RpAll.length ha, z.1, z.2]
          simp [RpAll.length ha]
        have p' : P (.tuple (cutD xs lo hi)) := p
        rw [e] at p'
        exact q _ _ C3 H3 p' I3 (g1.trans g23) (.tup (sqT_mono g23.cc hs) (rpAll_mono g23.cc ha))
      · have g4 := Grow.cold (M := g.ss) I3.ch (.tup (cutV vs lo hi)) hl
        exact q _ _ _ _ p (I3.cold _ hl) ((g1.trans g23).trans g4) (.tup (SqT.of upd_same) (rpAll_mono g4.cc ra))
/-! exceptions -/
theorem sat_raise0 {C : Addr} (p : c.PX ⟨.ref C, none⟩ G) : SatS c (fun _ σ H => (fun (_ : St) (H : Hp) (Q : XK) => Q (.ref C) none H) σ H fun cls d H' => c.W cls d σ H') G E := fun B g C H σ X I D ok =>
  X _ G g C H σ _ _ p (Same.refl C) I ⟨rfl, rfl⟩
/-- try: body except C: suite -/
theorem sat_try {tb : WX → TS} {ts : Addr → Value → Option Addr → TS} {cl : Value} {PX : XD → Gm → Prop} (h : ∀ W : WX, SatS ⟨c.K, W, PX⟩ (tb W) G E)
    (hx : ∀ x G', PX x G' → ∃ b, PySem.W.exmOne c.K x.cls cl = some b ∧ (b = true → ∀ a cls d, SatS c (ts a cls d) G' E) ∧ (b = false → c.PX x G')) :
    SatS c (fun D σ H => tb (wOnly c.K cl ts c.W D) D σ H) G E := fun B g C H σ X I D ok => by
  refine h (wOnly c.K cl ts c.W D) B g C H σ (fun x G' g' C' H' σ' cls d px e I' xo => ?_) I D ok
  obtain ⟨b, h1, h2, h3⟩ := hx x G' px
  have xo1 := xo.1
  subst xo1
  refine ⟨b, h1, fun z a _ => h2 z a _ d B g' C' H' σ' (X.on e) I' D (ok.on e), fun z => X x G' g' C' H' σ' _ d (h3 z) e I' xo⟩
def Hds (c : Cn) (E : DE) : List (Value × (Addr → Value → Option Addr → TS)) → XD → Gm → Prop
  | [], x, G => c.PX x G
  | (cl, ts) :: r, x, G => ∃ b, PySem.W.exmOne c.K x.cls cl = some b ∧ (b = true → ∀ a cls d, SatS c (ts a cls d) G E) ∧ (b = false → Hds c E r x G)
theorem hds_ok {B : Bs} {C : Hp} {D : Ends} (X : ExOk c B C) (ok : DOk c.K B C E D) : ∀ (l : List (Value × (Addr → Value → Option Addr → TS))) {x : XD} {G : Gm} {g : Gh} {C' H' : Hp} {σ : St} {cls : Value} {d : Option Addr},
    Hds c E l x G → Same C C' → Holds c.K B G g C' H' σ → XOk c.K C' H' cls d x → wMany c.K c.W D l cls d σ H'
  | [], x, G, g, C', H', σ, cls, d, h, e, I, xo => X x G g C' H' σ cls d h e I xo
  | (cl, ts) :: r, x, G, g, C', H', σ, cls, d, h, e, I, xo => by
    obtain ⟨b, h1, h2, h3⟩ := h
    have xo1 := xo.1
    subst xo1
    exact ⟨b, h1, fun z a _ => h2 z a _ d B g C' H' σ (X.on e) I D (ok.on e), fun z => hds_ok X ok r (h3 z) e I xo⟩
/-- several except clauses -/
theorem sat_tryMany {tb : WX → TS} {l : List (Value × (Addr → Value → Option Addr → TS))} {PX : XD → Gm → Prop} (h : ∀ W : WX, SatS ⟨c.K, W, PX⟩ (tb W) G E) (hx : ∀ x G', PX x G' → Hds c E l x G') :
    SatS c (fun D σ H => tb (wMany c.K c.W D l) D σ H) G E := fun B g C H σ X I D ok =>
  h (wMany c.K c.W D l) B g C H σ (fun x G' g' C' H' σ' cls d px e I' xo => hds_ok X ok l (hx x G' px) e I' xo) I D ok
/-! f(name = e): a call with keywords -/
theorem ev_callK {f : FS} {gV : List V → List V → List V} {E0 : XK} {ta tk : TA} (hgV : ∀ vs zs as bs, ∀ {C : Hp} {g : Gh}, AVs c.K C g vs as → AVs c.K C g zs bs → AVs c.K C g (gV vs zs) (as ++ bs))
    (h : EvA c ta G fun as => EvA c tk G fun bs => f (as ++ bs) P fun _ => False) : EvP c (tCallK (spF c.K f) gV E0 ta tk) G P := fun B g C H σ X I Q q =>
  h B g C H σ X I _ fun as vs C1 H1 h1 I1 g1 r1 => h1 B g C1 H1 σ (X.on g1.cc) I1 _ fun bs zs C2 H2 h2 I2 g2 r2 =>
    call_core I2 (hgV vs zs as bs (r1.mono g2.cc) r2) h2 (fun x v C3 H3 p I3 g3 r3 => q x v C3 H3 p I3 ((g1.trans g2).trans g3) r3) fun _ _ _ _ _ z => z.elim
end
end DL
end
section
namespace DL
open PySem L2
/-- a def of the top as its callers take it -/
structure Cal (P : Program) (w : World) (K : PySem.W.Frag) (mg : Str → Option Value) (base : Heap) (k : Nat) (x : Str) (ps : List Str) (f : FS) : Prop where
  ex : ∃ fd, FnOk P w K mg base (L2.CX P w) k (He.ga K x) fd ps (spF K f) ∧ Binds K fd ps [] ∧ ∀ (s : Shared) (ws : List Value), ws.length = ps.length → BindsTo s fd ⟨[], ps.zip ws⟩ (ps.zip ws)
  gm : mg x = some (.ref (He.ga K x))
  kp : PySem.W.keepIn K (.ref (He.ga K x)) = true
/-- keywords alone -/
def tCallKS (n : Nat) (sp : Sp) (E : L2.St → XK) (tk : TA) : TE := fun σ H Q => tk σ H fun zs H2 => zs.length = n ∧ sp zs H2 Q (E σ)
section
variable {X : Cx} {k j : Nat} {x : Str} {ps ks : List Str} {f : FS} {p pos : Pos} {e : Expr} {es : List Expr} {t tk : TA} {W : WX} {kws : List Keyword}
theorem pe_cal (c : Cal X.prog X.w X.K X.mg X.base k x ps f) (hr : Room j X.A) (hk : k ≤ j) (hg : Gl X x) (ha : PA X (e :: es) t)
    (hdb : (x == ("__debug__" : Str)) = false := by decide) (he : starEach (e :: es) X.env = (false, eval e X.env) :: starEach es X.env := by rfl) (hpl : (backTo pos (starEach es X.env)).any (·.1) = false := by rfl) :
    PE X (.Call (.Name x p) (e :: es) [] pos) (tCall (spF X.K f) [] E0 t) := by
  obtain ⟨fd, F, b, _⟩ := c.ex
  exact pe_call F (hr.mono hk) hg c.gm c.kp b .nil passL ha hdb he hpl
theorem pe_cal0 (c : Cal X.prog X.w X.K X.mg X.base k x ps f) (hr : Room j X.A) (hk : k ≤ j) (hg : Gl X x)
    (hdb : (x == ("__debug__" : Str)) = false := by decide) :
    PE X (.Call (.Name x p) [] [] pos) (tCall (spF X.K f) [] E0 tNil) := by
  obtain ⟨fd, F, b, _⟩ := c.ex
  exact pe_call0 F (hr.mono hk) hg c.gm c.kp b .nil passL hdb
theorem pe_calS (c : Cal X.prog X.w X.K X.mg X.base k x ps f) (hr : Room j X.A) (hk : k ≤ j) (tk : Takes X W) (hg : Gl X x) (ha : PA X (e :: es) t)
    (hdb : (x == ("__debug__" : Str)) = false := by decide) (he : starEach (e :: es) X.env = (false, eval e X.env) :: starEach es X.env := by rfl) (hpl : (backTo pos (starEach es X.env)).any (·.1) = false := by rfl) :
    PE X (.Call (.Name x p) (e :: es) [] pos) (tCallS (spF X.K f) (WE W) t) := by
  obtain ⟨fd, F, b, _⟩ := c.ex
  exact pe_callS F (hr.mono hk) hg c.gm c.kp b (fun σ => passAt tk σ) ha hdb he hpl
theorem run_kw {CX : CXT} {sp : Sp} {fd : FuncData} {fa : Addr} {E : L2.St → XK} {pins : List (Addr × Obj)} {σ : L2.St} {H : Hp} {s : Shared} {Q : VK} {ws : List Value} {zs : List V} (F : FnOk X.prog X.w X.K X.mg X.base CX k fa fd ps sp) (hr : Room k X.A)
    (hb : ∀ (s : Shared) (ws : List Value), ws.length = ps.length → BindsTo s fd ⟨[], ps.zip ws⟩ (ps.zip ws)) (hx : ∀ σ, PassesAt CX X σ (E σ))
    (I : Inv X pins σ H s) (rz : Vals zs ws) (h : sp zs H Q (E σ)) : wpAny (model X.prog X.w) X.A (call (.ref fa) [] (ps.zip ws)) (EP X pins σ Q) X.xe s := by
  have l : ws.length = ps.length := by rw [← rz.length]; exact F.len _ _ _ _ h
  refine wpAny_call (codeAny_mono (F.run X.A X.stack s H ⟨[], ps.zip ws⟩ ws zs Q (E σ) hr I.env0 (hb s ws l) rz h) fun r s' hq => ?_)
  cases r with
  | error e => exact hx σ pins H s e s' I hq
  | ok fl =>
    cases fl with
    | ret u => exact I.after hq
    | next => exact False.elim hq
    | brk => exact False.elim hq
    | cont => exact False.elim hq
/-- f(a = e, b = e2), all parameters by name, in their order -/
theorem pe_calKS (c : Cal X.prog X.w X.K X.mg X.base k x ps f) (hr : Room j X.A) (hk : k ≤ j) (tkW : Takes X W) (hg : Gl X x) (hkw : PK X kws tk)
    (hall : (backToKw pos (keywordEach kws X.env)).all (·.1.isSome) = true := by rfl) (hks : (backToKw pos (keywordEach kws X.env)).filterMap (·.1) = ps := by rfl) (hdb : (x == ("__debug__" : Str)) = false := by decide)
    (hpl : ((backTo pos (starEach [] X.env)).any (·.1) || (backToKw pos (keywordEach kws X.env)).any (·.1.isNone)) = false := by rfl) :
    PE X (.Call (.Name x p) [] kws pos) (tCallKS ps.length (spF X.K f) (WE W) tk) := by
  obtain ⟨fd, F, _, b⟩ := c.ex
  refine ⟨fun pins s σ H Q I h => ?_⟩
  refine wpAny_Call_Name_kw (ld_glob I hg c.gm ?_ hdb)
  refine PySem.W.callWith_KW0 (h₀ := X.base) I.ok.mod.kin c.kp hall ?_ hpl
  refine thn (hkw.run pos pins s σ H _ I h) fun ws s2 ⟨zs, H2, I2, rz, l2, q2⟩ => ⟨I2.kIn, ?_⟩
  rw [hks]
  exact run_kw F (hr.mono hk) b (fun σ => passAt tkW σ) I2 rz q2
end
section
variable {c : Cn} {G : Gm} {ta tk : TA} {P : D → Prop} {f : FS}
theorem ev_callKS {n : Nat} (h : EvA c tk G fun as => as.length = n ∧ f as P fun x => c.PX x G) : EvP c (tCallKS n (spF c.K f) (WE c.W) tk) G P := fun B g C H σ X I Q q =>
  h B g C H σ X I _ fun as vs C1 H1 h1 I1 g1 r1 => ⟨by rw [AVs.len r1]; exact h1.1, call_core I1 r1 h1.2 (fun x v C2 H2 p I2 g2 r2 => q x v C2 H2 p I2 (g1.trans g2) r2) fun x cls d C2 H2 p I2 g2 xo => X x G g C2 H2 σ cls d p (g1.trans g2).cc I2 xo⟩
end
abbrev FnP (K : PySem.W.Frag) (x : Str) (st : Stmt) (fd : FuncData) : Prop := FunD K x x (defArgs st) (defBody st) (defScope st) [] [] (He.ga K x) fd
/-- the constants of a def's body -/
abbrev cn (K : PySem.W.Frag) (E : XK) (PX : XD → Prop) : Cn := ⟨K, fun cls d _ H => E cls d H, fun x _ => PX x⟩
abbrev den (P : D → Prop) : DE := { nx := fun _ => P .none, rt := P }
/-- a def keeps its promise -/
theorem fn_ok {P : Program} {w : World} {K : PySem.W.Frag} {mg : Str → Option Value} {base : Heap} {k : Nat} {x : Str} {st : Stmt} {fd : FuncData} {N ps : List Str} {f : FS} (F : FnP K x st fd) (S : FnScope N ps (defScope st))
    (hlen : ∀ as P PX, f as P PX → as.length = ps.length) (hN : ps.length ≤ N.length) (t : XK → TS)
    (term : ∀ (cdv : Value) (A : Around) (outer : List Env) (s : Shared) (H : Hp) (E : XK), Room k (A.deeper (PyProof.Rows.envOfC x (defScope st) s.heap.objs.size (He.ga K x) cdv)) →
      PSs (cxOf (L2.CX P w) P w K mg base N x (defScope st) (He.ga K x) cdv A outer s H E) (defBody st) (t E))
    (body : ∀ (E : XK) (as : List AV) (P : D → Prop) (PX : XD → Prop), f as P PX → SatS (cn K E PX) (t E) (gin as (N.length - ps.length)) (den P)) :
    FnOk P w K mg base (L2.CX P w) (k + 1) (He.ga K x) fd ps (spF K f) :=
  F.ok S (fun vs H Q E h => spF_len hlen h) fun cdv A outer s H vs Q E hr h => ⟨t E, term cdv A outer s H E hr, sat_fn ps.length h hlen hN (body E)⟩
theorem cal_mk {P : Program} {w : World} {K : PySem.W.Frag} {mg : Str → Option Value} {base : Heap} {k : Nat} {x : Str} {st : Stmt} {fd : FuncData} {ps : List Str} {f : FS} (F : FnP K x st fd)
    (G : FnOk P w K mg base (L2.CX P w) k (He.ga K x) fd ps (spF K f)) (gm : mg x = some (.ref (He.ga K x)))
    (h1 : ∀ (kV doc pm : Value) (an : Option Addr) (cdv ct : Value) (us : List Value), us.length = ps.length → bindArgs (PySem.W.fnOf x x (defArgs st) (defBody st) (defScope st) .none kV doc pm an cdv ct) ⟨us, []⟩ = pure (ps.zip us))
    (h2 : ∀ (kV doc pm : Value) (an : Option Addr) (cdv ct : Value) (us : List Value), us.length = ps.length → bindArgs (PySem.W.fnOf x x (defArgs st) (defBody st) (defScope st) .none kV doc pm an cdv ct) ⟨[], ps.zip us⟩ = pure (ps.zip us)) :
    Cal P w K mg base k x ps f := by
  refine ⟨⟨fd, G, F.bindsN h1, fun s ws l => ?_⟩, gm, F.kp⟩
  obtain ⟨oc, od, dV, kV, doc, pm, an, cdv, ct, osl, rfl, lk, hcd, hD, hK⟩ := F.ex
  rcases hD with ⟨_, rfl⟩ | ⟨e, _⟩
  · exact .of_eq (h2 kV doc pm an cdv ct ws l)
  · exact absurd rfl e
/-- facts of an own exception class without fields -/
structure Exc0 (K : PySem.W.Frag) (mg : Str → Option Value) (x : Str) : Prop where
  gC : mg x = some (.ref (He.ga K x))
  xC : PySem.W.excIn K (He.ga K x) He.veBase "ValueError.__new__" = true
  kC : PySem.W.keepIn K (.ref (He.ga K x)) = true
  sC : PySem.W.subIn K (.ref (He.ga K x)) (.type "BaseException") = some true
  tC : PySem.W.typeIn K (.ref (He.ga K x)) = some (.type "type")
section
variable {X : Cx} {x : Str} {W : WX} {p pos pos2 : Pos}
theorem ps_raise0 (F : Exc0 X.K X.mg x) (hc : X.calm = true) (tk : Takes X W) (hg : Gl X x) (hdb : (x == ("__debug__" : Str)) = false := by decide) :
    PS X (.Raise (some (.Call (.Name x p) [] [] pos)) none pos2) (fun _ σ H => (fun (_ : L2.St) (H : Hp) (Q : XK) => Q (.ref (He.ga X.K x)) none H) σ H fun cls d H' => W cls d σ H') :=
  ps_raise hc tk (pmk_own0 PySem.F.excBase_ValueError F.xC F.gC F.kC (raises_own F.sC F.tC) hg hdb)
end
end DL
end
section
namespace DL
open PySem L2
/-! the rules under one name each, whatever the kinds of the operands -/
abbrev rAddS : R2 := fun x y H Q => ∃ i j, x = .str i ∧ y = .str j ∧ i.length + j.length ≤ sizeLine ∧ Q (.str (i ++ j)) H
def rAddA (K : PySem.W.Frag) : R2 := fun x y H Q => rI0 (fun i j => .int (i + j)) x y H Q ∨ (rAddS x y H Q ∨ (rCatA K x y H Q ∨ rCat x y H Q))
def rMulA : R2 := fun x y H Q => rI IntMulOk (fun i j => .int (i * j)) x y H Q ∨ rRep x y H Q
abbrev rInS0 : R2 := fun x y H Q => ∃ i j, x = .str i ∧ y = .str j ∧ Q (.bl (!(Builtin.Str.occurrences j i 0 j.length 1).isEmpty)) H
abbrev rNotInS0 : R2 := fun x y H Q => ∃ i j, x = .str i ∧ y = .str j ∧ Q (.bl (!(!(Builtin.Str.occurrences j i 0 j.length 1).isEmpty))) H
def rInA (K : PySem.W.Frag) : R2 := fun x y H Q => rIn K false x y H Q ∨ (rInS x y H Q ∨ (rInS0 x y H Q ∨ rInD K x y H Q))
def rNotInA (K : PySem.W.Frag) : R2 := fun x y H Q => rIn K true x y H Q ∨ (rNotInS x y H Q ∨ (rNotInS0 x y H Q ∨ rNotInD K x y H Q))
def rSlAny (K : PySem.W.Frag) : V → Option Int → Option Int → Hp → VK → Prop := fun x lo hi H Q => rSlL K x lo hi H Q ∨ (rSlA K x lo hi H Q ∨ rSlS x lo hi H Q)
abbrev rSubI : R2 := rI0 fun i j => .int (i - j)
abbrev rDivI : R2 := rI CDivI fun i j => .int (i.fdiv j)
abbrev rModI : R2 := rI (fun _ j => j ≠ 0) fun i j => .int (i.fmod j)
abbrev rPowI : R2 := rI CPow fun i j => .int (i ^ j.toNat)
abbrev rLtI : R2 := rI0 fun i j => .bl (decide (i < j))
abbrev rLeI : R2 := rI0 fun i j => .bl (decide (i ≤ j))
abbrev rGtI : R2 := rI0 fun i j => .bl (decide (j < i))
abbrev rGeI : R2 := rI0 fun i j => .bl (decide (j ≤ i))
abbrev rIsNo : R2 := fun x y H Q => y = .non ∧ Q (.bl (decide (x = .non))) H
abbrev rIsntNo : R2 := fun x y H Q => y = .non ∧ Q (.bl (!decide (x = .non))) H
abbrev rLenB (K : PySem.W.Frag) : List V → Hp → VK → Prop := fun xs H Q => ∃ x n, xs = [x] ∧ LenV K x H n ∧ Q (.int n) H
abbrev rAbsB : List V → Hp → VK → Prop := fun xs H Q => ∃ i, xs = [.int i] ∧ Q (.int (if i < 0 then -i else i)) H
abbrev rIntI : List V → Hp → VK → Prop := fun xs H Q => (∃ i, xs = [.int i] ∧ Q (.int i) H) ∨ ∃ k, xs = [.bl k] ∧ Q (.int (if k then 1 else 0)) H
abbrev rIntS : List V → Hp → VK → Prop := fun xs H Q => ∃ a n, xs = [.str a] ∧ PySem.intText? a = some n ∧ a.length ≤ 640 ∧ Q (.int n) H
def rIntB : List V → Hp → VK → Prop := fun xs H Q => rIntI xs H Q ∨ rIntS xs H Q
abbrev rStrB : List V → Hp → VK → Prop := fun xs H Q => ∃ i, xs = [.int i] ∧ i.natAbs.log2 < 1920 ∧ Q (.str (toString i)) H
abbrev uNeg : V → Hp → VK → Prop := rU fun i => .int (-i)
section
variable {X : Cx}
theorem op_addA : OpR X (binaryOp .Add) (rAddA X.K) := OpR.or op_add (OpR.or op_add_str (OpR.or op_catA op_cat))
theorem op_mulA : OpR X (binaryOp .Mult) rMulA := OpR.or op_mulI op_rep
theorem op_inA (hu : X.A.units + 65 < cLine) : OpR X (compareOp .In) (rInA X.K) := OpR.or op_in_seq (OpR.or op_inS (OpR.or op_in_str (op_inD hu)))
theorem op_notInA (hu : X.A.units + 65 < cLine) : OpR X (compareOp .NotIn) (rNotInA X.K) := OpR.or op_notIn_seq (OpR.or op_notInS (OpR.or op_notIn_str (op_notInD hu)))
theorem sl_any : SlR X (rSlAny X.K) := SlR.or sl_list (SlR.or sl_tupA sl_str)
theorem call_intA : CallR X (.type "int") rIntB := CallR.or call_int1 call_int_str
theorem room65 {k : Nat} {A : Around} (hr : Room k A) : A.units + 65 < cLine := by have := hr.un; omega
end
section
variable {c : Cn} {G : Gm} {ta tb te : TE} {P : D → Prop} {tlo thi : TO}
theorem k2_add {i j : Int} (p : P (.int (i + j))) : K2 c G (rAddA c.K) (.int i) (.int j) P := k2_l (k2_II p)
theorem k2_addS {x y : Str} (hl : x.length + y.length ≤ 100000) (p : P (.str (x ++ y))) : K2 c G (rAddA c.K) (.str x) (.str y) P := k2_r (k2_l fun B g C H σ X I v w a b Q q => by
  cases a; cases b
  exact ⟨x, y, rfl, rfl, le_line hl, q _ _ C H p I (Grow.refl I.ch) (.str _)⟩)
theorem k2_addT {xs ys : List D} (hl : xs.length + ys.length ≤ 100000) (p : P (.tuple (xs ++ ys))) : K2 c G (rAddA c.K) (.tuple xs) (.tuple ys) P := k2_r (k2_r (k2_l fun B g C H σ X I v w a b Q q => by
  cases a with
  | @tup a vs ds hs ha =>
    cases b with
    | @tup b ws es hs2 ha2 =>
      have e1 := RpAll.length ha
      have e2 := RpAll.length ha2
      refine ⟨a, b, vs, ws, rfl, rfl, sqT_mono I.ch hs, sqT_mono I.ch hs2, by rw [e1, e2]; exact le_line hl, fun z => ?_, fun _ z => ?_, fun _ _ l hl2 => ?_⟩
      · subst z
        cases ha
        exact q _ _ C H p I (Grow.refl I.ch) (.tup hs2 ha2)
      · subst z
        cases ha2
        rw [List.append_nil] at p
        exact q _ _ C H p I (Grow.refl I.ch) (.tup hs ha)
      · have g4 := Grow.cold (M := g.ss) I.ch (.tup (vs ++ ws)) hl2
        exact q _ _ _ _ p (I.cold _ hl2) g4 (.tup (SqT.of upd_same) (rpAll_mono g4.cc (RpAll.append ha ha2)))))
theorem el_add {P : List D → Prop} (h : EvP c ta G fun x => ∃ xs, x = .list xs ∧ EvP c tb G fun y => ∃ ys, y = .list ys ∧ xs.length + ys.length ≤ 100000 ∧ P (xs ++ ys)) : EvL c (tOp (rAddA c.K) ta tb) G P :=
  el_cat (fun x y H Q q => .inr (.inr (.inr q))) h
theorem k2_mul {i j : Int} (h : IntMulOk i j) (p : P (.int (i * j))) : K2 c G rMulA (.int i) (.int j) P := k2_l (k2_C h p)
theorem el_mul {P : List D → Prop} (h : EvP c ta G fun x => ∃ xs, x = .list xs ∧ EvP c tb G fun y => ∃ n, y = .int n ∧ -100000 ≤ n ∧ n ≤ 100000 ∧ xs.length * n.toNat ≤ 100000 ∧ P (List.replicate n.toNat xs).flatten) : EvL c (tOp rMulA ta tb) G P :=
  el_rep (fun x y H Q q => .inr q) h
theorem el_sl {P : List D → Prop} (h : EvP c te G fun x => ∃ xs, x = .list xs ∧ EvO c tlo G fun lo => EvO c thi G fun hi => P (cutD xs lo hi)) : EvL c (tSl (rSlAny c.K) te tlo thi) G P := el_slice (fun x lo hi H Q q => .inl q) h
theorem ev_slT (h : EvP c te G fun x => ∃ xs, x = .tuple xs ∧ EvO c tlo G fun lo => EvO c thi G fun hi => P (.tuple (cutD xs lo hi))) : EvP c (tSl (rSlAny c.K) te tlo thi) G P := ev_sliceT (fun x lo hi H Q q => .inr (.inl q)) h
theorem ev_slS (h : EvP c te G fun x => ∃ z, x = .str z ∧ z.length ≤ 100000 ∧ EvO c tlo G fun lo => EvO c thi G fun hi => P (.str (cutS z lo hi))) : EvP c (tSl (rSlAny c.K) te tlo thi) G P := fun B g C H σ X I Q q =>
  h B g C H σ X I _ fun x v C1 H1 h1 I1 g1 r1 => by
    obtain ⟨z, rfl, hl, h2⟩ := h1
    refine h2 B g C1 H1 σ (X.on g1.cc) I1 _ fun lo C2 H2 h3 I2 g2 => h3 B g C2 H2 σ (X.on (g1.trans g2).cc) I2 _ fun hi C3 H3 p I3 g3 => ?_
    cases r1
    exact .inr (.inr ⟨z, rfl, le_line hl, q _ _ C3 H3 p I3 ((g1.trans g2).trans g3) (.str _)⟩)
/-- one sign in a text -/
theorem k2_inS {n : Nat} {z : Str} (p : P (.bool (decide (n ∈ z.cps.toList)))) : K2 c G (rInA c.K) (.str ⟨#[n]⟩) (.str z) P := k2_r (k2_l fun B g C H σ X I v w a b Q q => by
  cases a; cases b
  exact ⟨n, z, rfl, rfl, q _ _ C H p I (Grow.refl I.ch) (.bl _)⟩)
theorem k2_notInS {n : Nat} {z : Str} (p : P (.bool (!decide (n ∈ z.cps.toList)))) : K2 c G (rNotInA c.K) (.str ⟨#[n]⟩) (.str z) P := k2_r (k2_l fun B g C H σ X I v w a b Q q => by
  cases a; cases b
  exact ⟨n, z, rfl, rfl, q _ _ C H p I (Grow.refl I.ch) (.bl _)⟩)
/-- an int among ints -/
theorem k2_inI {i : Int} {ns : List Int} {y : D} (hy : y = .list (ns.map .int) ∨ y = .tuple (ns.map .int)) (p : P (.bool (decide (i ∈ ns)))) : K2 c G (rInA c.K) (.int i) y P := k2_l fun B g C H σ X I v w a b Q q => by
  have e : inV (.int i) (ns.map V.int) = decide (i ∈ ns) := by
    unfold inV
    rw [List.any_map]
    have : (fun y => eqV y (V.int i)) ∘ V.int = fun j => decide (j = i) := by
      funext j
      show eqV (.int j) (.int i) = _
      show (j == i) = decide (j = i)
      by_cases z : j = i
      · subst z; simp
      · simp [z]
    rw [this]
    by_cases h : i ∈ ns
    · rw [decide_eq_true h, List.any_eq_true]
      exact ⟨i, h, by simp⟩
    · rw [decide_eq_false h, List.any_eq_false]
      intro j hj
      simp only [decide_eq_true_eq]
      intro z; subst z; exact h hj
  have fl : (ns.map V.int).all flatV = true := by
    rw [List.all_eq_true]
    intro x hx
    obtain ⟨j, _, rfl⟩ := List.mem_map.mp hx
    rfl
  cases a
  rcases hy with rfl | rfl
  · cases b with
    | @lst l vs ds hs ha =>
      have := RpAll.ints ha
      subst this
      exact ⟨l, _, rfl, .inl (SqL.of (I.ch _ _ hs)), rfl, fl, by rw [if_neg Bool.false_ne_true, e]; exact q _ _ C H p I (Grow.refl I.ch) (.bl _)⟩
  · cases b with
    | @tup l vs ds hs ha =>
      have := RpAll.ints ha
      subst this
      exact ⟨l, _, rfl, .inr (sqT_mono I.ch hs), rfl, fl, by rw [if_neg Bool.false_ne_true, e]; exact q _ _ C H p I (Grow.refl I.ch) (.bl _)⟩
theorem kc_intI {i : Int} (p : P (.int i)) : KC c G rIntB [.d (.int i)] P := fun B g C H σ X I vs ha Q q => .inl (kc_int p B g C H σ X I vs ha Q q)
theorem kc_intBl {k : Bool} (p : P (.int (if k then 1 else 0))) : KC c G rIntB [.d (.bool k)] P := fun B g C H σ X I vs ha Q q => .inl (kc_intB p B g C H σ X I vs ha Q q)
theorem kc_intS {a : Str} {n : Int} (e : PySem.intText? a = some n) (hl : a.length ≤ 640) (p : P (.int n)) : KC c G rIntB [.d (.str a)] P := fun B g C H σ X I vs ha Q q => .inr (by
  cases ha with
  | cons h t => cases t; cases h; exact ⟨a, n, rfl, e, hl, q _ _ C H p I (Grow.refl I.ch) (.int _)⟩)
theorem kc_str {i : Int} (h : i.natAbs.log2 < 1920) (p : P (.str (toString i))) : KC c G rStrB [.d (.int i)] P := fun B g C H σ X I vs ha Q q => by
  cases ha with
  | cons h t => cases t; cases h; exact ⟨i, rfl, by assumption, q _ _ C H p I (Grow.refl I.ch) (.str _)⟩
end
end DL
end
section
/-! zip of two rows, each a list or a tuple -/
namespace DL
open PySem RZ
open PySem.Sem (wp)
def IsSB : Bool → Heap → Addr → Array Value → Prop
  | false, h, a, xs => h.IsList a xs
  | true, h, a, xs => h.IsTuple a xs
def IsIB : Bool → Heap → Addr → Addr → Nat → Prop
  | false, h, a, l, i => h.IsListIter a l i
  | true, h, a, l, i => h.IsTupleIter a l i
theorem IsSB.extBut {t : Bool} {h h' : Heap} {a b : Addr} {items : Array Value} (x : IsSB t h a items) (hs : Heap.ExtBut b h h') (hab : a ≠ b) : IsSB t h' a items := by
  cases t
  · exact Heap.IsList.extBut x hs hab
  · exact Heap.IsTuple.extBut x hs hab
theorem IsIB.extBut {t : Bool} {h h' : Heap} {a b l : Addr} {i : Nat} (x : IsIB t h a l i) (hs : Heap.ExtBut b h h') (hab : a ≠ b) : IsIB t h' a l i := by
  cases t
  · exact Heap.IsListIter.extBut x hs hab
  · exact Heap.IsTupleIter.extBut x hs hab
theorem IsIB.at {t : Bool} {h h' : Heap} {a l : Addr} {i : Nat} (x : IsIB t h a l i) (e : ∀ o, h.get? a = some o → h'.get? a = some o) : IsIB t h' a l i := by
  cases t
  · exact Heap.IsListIter.at x e
  · exact Heap.IsTupleIter.at x e
theorem IsIB.obj {t : Bool} {h : Heap} {a l : Addr} {i : Nat} (x : IsIB t h a l i) : ∃ o, h.get? a = some o ∧ o.data = .fields #[.ref l, .int i 0] := by
  cases t
  · obtain ⟨o, e, _, d⟩ := x; exact ⟨o, e, d⟩
  · obtain ⟨o, e, _, d⟩ := x; exact ⟨o, e, d⟩
theorem IsIB.lt {t : Bool} {h : Heap} {a l : Addr} {i : Nat} (x : IsIB t h a l i) : a < h.objs.size := by
  obtain ⟨o, e, _⟩ := x.obj
  exact Heap.lt_size e
theorem IsSB.lt {t : Bool} {h : Heap} {a : Addr} {items : Array Value} (x : IsSB t h a items) : a < h.objs.size := by
  cases t
  · obtain ⟨o, e, _⟩ := x; exact Heap.lt_size e
  · obtain ⟨o, e, _⟩ := x; exact Heap.lt_size e
section
variable {prog : Program} {w : World} {A : Around} {E : Value → Shared → Prop} {s : Shared}
theorem nextB_item {t : Bool} {it l : Addr} {i : Nat} {items : Array Value} {x : Value} {Q : Value → Shared → Prop} (hit : IsIB t s.heap it l i) (hl : IsSB t s.heap l items) (hx : items[i]? = some x)
    (hQ : ∀ h', IsIB t h' it l (i + 1) → Heap.SameBut it s.heap h' → Q x { s with heap := h' }) : wpAny (model prog w) A (Builtin.SmallTypes.nextOf (.ref it)) Q E s := by
  cases t
  · exact wpAny_nextOf_list_item hit hl hx hQ
  · exact nextOf_tuple_item hit hl hx hQ
theorem nextB_end {t : Bool} {it l : Addr} {i : Nat} {items : Array Value} {Q : Value → Shared → Prop} (hh : A.handled = none) (hit : IsIB t s.heap it l i) (hl : IsSB t s.heap l items) (hx : items[i]? = none)
    (hE : ∀ h' e, Heap.ExtBut it s.heap h' → (∃ o, h'.get? e = some o ∧ o.cls = .type "StopIteration") → E (.ref e) { s with heap := h' }) : wpAny (model prog w) A (Builtin.SmallTypes.nextOf (.ref it)) Q E s := by
  cases t
  · exact wpAny_nextOf_list_end hh hit hl hx hE
  · exact nextOf_tuple_end hh hit hl hx hE
theorem zipB_next_item {t1 t2 : Bool} {z TI TO i1 i2 l1 l2 : Addr} {k1 k2 : Nat} {xs ys : Array Value} {x y a b : Value} {Q : Value → Shared → Prop} (D : ZipApart z TI TO i1 i2 l1 l2)
    (hz : IsZip s.heap z TI TO .none) (hTI : IsPair s.heap TI (.ref i1) (.ref i2)) (hTO : IsPair s.heap TO a b)
    (h1 : IsIB t1 s.heap i1 l1 k1) (h2 : IsIB t2 s.heap i2 l2 k2) (hl1 : IsSB t1 s.heap l1 xs) (hl2 : IsSB t2 s.heap l2 ys) (hx : xs[k1]? = some x) (hy : ys[k2]? = some y)
    (hQ : ∀ h', IsZip h' z TI TO (rawInt s.heap.objs.size) → IsPair h' TO x y → IsIB t1 h' i1 l1 (k1 + 1) → IsIB t2 h' i2 l2 (k2 + 1) → IsPair h' s.heap.objs.size x y → h'.objs.size = s.heap.objs.size + 1 →
      (∀ c o, c ≠ z → c ≠ TO → c ≠ i1 → c ≠ i2 → s.heap.get? c = some o → h'.get? c = some o) → Q (.ref s.heap.objs.size) { s with heap := h' }) :
    wpAny (model prog w) A (Builtin.«zip.__next__» ⟨[.ref z], []⟩) (fun fin s' => ∃ v, fin = .done (.ret v) ∧ Q v s') E s := by
  show wpAny _ _ (field (.ref z) 2 >>= _) _ _ _
  refine wpAny_bind (wpAny_field hz rfl (x := .bool false) rfl ?_)
  show wpAny _ _ (field (.ref z) 3 >>= _) _ _ _
  refine wpAny_bind (wpAny_field hz rfl (x := .ref TI) rfl ?_)
  refine wpAny_bind (wpAny_seqItems hTI rfl ?_)
  show wpAny _ _ (Builtin.SmallTypes.ownedTupleIsFree (.ref z) >>= _) _ _ _
  refine wpAny_bind ?_
  unfold Builtin.SmallTypes.ownedTupleIsFree
  refine wpAny_bind (wpAny_field hz rfl (x := .none) rfl (wpAny_pure ?_))
  simp only [if_true]
  refine wpAny_bind (wpAny_rule ?_)
  refine wpAny_bind (wpAny_field hz rfl (x := .ref TO) rfl ?_)
  refine wpAny_bind (wpAny_setField_rec hz (by simp) fun h₁ hz₁ hs₁ => ?_)
  replace hz₁ : IsZip h₁ z TI TO .ellipsis := hz₁
  refine wpAny_bind ?_
  simp only [List.zipIdx_cons, List.zipIdx_nil, List.forIn_cons, List.forIn_nil]

  refine wpAny_bind (wpAny_bind (wpAny_onRaise ?_))
  show wpAny _ _ (Builtin.SmallTypes.nextOf (.ref i1) >>= _) _ _ _
  refine wpAny_bind (nextB_item (h1.extBut hs₁.extBut D.i1z) (hl1.extBut hs₁.extBut D.l1z) hx fun h₂ h1₂ hs₂ => wpAny_pure ?_)
  have hTO₂ : IsPair h₂ TO a b := hs₂.extBut _ _ D.TOi1 (hs₁.extBut _ _ D.TOz hTO)
  refine wpAny_bind (wpAny_seqItems hTO₂ rfl ?_)
  refine wpAny_bind (wpAny_updateSeq_pair hTO₂ fun h₃ hTO₃ hs₃ => ?_)
  replace hTO₃ : IsPair h₃ TO x b := hTO₃
  refine wpAny_bind (wpAny_letGo (wpAny_pure ?_))

  refine wpAny_bind (wpAny_bind (wpAny_onRaise ?_))
  show wpAny _ _ (Builtin.SmallTypes.nextOf (.ref i2) >>= _) _ _ _
  refine wpAny_bind (nextB_item (((h2.extBut hs₁.extBut D.i2z).extBut hs₂.extBut D.i12.symm).extBut hs₃.extBut D.TOi2.symm)
    (((hl2.extBut hs₁.extBut D.l2z).extBut hs₂.extBut D.l2i1).extBut hs₃.extBut D.l2TO) hy fun h₄ h2₄ hs₄ => wpAny_pure ?_)
  have hTO₄ : IsPair h₄ TO x b := hs₄.extBut _ _ D.TOi2 hTO₃
  refine wpAny_bind (wpAny_seqItems hTO₄ rfl ?_)
  refine wpAny_bind (wpAny_updateSeq_pair hTO₄ fun h₅ hTO₅ hs₅ => ?_)
  replace hTO₅ : IsPair h₅ TO x y := hTO₅
  refine wpAny_bind (wpAny_letGo (wpAny_pure (wpAny_pure ?_)))

  refine wpAny_bind (wpAny_seqItems hTO₅ rfl ?_)
  refine wpAny_bind (wpAny_newTuple ?_)
  have hsz : h₅.objs.size = s.heap.objs.size := by rw [hs₅.1, hs₄.1, hs₃.1, hs₂.1, hs₁.1]
  have hz₅ : IsZip h₅ z TI TO .ellipsis := hs₅.extBut _ _ D.TOz.symm (hs₄.extBut _ _ D.i2z.symm (hs₃.extBut _ _ D.TOz.symm (hs₂.extBut _ _ D.i1z.symm hz₁)))
  have hk₅ : ∀ c o, c ≠ z → c ≠ TO → c ≠ i1 → c ≠ i2 → s.heap.get? c = some o → h₅.get? c = some o := fun c o c1 c2 c3 c4 e =>
    hs₅.extBut _ _ c2 (hs₄.extBut _ _ c4 (hs₃.extBut _ _ c2 (hs₂.extBut _ _ c3 (hs₁.extBut _ _ c1 e))))
  have h1₅ : IsIB t1 h₅ i1 l1 (k1 + 1) := ((h1₂.extBut hs₃.extBut D.TOi1.symm).extBut hs₄.extBut D.i12).extBut hs₅.extBut D.TOi1.symm
  have h2₅ : IsIB t2 h₅ i2 l2 (k2 + 1) := h2₄.extBut hs₅.extBut D.TOi2.symm
  have hzlt : z < h₅.objs.size := Heap.lt_size hz₅
  have hTOlt : TO < h₅.objs.size := Heap.lt_size hTO₅
  have hi1lt : i1 < h₅.objs.size := h1₅.lt
  have hi2lt : i2 < h₅.objs.size := h2₅.lt
  show wpAny _ _ (Builtin.SmallTypes.ownedTupleHandOut (.ref z) (.ref h₅.objs.size) >>= _) _ _ _
  refine wpAny_bind ?_
  unfold Builtin.SmallTypes.ownedTupleHandOut
  have hz₆ : IsZip (h₅.push { cls := .type "tuple", data := .seq #[x, y] }) z TI TO .ellipsis := Heap.get?_push_of_some _ hz₅
  refine wpAny_bind (wpAny_setField_rec hz₆ (by simp) fun h₇ hz₇ hs₇ => ?_)
  replace hz₇ : IsZip h₇ z TI TO (rawInt h₅.objs.size) := hz₇
  refine wpAny_setField_rec hz₇ (by simp) fun h₈ hz₈ hs₈ => ?_
  replace hz₈ : IsZip h₈ z TI TO (rawInt h₅.objs.size) := hz₈
  have up : ∀ c o, c ≠ z → h₅.get? c = some o → h₈.get? c = some o := fun c o c1 e => hs₈.extBut _ _ c1 (hs₇.extBut _ _ c1 (Heap.get?_push_of_some _ e))
  have hT₈ : IsPair h₈ h₅.objs.size x y := hs₈.extBut _ _ (Nat.ne_of_gt hzlt) (hs₇.extBut _ _ (Nat.ne_of_gt hzlt) (Heap.get?_push_size _ rfl))
  have hz8 : h₈.objs.size = h₅.objs.size + 1 := by rw [hs₈.1, hs₇.1, Heap.size_push]
  rw [hsz] at hz₈ hT₈ hz8
  refine wpAny_pure ⟨_, rfl, ?_⟩
  show Q (.ref h₅.objs.size) _
  rw [hsz]
  exact hQ h₈ hz₈ (up _ _ D.TOz hTO₅) (h1₅.at fun o e => up _ o D.i1z e) (h2₅.at fun o e => up _ o D.i2z e) hT₈ hz8 fun c o c1 c2 c3 c4 e => up c o c1 (hk₅ c o c1 c2 c3 c4 e)

theorem zipB_next_end {t1 t2 : Bool} {z TI TO i1 i2 l1 l2 : Addr} {k1 k2 : Nat} {xs ys : Array Value} {a b : Value} {Q : PySem.Fin → Shared → Prop} (hh : A.handled = none) (D : ZipApart z TI TO i1 i2 l1 l2)
    (hz : IsZip s.heap z TI TO .none) (hTI : IsPair s.heap TI (.ref i1) (.ref i2)) (hTO : IsPair s.heap TO a b)
    (h1 : IsIB t1 s.heap i1 l1 k1) (h2 : IsIB t2 s.heap i2 l2 k2) (hl1 : IsSB t1 s.heap l1 xs) (hl2 : IsSB t2 s.heap l2 ys) (hend : xs[k1]? = none ∨ ys[k2]? = none)
    (hE : ∀ h' e, (∀ c o, c ≠ z → c ≠ TO → c ≠ i1 → c ≠ i2 → s.heap.get? c = some o → h'.get? c = some o) → (∃ o, h'.get? e = some o ∧ o.cls = .type "StopIteration") → E (.ref e) { s with heap := h' }) :
    wpAny (model prog w) A (Builtin.«zip.__next__» ⟨[.ref z], []⟩) Q E s := by
  show wpAny _ _ (field (.ref z) 2 >>= _) _ _ _
  refine wpAny_bind (wpAny_field hz rfl (x := .bool false) rfl ?_)
  show wpAny _ _ (field (.ref z) 3 >>= _) _ _ _
  refine wpAny_bind (wpAny_field hz rfl (x := .ref TI) rfl ?_)
  refine wpAny_bind (wpAny_seqItems hTI rfl ?_)
  show wpAny _ _ (Builtin.SmallTypes.ownedTupleIsFree (.ref z) >>= _) _ _ _
  refine wpAny_bind ?_
  unfold Builtin.SmallTypes.ownedTupleIsFree
  refine wpAny_bind (wpAny_field hz rfl (x := .none) rfl (wpAny_pure ?_))
  simp only [if_true]
  refine wpAny_bind (wpAny_rule ?_)
  refine wpAny_bind (wpAny_field hz rfl (x := .ref TO) rfl ?_)
  refine wpAny_bind (wpAny_setField_rec hz (by simp) fun h₁ hz₁ hs₁ => ?_)
  replace hz₁ : IsZip h₁ z TI TO .ellipsis := hz₁
  refine wpAny_bind ?_
  simp only [List.zipIdx_cons, List.zipIdx_nil, List.forIn_cons, List.forIn_nil]
  refine wpAny_bind (wpAny_bind (wpAny_onRaise ?_))
  show wpAny _ _ (Builtin.SmallTypes.nextOf (.ref i1) >>= _) _ _ _
  cases hx : xs[k1]? with
  | none =>
    refine wpAny_bind (nextB_end hh (h1.extBut hs₁.extBut D.i1z) (hl1.extBut hs₁.extBut D.l1z) hx fun h₂ e hs₂ he => ?_)
    obtain ⟨oe, hoe, hce⟩ := he
    have hz₂ : IsZip h₂ z TI TO .ellipsis := hs₂ _ _ D.i1z.symm hz₁
    have hez : e ≠ z := fun x => by subst x; rw [hz₂] at hoe; cases hoe; simp at hce
    refine wpAny_setField_rec hz₂ (by simp) fun h₃ _ hs₃ => hE h₃ e (fun c o c1 _ c3 _ x => hs₃.extBut _ _ c1 (hs₂ _ _ c3 (hs₁.extBut _ _ c1 x))) ⟨oe, hs₃.extBut _ _ hez hoe, hce⟩
  | some x =>
    have hy : ys[k2]? = none := by rcases hend with h | h; rw [hx] at h; cases h; exact h
    refine wpAny_bind (nextB_item (h1.extBut hs₁.extBut D.i1z) (hl1.extBut hs₁.extBut D.l1z) hx fun h₂ h1₂ hs₂ => wpAny_pure ?_)
    have hTO₂ : IsPair h₂ TO a b := hs₂.extBut _ _ D.TOi1 (hs₁.extBut _ _ D.TOz hTO)
    refine wpAny_bind (wpAny_seqItems hTO₂ rfl ?_)
    refine wpAny_bind (wpAny_updateSeq_pair hTO₂ fun h₃ hTO₃ hs₃ => ?_)
    refine wpAny_bind (wpAny_letGo (wpAny_pure ?_))
    refine wpAny_bind (wpAny_bind (wpAny_onRaise ?_))
    show wpAny _ _ (Builtin.SmallTypes.nextOf (.ref i2) >>= _) _ _ _
    refine wpAny_bind (nextB_end hh (((h2.extBut hs₁.extBut D.i2z).extBut hs₂.extBut D.i12.symm).extBut hs₃.extBut D.TOi2.symm)
      (((hl2.extBut hs₁.extBut D.l2z).extBut hs₂.extBut D.l2i1).extBut hs₃.extBut D.l2TO) hy fun h₄ e hs₄ he => ?_)
    obtain ⟨oe, hoe, hce⟩ := he
    have hz₄ : IsZip h₄ z TI TO .ellipsis := hs₄ _ _ D.i2z.symm (hs₃.extBut _ _ D.TOz.symm (hs₂.extBut _ _ D.i1z.symm hz₁))
    have hez : e ≠ z := fun x => by subst x; rw [hz₄] at hoe; cases hoe; simp at hce
    refine wpAny_setField_rec hz₄ (by simp) fun h₅ _ hs₅ => hE h₅ e (fun c o c1 c2 c3 c4 x => hs₅.extBut _ _ c1 (hs₄ _ _ c4 (hs₃.extBut _ _ c2 (hs₂.extBut _ _ c3 (hs₁.extBut _ _ c1 x))))) ⟨oe, hs₅.extBut _ _ hez hoe, hce⟩

theorem pyNext_zipB_item {t1 t2 : Bool} {z TI TO i1 i2 l1 l2 : Addr} {k1 k2 : Nat} {xs ys : Array Value} {x y a b : Value} {Q : Option Value → Shared → Prop} (D : ZipApart z TI TO i1 i2 l1 l2)
    (hz : IsZip s.heap z TI TO .none) (hTI : IsPair s.heap TI (.ref i1) (.ref i2)) (hTO : IsPair s.heap TO a b)
    (h1 : IsIB t1 s.heap i1 l1 k1) (h2 : IsIB t2 s.heap i2 l2 k2) (hl1 : IsSB t1 s.heap l1 xs) (hl2 : IsSB t2 s.heap l2 ys) (hx : xs[k1]? = some x) (hy : ys[k2]? = some y)
    (hQ : ∀ h', IsZip h' z TI TO (rawInt s.heap.objs.size) → IsPair h' TO x y → IsIB t1 h' i1 l1 (k1 + 1) → IsIB t2 h' i2 l2 (k2 + 1) → IsPair h' s.heap.objs.size x y → h'.objs.size = s.heap.objs.size + 1 →
      (∀ c o, c ≠ z → c ≠ TO → c ≠ i1 → c ≠ i2 → s.heap.get? c = some o → h'.get? c = some o) → Q (some (.ref s.heap.objs.size)) { s with heap := h' }) :
    wpAny (model prog w) A (pyNext (.ref z)) Q E s := by
  have hT : s.TypeIs (.ref z) "zip" := ⟨_, hz, rfl⟩
  unfold pyNext
  exact wpAny_bind (wpAny_attempt (wpAny_callSpecial?_slot (name := Str.ofString "__next__") hT F.slot_zip_next
    (wpAny_call_entry F.slot_zip_next hT F.entry_zip_next
      (zipB_next_item D hz hTI hTO h1 h2 hl1 hl2 hx hy fun h' a1 a2 a3 a4 a5 a6 a7 => wpAny_pure (hQ h' a1 a2 a3 a4 a5 a6 a7)) (F.args_zip_next_1 _))))

theorem pyNext_zipB_end {t1 t2 : Bool} {z TI TO i1 i2 l1 l2 : Addr} {k1 k2 : Nat} {xs ys : Array Value} {a b : Value} {Q : Option Value → Shared → Prop} (hh : A.handled = none) (D : ZipApart z TI TO i1 i2 l1 l2)
    (hz : IsZip s.heap z TI TO .none) (hTI : IsPair s.heap TI (.ref i1) (.ref i2)) (hTO : IsPair s.heap TO a b)
    (h1 : IsIB t1 s.heap i1 l1 k1) (h2 : IsIB t2 s.heap i2 l2 k2) (hl1 : IsSB t1 s.heap l1 xs) (hl2 : IsSB t2 s.heap l2 ys) (hend : xs[k1]? = none ∨ ys[k2]? = none)
    (hQ : ∀ h', (∀ c o, c ≠ z → c ≠ TO → c ≠ i1 → c ≠ i2 → s.heap.get? c = some o → h'.get? c = some o) → Q none { s with heap := h' }) : wpAny (model prog w) A (pyNext (.ref z)) Q E s := by
  have hT : s.TypeIs (.ref z) "zip" := ⟨_, hz, rfl⟩
  unfold pyNext
  refine wpAny_bind (wpAny_attempt (wpAny_callSpecial?_slot (name := Str.ofString "__next__") hT F.slot_zip_next
    (wpAny_call_entry F.slot_zip_next hT F.entry_zip_next (zipB_next_end hh D hz hTI hTO h1 h2 hl1 hl2 hend fun h' e hk he => ?_) (F.args_zip_next_1 _))))
  obtain ⟨o, ho, hc⟩ := he
  refine wpAny_bind (wpAny_isInstance (T := "StopIteration") (b := true) ⟨o, ho, hc⟩ isSubtype_stop ?_)
  exact wpAny_pure (hQ _ hk)
end
def itN : Bool → String
  | false => "list_iterator"
  | true => "tuple_iterator"
abbrev zB1 (t1 : Bool) (h : Heap) (l1 : Addr) : Heap := h.push { cls := .type (itN t1), data := .fields #[.ref l1, .int 0 0] }
abbrev zB2 (t1 t2 : Bool) (h : Heap) (l1 l2 : Addr) : Heap := (zB1 t1 h l1).push { cls := .type (itN t2), data := .fields #[.ref l2, .int 0 0] }
abbrev zB3 (t1 t2 : Bool) (h : Heap) (l1 l2 : Addr) : Heap := (zB2 t1 t2 h l1 l2).push { cls := .type "tuple", data := .seq #[.ref h.objs.size, .ref (zB1 t1 h l1).objs.size] }
abbrev zB4 (t1 t2 : Bool) (h : Heap) (l1 l2 : Addr) : Heap := (zB3 t1 t2 h l1 l2).push { cls := .type "tuple", data := .seq #[.none, .none] }
abbrev zB5 (t1 t2 : Bool) (h : Heap) (l1 l2 : Addr) : Heap := (zB4 t1 t2 h l1 l2).push { cls := .type "zip", data := .fields #[.none, .bool false, .bool false, .ref (zB2 t1 t2 h l1 l2).objs.size, .ref (zB3 t1 t2 h l1 l2).objs.size] }
theorem meets_zB_tl (l1 l2 : Addr) (xs ys : Array Value) :
    Meets (Builtin.«zip.__new__» ⟨[.type "zip", .ref l1, .ref l2], []⟩) (fun _ R s => s.heap.IsTuple l1 xs ∧ s.heap.IsList l2 ys ∧
      R (.ok (.ret (.ref (zB4 true false s.heap l1 l2).objs.size))) { s with heap := zB5 true false s.heap l1 l2 }) :=
  .of_wp fun prog w A R s h => by
    obtain ⟨hp, g, d, tk, os⟩ := s; obtain ⟨hl1, hl2, h⟩ := h
    have hsub := sub_zip
    have hL1 : Heap.IsTuple (Shared.heap ⟨hp, g, d, tk, os⟩) l1 xs := hl1
    have hL2 : Heap.IsList (Shared.heap ⟨hp.push { cls := .type "tuple_iterator", data := .fields #[.ref l1, .int 0 0] }, g, d, tk, os⟩) l2 ys := Heap.IsList.push hl2 _
    wp_walk using wpAny_pyIter_tuple hL1, wpAny_pyIter_list hL2
    exact ⟨_, rfl, h⟩
theorem meets_zB_lt (l1 l2 : Addr) (xs ys : Array Value) :
    Meets (Builtin.«zip.__new__» ⟨[.type "zip", .ref l1, .ref l2], []⟩) (fun _ R s => s.heap.IsList l1 xs ∧ s.heap.IsTuple l2 ys ∧
      R (.ok (.ret (.ref (zB4 false true s.heap l1 l2).objs.size))) { s with heap := zB5 false true s.heap l1 l2 }) :=
  .of_wp fun prog w A R s h => by
    obtain ⟨hp, g, d, tk, os⟩ := s; obtain ⟨hl1, hl2, h⟩ := h
    have hsub := sub_zip
    have hL1 : Heap.IsList (Shared.heap ⟨hp, g, d, tk, os⟩) l1 xs := hl1
    have hL2 : Heap.IsTuple (Shared.heap ⟨hp.push { cls := .type "list_iterator", data := .fields #[.ref l1, .int 0 0] }, g, d, tk, os⟩) l2 ys := Heap.IsTuple.push hl2 _
    wp_walk using wpAny_pyIter_list hL1, wpAny_pyIter_tuple hL2
    exact ⟨_, rfl, h⟩
theorem meets_zB (t1 t2 : Bool) (l1 l2 : Addr) (xs ys : Array Value) :
    Meets (Builtin.«zip.__new__» ⟨[.type "zip", .ref l1, .ref l2], []⟩) (fun _ R s => IsSB t1 s.heap l1 xs ∧ IsSB t2 s.heap l2 ys ∧
      R (.ok (.ret (.ref (zB4 t1 t2 s.heap l1 l2).objs.size))) { s with heap := zB5 t1 t2 s.heap l1 l2 }) := by
  cases t1 <;> cases t2
  · exact meets_zip_new l1 l2 xs ys
  · exact meets_zB_lt l1 l2 xs ys
  · exact meets_zB_tl l1 l2 xs ys
  · exact meets_zipT_new l1 l2 xs ys
section
variable {prog : Program} {w : World} {A : Around} {E : Value → Shared → Prop} {s : Shared}
theorem isIB_mk {t : Bool} {h : Heap} {a l : Addr} (e : h.get? a = some { cls := .type (itN t), data := .fields #[.ref l, .int 0 0] }) : IsIB t h a l 0 := by
  cases t
  · exact ⟨_, e, rfl, rfl⟩
  · exact ⟨_, e, rfl, rfl⟩
theorem call_zipB {t1 t2 : Bool} {l1 l2 : Addr} {xs ys : Array Value} {Q : Value → Shared → Prop} (hl1 : IsSB t1 s.heap l1 xs) (hl2 : IsSB t2 s.heap l2 ys)
    (h : ∀ h', IsZip h' (s.heap.objs.size + 4) (s.heap.objs.size + 2) (s.heap.objs.size + 3) .none → IsPair h' (s.heap.objs.size + 2) (.ref s.heap.objs.size) (.ref (s.heap.objs.size + 1)) →
      IsPair h' (s.heap.objs.size + 3) .none .none → IsIB t1 h' s.heap.objs.size l1 0 → IsIB t2 h' (s.heap.objs.size + 1) l2 0 → h'.objs.size = s.heap.objs.size + 5 →
      (∀ c o, s.heap.get? c = some o → h'.get? c = some o) → Q (.ref (s.heap.objs.size + 4)) { s with heap := h' }) :
    wpAny (model prog w) A (call (.type "zip") [.ref l1, .ref l2]) Q E s := by
  refine callType_new F.called_zip (by decide) (F.typeCall_zip_2 _ _) (F.newCall_zip_2 _ _) (fun obj => F.args_object_init_3 obj _ _) F.entry_zip_new
    (meets_zB t1 t2 l1 l2 xs ys) ⟨hl1, hl2, ?_⟩
  have z1 : (zB1 t1 s.heap l1).objs.size = s.heap.objs.size + 1 := Heap.size_push ..
  have z2 : (zB2 t1 t2 s.heap l1 l2).objs.size = s.heap.objs.size + 2 := by rw [Heap.size_push, z1]
  have z3 : (zB3 t1 t2 s.heap l1 l2).objs.size = s.heap.objs.size + 3 := by rw [Heap.size_push, z2]
  have z4 : (zB4 t1 t2 s.heap l1 l2).objs.size = s.heap.objs.size + 4 := by rw [Heap.size_push, z3]
  have z5 : (zB5 t1 t2 s.heap l1 l2).objs.size = s.heap.objs.size + 5 := by rw [Heap.size_push, z4]
  have g5 : (zB5 t1 t2 s.heap l1 l2).get? (zB4 t1 t2 s.heap l1 l2).objs.size = some _ := Heap.get?_push_size _ rfl
  have g4 : (zB5 t1 t2 s.heap l1 l2).get? (zB3 t1 t2 s.heap l1 l2).objs.size = some _ := Heap.get?_push_of_some _ (Heap.get?_push_size _ rfl)
  have g3 : (zB5 t1 t2 s.heap l1 l2).get? (zB2 t1 t2 s.heap l1 l2).objs.size = some _ := Heap.get?_push_of_some _ (Heap.get?_push_of_some _ (Heap.get?_push_size _ rfl))
  have g2 : (zB5 t1 t2 s.heap l1 l2).get? (zB1 t1 s.heap l1).objs.size = some _ := Heap.get?_push_of_some _ (Heap.get?_push_of_some _ (Heap.get?_push_of_some _ (Heap.get?_push_size _ rfl)))
  have g1 : (zB5 t1 t2 s.heap l1 l2).get? s.heap.objs.size = some _ := Heap.get?_push_of_some _ (Heap.get?_push_of_some _ (Heap.get?_push_of_some _ (Heap.get?_push_of_some _ (Heap.get?_push_size _ rfl))))
  show _ ∧ _
  rw [z2, z3, z4] at g5
  rw [z1, z2] at g3
  rw [z3] at g4
  rw [z1] at g2
  rw [z4]
  exact ⟨⟨_, g5, rfl⟩, h _ g5 g3 g4 (isIB_mk g1) (isIB_mk g2) z5 fun c o x =>
    Heap.get?_push_of_some _ (Heap.get?_push_of_some _ (Heap.get?_push_of_some _ (Heap.get?_push_of_some _ (Heap.get?_push_of_some _ x))))⟩
end
open L2 PyProof.Rows
def SqB (t : Bool) (K : PySem.W.Frag) (H : Hp) (a : Addr) (xs : List V) : Prop := match t with
  | false => SqL K H a xs
  | true => SqT K H a xs
def ItzB (t1 t2 : Bool) (K : PySem.W.Frag) (a b : Addr) : It :=
  ⟨fun i H => ∃ (xs ys : List V) (x y : V), SqB t1 K H a xs ∧ SqB t2 K H b ys ∧ xs[i]? = some x ∧ ys[i]? = some y,
    fun i H v H' => ∃ T x y, v = .ref T ∧ H T = none ∧ H' = upd H T (.tup [x, y]) ∧ (∀ xs, SqB t1 K H a xs → xs[i]? = some x) ∧ ∀ ys, SqB t2 K H b ys → ys[i]? = some y,
    fun i H => ∃ xs ys : List V, SqB t1 K H a xs ∧ SqB t2 K H b ys ∧ (xs.length ≤ i ∨ ys.length ≤ i)⟩
theorem inv_sqB {X : Cx} {pins : List (Addr × Obj)} {σ : L2.St} {H : Hp} {s : Shared} {t : Bool} {a : Addr} {xs : List V} (I : Inv X pins σ H s) (h : SqB t X.K H a xs) : ∃ its : List Value, Vals xs its ∧ IsSB t s.heap a its.toArray := by
  cases t
  · obtain ⟨its, rv, p, _⟩ := I.list h
    exact ⟨its, rv, p.isList⟩
  · obtain ⟨its, rv, p, _⟩ := I.tuple h
    exact ⟨its, rv, p⟩
theorem inv_sqB_inj {X : Cx} {pins : List (Addr × Obj)} {σ : L2.St} {H : Hp} {s : Shared} {t : Bool} {a : Addr} {xs ys : List V} (I : Inv X pins σ H s) (h : SqB t X.K H a xs) (h2 : SqB t X.K H a ys) : xs = ys := by
  cases t
  · exact I.list_inj h h2
  · exact I.tuple_inj h h2
theorem turn_zipB {P : Program} {w : World} {K : PySem.W.Frag} {elts : List Expr} {kk : Nat} {tpos : Pos} {t1 t2 : Bool} {a b z TI TO i1 i2 : Addr} (D : ZipApart z TI TO i1 i2 a b) :
    Turn P w K (.Tuple elts kk tpos) (ItzB t1 t2 K a b) [z, TI, TO, i1, i2] z (fun i h => IsZip h z TI TO .none ∧ IsPair h TI (.ref i1) (.ref i2) ∧ (∃ x y, IsPair h TO x y) ∧ IsIB t1 h i1 a i ∧ IsIB t2 h i2 b i) where
  mem := by simp
  obj := fun i h st c hc => by
    obtain ⟨hz, hTI, ⟨x, y, hTO⟩, h1, h2⟩ := st
    obtain ⟨o1, e1, d1⟩ := h1.obj
    obtain ⟨o2, e2, d2⟩ := h2.obj
    have e' : c = z ∨ c = TI ∨ c = TO ∨ c = i1 ∨ c = i2 := by simpa using hc
    rcases e' with q | q | q | q | q
    · rw [q]; exact ⟨_, hz, fun v q => nomatch q⟩
    · rw [q]; exact ⟨_, hTI, fun v q => nomatch q⟩
    · rw [q]; exact ⟨_, hTO, fun v q => nomatch q⟩
    · rw [q]; exact ⟨o1, e1, fun v q => by rw [d1] at q; cases q⟩
    · rw [q]; exact ⟨o2, e2, fun v q => by rw [d2] at q; cases q⟩
  keep := fun i h h' st k => by
    obtain ⟨hz, hTI, ⟨x, y, hTO⟩, h1, h2⟩ := st
    exact ⟨k z (by simp) _ hz, k TI (by simp) _ hTI, ⟨x, y, k TO (by simp) _ hTO⟩, h1.at fun o q => k i1 (by simp) o q, h2.at fun o q => k i2 (by simp) o q⟩
  item := by
    intro X hP hw hK hc i pins s σ H E I hf st hg
    subst hP hw hK
    obtain ⟨hz, hTI, ⟨x0, y0, hTO⟩, h1, h2⟩ := st
    obtain ⟨xs, ys, x, y, hqx, hqy, hx, hy⟩ := hg
    obtain ⟨its, rv, p⟩ := inv_sqB I hqx
    obtain ⟨its2, rv2, p2⟩ := inv_sqB I hqy
    obtain ⟨u, hu, ru⟩ := rv.get hx
    obtain ⟨u2, hu2, ru2⟩ := rv2.get hy
    have hzl : z < s.heap.objs.size := Heap.lt_size hz
    refine pyNext_zipB_item D hz hTI hTO h1 h2 p p2 (x := u) (y := u2) (by simpa using hu) (by simpa using hu2) fun h' z' TO' h1' h2' hT hsz hk => ?_
    refine ⟨_, rfl, wpAny_letOwnedTupleGo_zip (s := { s with heap := h' }) z' fun h'' z'' sb => ?_⟩
    have hT2 : h''.get? s.heap.objs.size = some { cls := .type "tuple", data := .seq #[u, u2] } := (sb.2 _ (Nat.ne_of_gt hzl)).trans hT
    have new : ObjOk X.prog X.w (upd H s.heap.objs.size (.tup [x, y])) h'' s.heap.objs.size (.tup [x, y]) :=
      ⟨by show 2 ≤ sizeLine; decide, [u, u2], .cons ru (.cons ru2 .nil), ⟨_, hT2, rfl, _, rfl⟩⟩
    have I1 : Inv X pins σ (upd H s.heap.objs.size (.tup [x, y])) { s with heap := h'' } :=
      I.turnedNew (t' := s.toks) (ch := [z, TI, TO, i1, i2]) (fun c o hb q => (sb.2 c (fun q' => hb (by simp [q']))).trans (hk c o (fun q' => hb (by simp [q'])) (fun q' => hb (by simp [q'])) (fun q' => hb (by simp [q'])) (fun q' => hb (by simp [q'])) q)) hf (Nat.le_refl _) new
    refine ⟨.ref s.heap.objs.size, _, I1, rfl, ⟨_, x, y, rfl, I.hok.fresh (Nat.le_refl _), rfl, fun l hl => by rw [inv_sqB_inj I hl hqx]; exact hx, fun l hl => by rw [inv_sqB_inj I hl hqy]; exact hy⟩, ⟨z'', ?_, ⟨u, u2, ?_⟩, ?_, ?_⟩, fun c hcm => ?_⟩
    · exact (sb.2 _ D.TIz).trans (hk _ _ D.TIz D.TITO D.TIi1 D.TIi2 hTI)
    · exact (sb.2 _ D.TOz).trans TO'
    · exact h1'.at fun o q => (sb.2 _ D.i1z).trans q
    · exact h2'.at fun o q => (sb.2 _ D.i2z).trans q
    · have hlt : c < s.heap.objs.size := by
        have e' : c = z ∨ c = TI ∨ c = TO ∨ c = i1 ∨ c = i2 := by simpa using hcm
        rcases e' with q | q | q | q | q
        · rw [q]; exact hzl
        · rw [q]; exact Heap.lt_size hTI
        · rw [q]; exact Heap.lt_size hTO
        · rw [q]; exact h1.lt
        · rw [q]; exact h2.lt
      rw [upd_ne (Nat.ne_of_lt hlt)]
      exact (hf c hcm).1
  done := by
    intro X hP hw hK hc i pins s σ H E I hf st hg
    subst hP hw hK
    obtain ⟨hz, hTI, ⟨x0, y0, hTO⟩, h1, h2⟩ := st
    obtain ⟨xs, ys, hqx, hqy, hend⟩ := hg
    obtain ⟨its, rv, p⟩ := inv_sqB I hqx
    obtain ⟨its2, rv2, p2⟩ := inv_sqB I hqy
    have l1 := rv.length
    have l2 := rv2.length
    have he : its.toArray[i]? = none ∨ its2.toArray[i]? = none := by
      rcases hend with q | q
      · exact .inl (by simp; omega)
      · exact .inr (by simp; omega)
    exact pyNext_zipB_end (I.ok.hd hc) D hz hTI hTO h1 h2 p p2 he fun h' hk => ⟨rfl, I.turnedL (t' := s.toks) (ch := [z, TI, TO, i1, i2]) (fun c o hb q =>
      hk c o (fun q' => hb (by simp [q'])) (fun q' => hb (by simp [q'])) (fun q' => hb (by simp [q'])) (fun q' => hb (by simp [q'])) q) hf⟩
  self := fun A i s Q E st h => wpAny_pyIter_zip st.1 h

def iZipX (K : PySem.W.Frag) (ta : TA) : TI := fun σ H R => ta σ H fun vs H1 => ∃ a b xs ys, vs = [.ref a, .ref b] ∧ ∃ t1 t2 : Bool, SqB t1 K H1 a xs ∧ SqB t2 K H1 b ys ∧ R (ItzB t1 t2 K a b) H1
theorem pi_zipX {X : Cx} {e e2 : Expr} {ta : TA} {p pos tpos : Pos} {elts : List Expr} {kk : Nat} (hg : Gl X "zip") (hm : X.mg "zip" = none) (ha : PA X [e, e2] ta)
    (hs : starEach [e, e2] X.env = (false, eval e X.env) :: starEach [e2] X.env := by rfl) (hpl : (backTo pos (starEach [e2] X.env)).any (·.1) = false := by rfl) :
    PI X (.Tuple elts kk tpos) (.Call (.Name "zip" p) [e, e2] [] pos) (iZipX X.K ta) := by
  refine ⟨fun pins s σ H R I h => ?_⟩
  refine Call_ (ld_blt I hg hm PyProof.Rows.boot_zip (PyProof.Rows.callWith_type1 (thn (ha.run pos pins s σ H _ I h) fun us s1 ⟨vs, H1, I1, r1, q1⟩ => ?_) hs hpl))
  obtain ⟨a, b, xs, ys, ex, q1⟩ := q1
  subst ex
  cases r1 with
  | cons r rr =>
    cases rr with
    | cons r' rr =>
      cases rr
      cases r
      cases r'
      have fresh5 : ∀ c, c ∈ [s1.heap.objs.size + 4, s1.heap.objs.size + 2, s1.heap.objs.size + 3, s1.heap.objs.size, s1.heap.objs.size + 1] → FpOk X pins H1 c := fun c hcm => by
        have e' : c = s1.heap.objs.size + 4 ∨ c = s1.heap.objs.size + 2 ∨ c = s1.heap.objs.size + 3 ∨ c = s1.heap.objs.size ∨ c = s1.heap.objs.size + 1 := by simpa using hcm
        have hle : s1.heap.objs.size ≤ c := by
          rcases e' with z | z | z | z | z
          · rw [z]; exact Nat.le_add_right _ _
          · rw [z]; exact Nat.le_add_right _ _
          · rw [z]; exact Nat.le_add_right _ _
          · rw [z]; exact Nat.le_refl _
          · rw [z]; exact Nat.le_add_right _ _
        exact I1.fpOk hle (I1.hok.fresh hle)
      obtain ⟨t1, t2, hqx, hqy, q⟩ := q1
      obtain ⟨its, rv, p1⟩ := inv_sqB I1 hqx
      obtain ⟨its2, rv2, p2⟩ := inv_sqB I1 hqy
      refine call_zipB p1 p2 fun h' hz hTI hTO h1 h2 hsz hk => wpAny_pyIter_zip hz ?_
      have I2 : Inv X pins σ H1 { s1 with heap := h' } := I1.kept (t' := s1.toks) hk
      exact ⟨s1.heap.objs.size + 4, [s1.heap.objs.size + 4, s1.heap.objs.size + 2, s1.heap.objs.size + 3, s1.heap.objs.size, s1.heap.objs.size + 1], _, _, H1, rfl, I2, turn_zipB (PySem.W.ktu_apart s1.heap.objs.size a b p1.lt p2.lt), ⟨hz, hTI, ⟨_, _, hTO⟩, h1, h2⟩, fresh5, q⟩

end DL
end
section
namespace DL
open PySem L2 PyProof.Rows

/-! walking anything -/
/-- J walks the data xs -/
def ItD (K : PySem.W.Frag) (J : It) (xs : List D) (C0 : Hp) : Prop :=
  ∀ (B : Bs) (G : Gm) (g : Gh) (C H : Hp) (σ : L2.St), Holds K B G g C H σ → Same C0 C → J.stop xs.length H ∧
    ∀ (i : Nat) (x : D), xs[i]? = some x → J.go i H ∧ ∀ v H', J.yld i H v H' → ∃ C', Holds K B G g C' H' σ ∧ Grow g.ss C H C' H' ∧ Rp K C' v x
theorem ItD.on {K : PySem.W.Frag} {J : It} {xs : List D} {C0 C1 : Hp} (h : ItD K J xs C0) (e : Same C0 C1) : ItD K J xs C1 := fun B G g C H σ I s => h B G g C H σ I (e.trans s)
def EvI (c : Cn) (wi : TI) (G : Gm) (P : List D → Prop) : Prop :=
  ∀ B g C H σ, ExOk c B C → Holds c.K B G g C H σ → ∀ R : It → Hp → Prop, (∀ J xs C' H', P xs → Holds c.K B G g C' H' σ → Grow g.ss C H C' H' → ItD c.K J xs C' → R J H') → wi σ H R
def iAny (K : PySem.W.Frag) (tl : TE) : TI := fun σ H R => tl σ H fun x H1 => (∃ a, x = .ref a ∧ (∃ xs, SqL K H1 a xs) ∧ R (Itl K a) H1) ∨ ((∃ a, x = .ref a ∧ (∃ xs, SqT K H1 a xs) ∧ R (Itt K a) H1) ∨ ∃ z, x = .str z ∧ R (Its z) H1)
theorem pi_any {X : Cx} {tg l : Expr} {tl : TE} (hl : PE X l tl) : PI X tg l (iAny X.K tl) := by
  refine ⟨fun pins s σ H R I h => ?_⟩
  refine thn (hl.run pins s σ H _ I h) fun v s1 ⟨x, H1, I1, r1, q1⟩ => ?_
  rcases q1 with ⟨a, e, ⟨xs, hq⟩, q⟩ | ⟨a, e, ⟨xs, hq⟩, q⟩ | ⟨z, e, q⟩
  · subst e
    cases r1
    obtain ⟨its, rv, p, hz⟩ := I1.list hq
    refine wpAny_pyIter_list p.isList ?_
    refine ⟨s1.heap.objs.size, [s1.heap.objs.size], _, _, H1, rfl, I1.kept (t' := s1.toks) fun b o e => Heap.get?_push_of_some _ e, turn_list a _, ⟨_, Heap.get?_push_size _ rfl, rfl, rfl⟩, fun b hb => ?_, q⟩
    have e : b = s1.heap.objs.size := by simpa using hb
    subst e
    exact I1.fpOk (Nat.le_refl _) (I1.hok.fresh (Nat.le_refl _))
  · subst e
    cases r1
    obtain ⟨its, rv, p, hz⟩ := I1.tuple hq
    refine wpAny_pyIter_tuple (show s1.heap.IsTuple a its.toArray from p) ?_
    refine ⟨s1.heap.objs.size, [s1.heap.objs.size], _, _, H1, rfl, I1.kept (t' := s1.toks) fun b o e => Heap.get?_push_of_some _ e, turn_tuple a _, ⟨_, Heap.get?_push_size _ rfl, rfl, rfl⟩, fun b hb => ?_, q⟩
    have e : b = s1.heap.objs.size := by simpa using hb
    subst e
    exact I1.fpOk (Nat.le_refl _) (I1.hok.fresh (Nat.le_refl _))
  · subst e
    obtain ⟨t, rfl⟩ := r1
    cases ha : z.cps.all (· < 128)
    · exact wpAny_pyIter_wide ha (pi_one (tk := s1.toks) I1 _ (turn_str _ z t "str_iterator" (.inr rfl)) ⟨_, Heap.get?_push_size _ rfl, rfl, rfl⟩ q)
    · exact wpAny_pyIter_ascii ha (pi_one (tk := s1.toks) I1 _ (turn_str _ z t "str_ascii_iterator" (.inl rfl)) ⟨_, Heap.get?_push_size _ rfl, rfl, rfl⟩ q)
/-- what a datum gives when it is walked -/
def seqD : D → Option (List D)
  | .list xs => some xs
  | .tuple xs => some xs
  | .str z => some (z.cps.toList.map fun n => .str ⟨#[n]⟩)
  | _ => none
/-- what a row has -/
def rowD : D → Option (List D)
  | .list xs => some xs
  | .tuple xs => some xs
  | _ => none
theorem itD_list {K : PySem.W.Frag} {C : Hp} {a : Addr} {vs : List V} {xs : List D} (hs : C a = some (.lst vs)) (ha : RpAll K C vs xs) : ItD K (Itl K a) xs C := by
  intro B G g C' H σ I s
  have hq : SqL K H a vs := SqL.of (I.ch _ _ (s _ _ hs))
  refine ⟨⟨vs, hq, by rw [RpAll.length ha]; exact Nat.le_refl _⟩, fun i x hx => ?_⟩
  obtain ⟨v, e1, e2⟩ := RpAll.get ha hx
  refine ⟨⟨vs, v, hq, e1⟩, ?_⟩
  rintro w H' ⟨rfl, y⟩
  have := y vs hq
  rw [e1] at this
  cases this
  exact ⟨C', I, Grow.refl I.ch, rp_mono s e2⟩
theorem itD_tup {K : PySem.W.Frag} {C : Hp} {a : Addr} {vs : List V} {xs : List D} (hs : SqT K C a vs) (ha : RpAll K C vs xs) : ItD K (Itt K a) xs C := by
  intro B G g C' H σ I s
  have hq : SqT K H a vs := sqT_mono (s.trans I.ch) hs
  refine ⟨⟨vs, hq, by rw [RpAll.length ha]; exact Nat.le_refl _⟩, fun i x hx => ?_⟩
  obtain ⟨v, e1, e2⟩ := RpAll.get ha hx
  refine ⟨⟨vs, v, hq, e1⟩, ?_⟩
  rintro w H' ⟨rfl, y⟩
  have := y vs hq
  rw [e1] at this
  cases this
  exact ⟨C', I, Grow.refl I.ch, rp_mono s e2⟩
theorem itD_str {K : PySem.W.Frag} {C : Hp} {z : Str} : ItD K (Its z) (z.cps.toList.map fun n => .str ⟨#[n]⟩) C := by
  intro B G g C' H σ I s
  refine ⟨by simp [Its], fun i x hx => ?_⟩
  rw [List.getElem?_map] at hx
  obtain ⟨n, e1, rfl⟩ := Option.map_eq_some_iff.mp hx
  have hi : i < z.cps.size := by have := (List.getElem?_eq_some_iff.mp e1).1; simpa using this
  refine ⟨hi, ?_⟩
  rintro w H' ⟨rfl, m, e2, rfl⟩
  have e3 : z.cps[i]? = some n := by simpa using e1
  rw [e3] at e2
  cases e2
  exact ⟨C', I, Grow.refl I.ch, .str _⟩
section
variable {c : Cn} {G : Gm} {ta te tl : TE} {t : TS} {tt : TT} {E : DE} {gt : TG} {P : List D → Prop}
theorem ei_any (h : EvP c tl G fun d => ∃ xs, seqD d = some xs ∧ P xs) : EvI c (iAny c.K tl) G P := fun B g C H σ X I R r =>
  h B g C H σ X I _ fun d v C1 H1 h1 I1 g1 r1 => by
    obtain ⟨xs, e, p⟩ := h1
    cases r1 with
    | @lst a vs ds hs ha =>
      have e2 : some ds = some xs := e
      cases e2
      exact .inl ⟨a, rfl, ⟨vs, SqL.of (I1.ch _ _ hs)⟩, r _ _ _ _ p I1 g1 (itD_list hs ha)⟩
    | @tup a vs ds hs ha =>
      have e2 : some ds = some xs := e
      cases e2
      exact .inr (.inl ⟨a, rfl, ⟨vs, sqT_mono I1.ch hs⟩, r _ _ _ _ p I1 g1 (itD_tup hs ha)⟩)
    | str z =>
      have e2 : some _ = some xs := e
      cases e2
      exact .inr (.inr ⟨z, rfl, r _ _ _ _ p I1 g1 itD_str⟩)
    | _ => cases e
theorem itD_rng {K : PySem.W.Frag} {C : Hp} {lo : Int} {n : Nat} : ItD K (Itr lo n) (rngD lo n) C := by
  intro B G g C' H σ I s
  refine ⟨by rw [rngD_len]; exact Nat.le_refl n, fun i x hx => ?_⟩
  obtain ⟨hi, rfl⟩ := rngD_of hx
  refine ⟨hi, ?_⟩
  rintro w H' ⟨rfl, rfl⟩
  exact ⟨C', I, Grow.refl I.ch, .int _⟩
theorem ei_rng1 {ta : TA} (h : EvA c ta G fun as => ∃ n : Int, as = [.d (.int n)] ∧ n ≤ 100000 ∧ -100000 ≤ n ∧ P (rngD 0 n.toNat)) : EvI c (iRng1 ta) G P := fun B g C H σ X I R r =>
  h B g C H σ X I _ fun as vs C1 H1 h1 I1 g1 r1 => by
    obtain ⟨n, rfl, l1, l2, p⟩ := h1
    cases r1 with
    | cons ra rt =>
      cases rt; cases ra
      exact ⟨n, rfl, by omega, by omega, r _ _ _ _ p I1 g1 itD_rng⟩
theorem ei_rng2 {ta : TA} (h : EvA c ta G fun as => ∃ m n : Int, as = [.d (.int m), .d (.int n)] ∧ n ≤ 100000 ∧ -100000 ≤ n ∧ m ≤ 100000 ∧ -100000 ≤ m ∧ P (rngD m (n - m).toNat)) : EvI c (iRng2 ta) G P := fun B g C H σ X I R r =>
  h B g C H σ X I _ fun as vs C1 H1 h1 I1 g1 r1 => by
    obtain ⟨m, n, rfl, l1, l2, l3, l4, p⟩ := h1
    cases r1 with
    | cons ra rt =>
      cases rt with
      | cons rb rt =>
        cases rt; cases ra; cases rb
        exact ⟨m, n, rfl, by omega, r _ _ _ _ p I1 g1 itD_rng⟩
def zipD (xs ys : List D) : List D := (xs.zip ys).map fun p => .tuple [p.1, p.2]
theorem rp_sqB {K : PySem.W.Frag} {C : Hp} {v : V} {x : D} {xs : List D} (h : Rp K C v x) (e : rowD x = some xs) : ∃ t a vs, v = .ref a ∧ RpAll K C vs xs ∧ ∀ C' H, Same C C' → Same C' H → SqB t K H a vs := by
  cases h with
  | @lst a vs ds hs ha =>
    have e2 : some ds = some xs := e
    cases e2
    exact ⟨false, a, vs, rfl, ha, fun C' H s1 s2 => SqL.of (s2 _ _ (s1 _ _ hs))⟩
  | @tup a vs ds hs ha =>
    have e2 : some ds = some xs := e
    cases e2
    exact ⟨true, a, vs, rfl, ha, fun C' H s1 s2 => sqT_mono (s1.trans s2) hs⟩
  | _ => cases e
theorem ei_zip {ta : TA} (h : EvA c ta G fun as => ∃ x y xs ys, as = [.d x, .d y] ∧ rowD x = some xs ∧ rowD y = some ys ∧ P (zipD xs ys)) : EvI c (iZipX c.K ta) G P := fun B g C H σ X I R r =>
  h B g C H σ X I _ fun as vs C1 H1 h1 I1 g1 r1 => by
    obtain ⟨x, y, xs, ys, rfl, ex, ey, p⟩ := h1
    cases r1 with
    | @cons v1 _ _ _ ra rt =>
      cases rt with
      | @cons v2 _ _ _ rb rt =>
        cases rt
        obtain ⟨t1, a, vs1, e1, ra1, sa⟩ := rp_sqB ra ex
        obtain ⟨t2, b, vs2, e2, rb1, sb⟩ := rp_sqB rb ey
        subst e1 e2
        have l1 := RpAll.length ra1
        have l2 := RpAll.length rb1
        refine ⟨a, b, vs1, vs2, rfl, t1, t2, sa C1 H1 (Same.refl _) I1.ch, sb C1 H1 (Same.refl _) I1.ch, r _ _ _ _ p I1 g1 ?_⟩
        intro B G g C' H σ I s
        refine ⟨⟨vs1, vs2, sa _ _ s I.ch, sb _ _ s I.ch, ?_⟩, fun i z hz => ?_⟩
        · simp only [zipD, List.length_map, List.length_zip]
          omega
        · unfold zipD at hz
          rw [List.getElem?_map] at hz
          obtain ⟨⟨u, w⟩, e, rfl⟩ := Option.map_eq_some_iff.mp hz
          rw [List.getElem?_zip_eq_some] at e
          obtain ⟨v, h1, h2⟩ := RpAll.get ra1 e.1
          obtain ⟨v', h3, h4⟩ := RpAll.get rb1 e.2
          refine ⟨⟨vs1, vs2, v, v', sa _ _ s I.ch, sb _ _ s I.ch, h1, h3⟩, ?_⟩
          rintro q H' ⟨T, x', y', rfl, hT, rfl, f1, f2⟩
          have q1 := f1 _ (sa _ _ s I.ch)
          have q2 := f2 _ (sb _ _ s I.ch)
          rw [h1] at q1
          rw [h3] at q2
          cases q1; cases q2
          have g2 := Grow.cold (M := g.ss) I.ch (.tup [v, v']) hT
          exact ⟨_, I.cold _ hT, g2, .tup (SqT.of upd_same) (.cons (rp_mono (s.trans g2.cc) h2) (.cons (rp_mono (s.trans g2.cc) h4) .nil))⟩
/-! loops over anything -/
theorem sat_for {wi : TI} (h : EvI c wi G fun xs => LoopI c gt t xs G E) : SatS c (tFor wi gt t) G E := fun B g C H σ X J0 D ok =>
  h B g C H σ X J0 _ fun J xs C1 H1 h1 I1 g1 it => by
    obtain ⟨I, i0, hs, hd⟩ := h1
    refine ⟨fun i m σ' H' => m = xs.length - i ∧ i ≤ xs.length ∧ ∃ G' g' C', I i G' ∧ Holds c.K B G' g' C' H' σ' ∧ Same C1 C', ⟨xs.length, rfl, Nat.zero_le _, G, g, C1, i0, I1, Same.refl _⟩, ?_⟩
    rintro i m σ' H' ⟨rfl, hi, G', g', C', i1, I', e⟩
    obtain ⟨st, go⟩ := it B G' g' C' H' σ' I' e
    by_cases hlt : i < xs.length
    · have hx : xs[i]? = some xs[i] := List.getElem?_eq_getElem hlt
      obtain ⟨g1', y⟩ := go i _ hx
      refine .inr ⟨g1', fun σ' H' => ∃ G' g' C', I (i + 1) G' ∧ Holds c.K B G' g' C' H' σ' ∧ Same C1 C', fun σ2 H2 z => ⟨xs.length - (i + 1), by omega, rfl, hlt, z⟩, fun v H2 yv => ?_⟩
      obtain ⟨C2, I2, g2, r2⟩ := y v H2 yv
      refine hs i _ G' hx i1 B g' C2 H2 σ' (X.on ((g1.cc.trans e).trans g2.cc)) I2 v r2 _ fun G3 C3 H3 σ3 p I3 g3 => ?_
      have e3 : Same C1 C3 := (e.trans g2.cc).trans g3.cc
      exact p B g' C3 H3 σ3 (X.on (g1.cc.trans e3)) I3 _ ⟨fun G4 g4 C4 H4 σ4 p4 s4 I4 => ⟨G4, g4, C4, p4, I4, e3.trans s4⟩, ok.rt, ((ok.on g1.cc).on e3).nx, fun G4 g4 C4 H4 σ4 p4 s4 I4 => ⟨G4, g4, C4, p4, I4, e3.trans s4⟩⟩
    · have ei : i = xs.length := by omega
      subst ei
      exact .inl ⟨st, ok.nx G' g' C' H' σ' (hd G' i1) (g1.cc.trans e) I'⟩
theorem el_comp {wi : TI} {vs : List Nat} (h : EvI c wi G fun xs => CompI c gt tt te vs xs G P) : EvL c (tLc wi gt tt te vs) G P := fun B g C H σ X J0 Q q =>
  h B g C H σ X J0 _ fun J xs C1 H1 h1 J1 g1 it p hp => by
    obtain ⟨I, i0, hs, hd⟩ := h1
    refine ⟨fun i m H' => m = xs.length - i ∧ i ≤ xs.length ∧ CInv c B G g σ C1 H1 p (I i) H', ⟨xs.length, rfl, Nat.zero_le _, comp_start J1 hp i0⟩, ?_⟩
    rintro i m H' ⟨rfl, hi, ci⟩
    obtain ⟨C', ws, acc, i1, I', e, hc, hp2, ra⟩ := id ci
    obtain ⟨st, go⟩ := it B G g C' H' σ I' e.cc
    by_cases hlt : i < xs.length
    · have hx : xs[i]? = some xs[i] := List.getElem?_eq_getElem hlt
      obtain ⟨g1', y⟩ := go i _ hx
      refine .inr ⟨g1', CInv c B G g σ C1 H1 p (I (i + 1)), fun H2 z => ⟨xs.length - (i + 1), by omega, rfl, hlt, z⟩, fun v H2 yv => ?_⟩
      obtain ⟨C2, I2, g2, r2⟩ := y v H2 yv
      have f := J1.off hp
      have ci2 : CInv c B G g σ C2 H2 p (I i) H2 := ⟨C2, ws, acc, i1, I2, Grow.refl I2.ch, g2.hc p (by rw [hp2]; simp) hc, g2.hh p _ f.ss hp2, rpAll_mono g2.cc ra⟩
      obtain ⟨hl, body⟩ := hs i _ acc hx i1
      have wv : ∀ us : List Nat, (∀ j ∈ us, j ∈ vs) → L2.wipe (L2.wipe σ us) vs = L2.wipe σ vs := by
        intro us
        induction us with
        | nil => intro _; rfl
        | cons u us ih =>
          intro h
          show L2.wipe ((L2.wipe σ us).set u none) vs = _
          rw [wipe_set (h u (by simp)), ih fun j hj => h j (by simp [hj])]
      refine body B g C2 H2 (L2.wipe σ vs) (X.on ((g1.trans e).trans g2).cc) (I2.wipe vs) v r2 _ fun G3 C3 H3 σ3 b3 w3 J3 g3 => ⟨w3.trans (wv vs fun _ z => z), ?_⟩
      have e3 := (e.trans g2).trans g3
      refine b3 B g C3 H3 σ3 (X.on (g1.trans e3).cc) J3 _ fun b C4 H4 b4 J4 g4 => ?_
      have e4 := e3.trans g4
      have gl := (g2.trans g3).trans g4
      cases b with
      | true =>
        rw [if_pos rfl]
        refine b4.1 rfl B g C4 H4 σ3 (X.on (g1.trans e4).cc) J4 _ fun y u C5 H5 b5 J5 g5 r5 => ?_
        have gg := gl.trans g5
        have hp5 := gg.hh p _ f.ss hp2
        have hc5 := gg.hc p (by rw [hp2]; simp) hc
        refine ⟨ws, hp5, by rw [RpAll.length ra]; exact lt_line hl, C5, ws ++ [u], acc ++ [y], b5, ?_, (e.trans gg).wr _ (.inr hp) hc5, hc5, upd_same, RpAll.append (rpAll_mono gg.cc ra) (RpAll.one r5)⟩
        have J' : Holds c.K B G g C5 H5 σ := I'.grow gg fun s hs => (J5.st s hs).1
        exact J'.wrOff f hc5 _
      | false =>
        rw [if_neg Bool.false_ne_true]
        exact ⟨C4, ws, acc, b4.2 rfl, I'.grow gl fun s hs => (J4.st s hs).1, e.trans gl, gl.hc p (by rw [hp2]; simp) hc, gl.hh p _ f.ss hp2, rpAll_mono gl.cc ra⟩
    · have ei : i = xs.length := by omega
      subst ei
      exact .inl ⟨st, (ci.imp fun acc i => (hd acc i).2).fin g1 hp (J1.off hp) q⟩
/-- two fors -/
def Comp2I (c : Cn) (gt : TG) (tt : TT) (wi1 : TI) (gt1 : TG) (tt1 : TT) (te : TE) (vs vs1 : List Nat) (xs : List D) (G : Gm) (P : List D → Prop) : Prop := ∃ I : Nat → List D → Prop, I 0 [] ∧
  (∀ n x acc, xs[n]? = some x → I n acc → EvGw c gt (G.wipe vs) vs x fun G2 => EvT c tt G2 fun b => (b = true → EvI c wi1 G2 fun ys => ∃ I1 : Nat → List D → Prop, I1 0 acc ∧
    (∀ m y acc, ys[m]? = some y → I1 m acc → acc.length < 100000 ∧ EvGw c gt1 (G2.wipe vs1) vs1 y fun G3 => EvT c tt1 G3 fun b => (b = true → EvP c te G3 fun z => I1 (m + 1) (acc ++ [z])) ∧ (b = false → I1 (m + 1) acc)) ∧
    (∀ acc, I1 ys.length acc → I (n + 1) acc)) ∧ (b = false → I (n + 1) acc)) ∧
  (∀ acc, I xs.length acc → P acc)
def CInv2 (c : Cn) (B : Bs) (G : Gm) (g : Gh) (σ : L2.St) (C1 H1 C5 : Hp) (p : Addr) (I : List D → Prop) (H' : Hp) : Prop :=
  ∃ C' vs acc, I acc ∧ Holds c.K B G g C' H' σ ∧ Grow g.ss C1 H1 C' H' ∧ Same C5 C' ∧ C' p = none ∧ H' p = some (.lst vs) ∧ RpAll c.K C' vs acc
theorem wipe_wipe {σ : L2.St} {vs : List Nat} : L2.wipe (L2.wipe σ vs) vs = L2.wipe σ vs := by
  have : ∀ us : List Nat, (∀ j ∈ us, j ∈ vs) → L2.wipe (L2.wipe σ us) vs = L2.wipe σ vs := by
    intro us
    induction us with
    | nil => intro _; rfl
    | cons u us ih =>
      intro h
      show L2.wipe ((L2.wipe σ us).set u none) vs = _
      rw [wipe_set (h u (by simp)), ih fun j hj => h j (by simp [hj])]
  exact this vs fun _ z => z
theorem el_comp2 {wi wi1 : TI} {gt1 : TG} {tt1 : TT} {vs vs1 : List Nat} (h : EvI c wi G fun xs => Comp2I c gt tt wi1 gt1 tt1 te vs vs1 xs G P) : EvL c (tLc2 wi gt tt wi1 gt1 tt1 te vs vs1) G P := fun B g C H σ X J0 Q q =>
  h B g C H σ X J0 _ fun J xs C1 H1 h1 J1 g1 it p hp => by
    obtain ⟨I, i0, hs, hd⟩ := h1
    refine ⟨fun i m H' => m = xs.length - i ∧ i ≤ xs.length ∧ CInv c B G g σ C1 H1 p (I i) H', ⟨xs.length, rfl, Nat.zero_le _, comp_start J1 hp i0⟩, ?_⟩
    rintro i m H' ⟨rfl, hi, ci⟩
    obtain ⟨C', ws, acc, i1, I', e, hc, hp2, ra⟩ := id ci
    obtain ⟨st, go⟩ := it B G g C' H' σ I' e.cc
    by_cases hlt : i < xs.length
    · have hx : xs[i]? = some xs[i] := List.getElem?_eq_getElem hlt
      obtain ⟨g1', y⟩ := go i _ hx
      refine .inr ⟨g1', CInv c B G g σ C1 H1 p (I (i + 1)), fun H2 z => ⟨xs.length - (i + 1), by omega, rfl, hlt, z⟩, fun v H2 yv => ?_⟩
      obtain ⟨C2, I2, g2, r2⟩ := y v H2 yv
      have f := J1.off hp
      refine hs i _ acc hx i1 B g C2 H2 (L2.wipe σ vs) (X.on ((g1.trans e).trans g2).cc) (I2.wipe vs) v r2 _ fun G3 C3 H3 σ3 b3 w3 J3 g3 => ⟨w3.trans wipe_wipe, ?_⟩
      have e3 := (e.trans g2).trans g3
      refine b3 B g C3 H3 σ3 (X.on (g1.trans e3).cc) J3 _ fun b C4 H4 b4 J4 g4 => ?_
      have e4 := e3.trans g4
      have gl := (g2.trans g3).trans g4
      cases b with
      | true =>
        rw [if_pos rfl]
        refine b4.1 rfl B g C4 H4 σ3 (X.on (g1.trans e4).cc) J4 _ fun K1 ys C5 H5 h5 J5 g5 it1 => ?_
        obtain ⟨I1, i10, hs1, hd1⟩ := h5
        have gl5 := gl.trans g5
        have e5 := e.trans gl5
        have hp5 := gl5.hh p _ f.ss hp2
        have hc5 := gl5.hc p (by rw [hp2]; simp) hc
        refine ⟨fun j k H' => k = ys.length - j ∧ j ≤ ys.length ∧ CInv2 c B G3 g σ3 C1 H1 C5 p (I1 j) H', ⟨ys.length, rfl, Nat.zero_le _, C5, ws, acc, i10, J5, e5, Same.refl C5, hc5, hp5, rpAll_mono gl5.cc ra⟩, ?_⟩
        rintro j k H6 ⟨rfl, hj, C6, ws6, acc6, i6, I6, e6, s6, hc6, hp6, ra6⟩
        obtain ⟨st1, go1⟩ := it1 B G3 g C6 H6 σ3 I6 s6
        by_cases hlt1 : j < ys.length
        · have hy : ys[j]? = some ys[j] := List.getElem?_eq_getElem hlt1
          obtain ⟨g1'', y1⟩ := go1 j _ hy
          refine .inr ⟨g1'', CInv2 c B G3 g σ3 C1 H1 C5 p (I1 (j + 1)), fun H2 z => ⟨ys.length - (j + 1), by omega, rfl, hlt1, z⟩, fun v7 H7 yv7 => ?_⟩
          obtain ⟨C7, I7, g7, r7⟩ := y1 v7 H7 yv7
          obtain ⟨hl, body⟩ := hs1 j _ acc6 hy i6
          refine body B g C7 H7 (L2.wipe σ3 vs1) (X.on ((g1.trans e6).trans g7).cc) (I7.wipe vs1) v7 r7 _ fun G8 C8 H8 σ8 b8 w8 J8 g8 => ⟨w8.trans wipe_wipe, ?_⟩
          refine b8 B g C8 H8 σ8 (X.on (((g1.trans e6).trans g7).trans g8).cc) J8 _ fun b C9 H9 b9 J9 g9 => ?_
          have gl9 := (g7.trans g8).trans g9
          cases b with
          | true =>
            rw [if_pos rfl]
            refine b9.1 rfl B g C9 H9 σ8 (X.on ((g1.trans e6).trans gl9).cc) J9 _ fun z u CA HA bA JA gA rA => ?_
            have gg := gl9.trans gA
            have hpA := gg.hh p _ f.ss hp6
            have hcA := gg.hc p (by rw [hp6]; simp) hc6
            refine ⟨ws6, hpA, by rw [RpAll.length ra6]; exact lt_line hl, CA, ws6 ++ [u], acc6 ++ [z], bA, ?_, (e6.trans gg).wr _ (.inr hp) hcA, s6.trans gg.cc, hcA, upd_same, RpAll.append (rpAll_mono gg.cc ra6) (RpAll.one rA)⟩
            have J' : Holds c.K B G3 g CA HA σ3 := I6.grow gg fun s hs => (JA.st s hs).1
            exact J'.wrOff f hcA _
          | false =>
            rw [if_neg Bool.false_ne_true]
            exact ⟨C9, ws6, acc6, b9.2 rfl, I6.grow gl9 fun s hs => (J9.st s hs).1, e6.trans gl9, s6.trans gl9.cc, gl9.hc p (by rw [hp6]; simp) hc6, gl9.hh p _ f.ss hp6, rpAll_mono gl9.cc ra6⟩
        · have ei : j = ys.length := by omega
          subst ei
          refine .inl ⟨st1, C6, ws6, acc6, hd1 _ i6, ?_, e6, hc6, hp6, ra6⟩
          exact J1.grow e6 fun s hs => (I6.st s hs).1
      | false =>
        rw [if_neg Bool.false_ne_true]
        exact ⟨C4, ws, acc, b4.2 rfl, I'.grow gl fun s hs => (J4.st s hs).1, e.trans gl, gl.hc p (by rw [hp2]; simp) hc, gl.hh p _ f.ss hp2, rpAll_mono gl.cc ra⟩
    · have ei : i = xs.length := by omega
      subst ei
      exact .inl ⟨st, (ci.imp fun acc i => hd acc i).fin g1 hp (J1.off hp) q⟩
end
end DL
end
section
namespace DL
open PySem L2
/-! streams -/
section
variable {c : Cn} {G : Gm} {ta tb te : TE} {t : TS} {E : DE} {P : D → Prop}
/-- stream[1], stream[2], stream[3] -/
theorem ev_stI {i k : Nat} (j : Int) (hi : G.sl[i]? = some (.st k)) (hj : j = 1 ∨ j = 2 ∨ j = 3) (p : ∀ n : Int, (j = 1 → 0 ≤ n) → P (.int n)) : EvP c (tOp (rIx c.K) (tVar i) (tC (.int j))) G P := fun B g C H σ X I Q q => by
  obtain ⟨a, h1, h2⟩ := I.sl i _ hi
  obtain ⟨h3, cc, ns, m, gg, n, h4, h5, h6, h7⟩ := (I.st a (List.mem_of_getElem? h1)).1
  refine ⟨.ref a, h2, ?_⟩
  rcases hj with rfl | rfl | rfl
  · exact .inl ⟨a, _, 1, .int m, rfl, rfl, SqL.of h4, rfl, q _ _ C H (p m fun _ => h7) I (Grow.refl I.ch) (.int _)⟩
  · exact .inl ⟨a, _, 2, .int gg, rfl, rfl, SqL.of h4, rfl, q _ _ C H (p gg fun z => by cases z) I (Grow.refl I.ch) (.int _)⟩
  · exact .inl ⟨a, _, 3, .int n, rfl, rfl, SqL.of h4, rfl, q _ _ C H (p n fun z => by cases z) I (Grow.refl I.ch) (.int _)⟩
/-- stream[0] -/
theorem ev_stL {i k : Nat} (hi : G.sl[i]? = some (.st k)) (p : ∀ ns : List Int, 0 < ns.length → P (.list (ns.map .int))) : EvP c (tOp (rIx c.K) (tVar i) (tC (.int 0))) G P := fun B g C H σ X I Q q => by
  obtain ⟨a, h1, h2⟩ := I.sl i _ hi
  obtain ⟨h3, cc, ns, m, gg, n, h4, h5, h6, h7⟩ := (I.st a (List.mem_of_getElem? h1)).1
  exact ⟨.ref a, h2, .inl ⟨a, _, 0, .ref cc, rfl, rfl, SqL.of h4, rfl, q _ _ C H (p ns h6) I (Grow.refl I.ch) (.lst h5 (RpAll.of_ints ns))⟩⟩
/-- stream[j] = e -/
theorem sat_setSt {i k : Nat} (j : Int) (hi : G.sl[i]? = some (.st k)) (hj : j = 1 ∨ j = 2 ∨ j = 3) (h : EvP c te G fun x => ∃ n : Int, x = .int n ∧ (j = 1 → 0 ≤ n) ∧ E.nx G) : SatS c (tAsg te (gSub (tVar i) (tC (.int j)) rSetL)) G E := fun B g C H σ X I D ok =>
  h B g C H σ X I _ fun x v C1 H1 p I1 g1 r1 => by
    obtain ⟨n, rfl, hn, nx⟩ := p
    cases r1
    obtain ⟨a, h1, h2⟩ := I1.sl i _ hi
    have am : a ∈ g.ss := List.mem_of_getElem? h1
    obtain ⟨h3, cc, ns, m, gg, kk, h4, h5, h6, h7⟩ := (I1.st a am).1
    refine ⟨.ref a, h2, ?_⟩
    have hb : a ∈ B.M ∨ B.H a = none := (I1.st a am).2
    have gen : ∀ (p1 p2 p3 : Int), 0 ≤ p1 → D.nx σ (upd H1 a (.lst [.ref cc, .int p1, .int p2, .int p3])) := fun p1 p2 p3 hp => by
      refine ok.nx G g C1 _ σ nx g1.cc ?_
      have gr : Grow g.ss C1 H1 C1 (upd H1 a (.lst [.ref cc, .int p1, .int p2, .int p3])) := (Grow.refl I1.ch).wr _ (.inl am) h3
      refine I1.grow gr fun s hs => ?_
      by_cases e : s = a
      · subst e
        exact ⟨h3, cc, ns, p1, p2, p3, upd_same, h5, h6, hp⟩
      · exact (I1.st s hs).1.wr e
    rcases hj with rfl | rfl | rfl
    · exact ⟨a, _, 1, 1, rfl, rfl, h4, rfl, gen _ _ _ (hn rfl)⟩
    · exact ⟨a, _, 2, 2, rfl, rfl, h4, rfl, gen _ _ _ h7⟩
    · exact ⟨a, _, 3, 3, rfl, rfl, h4, rfl, gen _ _ _ h7⟩
/-- True, False -/
theorem k2_isB {a b : Bool} (p : P (.bool (decide (a = b)))) : K2 c G rIsB (.bool a) (.bool b) P := fun B g C H σ X I v w x y Q q => by
  cases x; cases y
  exact ⟨a, b, rfl, rfl, q _ _ C H p I (Grow.refl I.ch) (.bl _)⟩
theorem k2_notB {a b : Bool} (p : P (.bool (!decide (a = b)))) : K2 c G rNotB (.bool a) (.bool b) P := fun B g C H σ X I v w x y Q q => by
  cases x; cases y
  exact ⟨a, b, rfl, rfl, q _ _ C H p I (Grow.refl I.ch) (.bl _)⟩
/-- {} -/
theorem ev_dnew (p : P (.dict [])) : EvP c tDNewK G P := fun B g C H σ X I Q q => fun a ha => by
  have g2 := Grow.cold (M := g.ss) I.ch (.dK []) ha
  exact q _ _ _ _ p (I.cold _ ha) g2 (.dic (.inl ⟨[], upd_same⟩))
end
/-! rows -/
section
variable {K : PySem.W.Frag} {B : Bs} {G : Gm} {g : Gh} {C H : Hp} {σ : L2.St} {p : Addr}
theorem RowsAt.length : ∀ {rs : List Addr} {xss : List (List D)}, RowsAt K C H rs xss → rs.length = xss.length
  | _, _, .nil => rfl
  | _, _, .cons _ _ _ t => by simp [RowsAt.length t]
theorem RowsAt.get : ∀ {rs : List Addr} {xss : List (List D)}, RowsAt K C H rs xss → ∀ {i : Nat} {xs : List D}, xss[i]? = some xs → ∃ r vs, rs[i]? = some r ∧ C r = none ∧ H r = some (.lst vs) ∧ RpAll K C vs xs
  | _, _, .nil, i, xs, e => by simp at e
  | _, _, .cons h1 h2 h3 t, 0, xs, e => by simp at e; subst e; exact ⟨_, _, rfl, h1, h2, h3⟩
  | _, _, .cons h1 h2 h3 t, i + 1, xs, e => by
    obtain ⟨r, vs, a, b, d, f⟩ := RowsAt.get t (i := i) (xs := xs) (by simpa using e)
    exact ⟨r, vs, by simpa using a, b, d, f⟩
theorem RowsAt.wrOne {vs : List V} {ys : List D} {r : Addr} (hr : C r = none) (hv : RpAll K C vs ys) : ∀ {rs : List Addr} {xss : List (List D)}, RowsAt K C H rs xss → rs.Nodup → ∀ {i : Nat}, rs[i]? = some r → RowsAt K C (upd H r (.lst vs)) rs (xss.set i ys)
  | _, _, .nil, _, i, e => by simp at e
  | _, _, .cons (rs := rs) h1 h2 h3 t, nd, 0, e => by
    simp at e
    subst e
    have n2 := (List.nodup_cons.mp nd).1
    exact .cons h1 upd_same hv (t.wr n2)
  | _, _, .cons (r := r0) (rs := rs) h1 h2 h3 t, nd, i + 1, e => by
    have n2 := List.nodup_cons.mp nd
    have e' : rs[i]? = some r := by simpa using e
    have ne : r0 ≠ r := fun z => n2.1 (z ▸ List.mem_of_getElem? e')
    exact .cons h1 (by rw [upd_ne ne]; exact h2) h3 (RowsAt.wrOne hr hv t n2.2 e')
theorem Holds.hotR (I : Holds K B G g C H σ) {k : Nat} {xss : List (List D)} (h : G.hot[k]? = some (.rows xss)) : ∃ a rs, g.hs[k]? = some (a :: rs) ∧ C a = none ∧ H a = some (.lst (rs.map V.ref)) ∧ RowsAt K C H rs xss := by
  have hk : k < g.hs.length := by rw [← I.hl]; exact (List.getElem?_eq_some_iff.mp h).1
  obtain ⟨a, rs, h1, h2, h3, h4⟩ := I.ht k _ _ h (List.getElem?_eq_getElem hk)
  exact ⟨a, rs, by rw [List.getElem?_eq_getElem hk, h1], h2, h3, h4⟩
theorem flat_nodup {l : List (List Addr)} {k : Nat} {f : List Addr} (n : l.flatten.Nodup) (h : l[k]? = some f) : f.Nodup := by
  induction l generalizing k with
  | nil => simp at h
  | cons x l ih =>
    rw [List.flatten_cons, List.nodup_append] at n
    cases k with
    | zero => simp at h; subst h; exact n.1
    | succ k => exact ih n.2.1 (by simpa using h)
theorem flat_two {l : List (List Addr)} {i j : Nat} {x y : List Addr} {a : Addr} (n : l.flatten.Nodup) (h1 : l[i]? = some x) (h2 : l[j]? = some y) (hx : a ∈ x) (hy : a ∈ y) : i = j := by
  induction l generalizing i j with
  | nil => simp at h1
  | cons w l ih =>
    rw [List.flatten_cons, List.nodup_append] at n
    obtain ⟨n1, n2, n3⟩ := n
    cases i with
    | zero =>
      cases j with
      | zero => rfl
      | succ j =>
        simp at h1 h2
        subst h1
        exact absurd rfl (n3 a hx a (List.mem_flatten.mpr ⟨y, List.mem_of_getElem? h2, hy⟩))
    | succ i =>
      cases j with
      | zero =>
        simp at h1 h2
        subst h2
        exact absurd rfl (n3 a hy a (List.mem_flatten.mpr ⟨x, List.mem_of_getElem? h1, hx⟩))
      | succ j => exact congrArg (· + 1) (ih n2 (by simpa using h1) (by simpa using h2))
/-- one object of hot k is written -/
theorem Holds.wrR (I : Holds K B G g C H σ) {k : Nat} {xss yss : List (List D)} {f : List Addr} {b : Addr} {o : HO} (h : G.hot[k]? = some (.rows xss)) (hf : g.hs[k]? = some f) (hb : b ∈ f) (ok : HotOk K C (upd H b o) f (.rows yss)) :
    Holds K B (G.setHot k (.rows yss)) g C (upd H b o) σ := by
  have bm : b ∈ g.hs.flatten := List.mem_flatten.mpr ⟨f, List.mem_of_getElem? hf, hb⟩
  have hb0 := I.foot bm
  have nb : b ∉ g.ss := I.apart hf hb
  have hB : B.H b = none := I.nw _ (List.mem_of_getElem? hf) b hb
  refine ⟨I.gr.wr _ (.inr hB) hb0.2, I.len, I.sl, fun s hs => ⟨(I.st s hs).1.wr (by intro z; subst z; exact nb hs), (I.st s hs).2⟩, I.sub, ?_, ?_, I.nw, I.nd⟩
  · simp [Gm.setHot, I.hl]
  · intro j hh x e1 e2
    have e1' : (G.hot.set k (.rows yss))[j]? = some hh := e1
    by_cases q : j = k
    · subst q
      rw [List.getElem?_set_self (List.getElem?_eq_some_iff.mp h).1] at e1'
      rw [hf] at e2
      cases e1'; cases e2
      exact ok
    · rw [List.getElem?_set_ne (Ne.symm q)] at e1'
      exact (I.ht j hh x e1' e2).wr fun z => q (flat_two (List.nodup_append.mp I.nd).2.1 e2 hf z hb)
/-- an object off the state joins hot k's footprint -/
theorem Holds.setF (I : Holds K B G g C H σ) {k : Nat} {xss yss : List (List D)} {f f' : List Addr} {b : Addr} {o : HO} (h : G.hot[k]? = some (.rows xss)) (hf : g.hs[k]? = some f) (hb : b ∈ f) (hh : f'.head? = f.head?) (hn : f'.Nodup)
    (hw : ∀ x ∈ f', x ∈ f ∨ Off B g x) (ok : HotOk K C (upd H b o) f' (.rows yss)) :
    Holds K B (G.setHot k (.rows yss)) ⟨g.ss, g.hs.set k f'⟩ C (upd H b o) σ := by
  have bm : b ∈ g.hs.flatten := List.mem_flatten.mpr ⟨f, List.mem_of_getElem? hf, hb⟩
  have hb0 := I.foot bm
  have nb : b ∉ g.ss := I.apart hf hb
  have hB : B.H b = none := I.nw _ (List.mem_of_getElem? hf) b hb
  have hk : k < g.hs.length := (List.getElem?_eq_some_iff.mp hf).1
  have nd := I.nd
  rw [List.nodup_append] at nd
  refine ⟨I.gr.wr _ (.inr hB) hb0.2, I.len, fun i s e => ?_, fun s hs => ⟨(I.st s hs).1.wr (by intro z; subst z; exact nb hs), (I.st s hs).2⟩, I.sub, ?_, ?_, ?_, ?_⟩
  · have z := I.sl i s e
    cases s with
    | any => trivial
    | d x => exact z
    | st j => exact z
    | val v => exact z
    | hot j =>
      obtain ⟨a, r, h1, h2⟩ := z
      by_cases q : j = k
      · subst q
        rw [hf] at h1
        cases h1
        cases f' with
        | nil => simp at hh
        | cons a' r' =>
          have : a' = a := by simpa using hh
          subst this
          exact ⟨a', r', List.getElem?_set_self hk, h2⟩
      · exact ⟨a, r, by show (g.hs.set k f')[j]? = _; rw [List.getElem?_set_ne (Ne.symm q)]; exact h1, h2⟩
  · simp [Gm.setHot, I.hl]
  · intro j hh' x e1 e2
    have e1' : (G.hot.set k (.rows yss))[j]? = some hh' := e1
    have e2' : (g.hs.set k f')[j]? = some x := e2
    by_cases q : j = k
    · subst q
      rw [List.getElem?_set_self (List.getElem?_eq_some_iff.mp h).1] at e1'
      rw [List.getElem?_set_self hk] at e2'
      cases e1'; cases e2'
      exact ok
    · rw [List.getElem?_set_ne (Ne.symm q)] at e1' e2'
      exact (I.ht j hh' x e1' e2').wr fun z => q (flat_two nd.2.1 e2' hf z hb)
  · intro x hx a ha
    rcases List.mem_or_eq_of_mem_set hx with z | z
    · exact I.nw x z a ha
    · subst z
      rcases hw a ha with z | z
      · exact I.nw f (List.mem_of_getElem? hf) a z
      · exact z.bh
  · show (g.ss ++ (g.hs.set k f').flatten).Nodup
    have key : ∀ (l : List (List Addr)) (k : Nat), l.flatten.Nodup → l[k]? = some f → (∀ x ∈ f', x ∈ f ∨ x ∉ l.flatten) → (l.set k f').flatten.Nodup ∧ ∀ x ∈ (l.set k f').flatten, x ∈ l.flatten ∨ x ∈ f' := by
      intro l
      induction l with
      | nil => intro k _ e; simp at e
      | cons w l ih =>
        intro k n e w'
        rw [List.flatten_cons, List.nodup_append] at n
        obtain ⟨n1, n2, n3⟩ := n
        cases k with
        | zero =>
          simp at e
          subst e
          simp only [List.set_cons_zero, List.flatten_cons]
          refine ⟨List.nodup_append.mpr ⟨hn, n2, fun a ha b hb => ?_⟩, fun x hx => ?_⟩
          · rcases w' a ha with z | z
            · exact n3 a z b hb
            · intro q; subst q; exact z (by simp only [List.flatten_cons, List.mem_append]; exact .inr hb)
          · rcases List.mem_append.mp hx with z | z
            · exact .inr z
            · exact .inl (List.mem_append.mpr (.inr z))
        | succ k =>
          simp only [List.set_cons_succ, List.flatten_cons]
          obtain ⟨i1, i2⟩ := ih k n2 (by simpa using e) fun x hx => (w' x hx).imp id fun z q => z (by simp only [List.flatten_cons, List.mem_append]; exact .inr q)
          refine ⟨List.nodup_append.mpr ⟨n1, i1, fun a ha b hb => ?_⟩, fun x hx => ?_⟩
          · rcases i2 b hb with z | z
            · exact n3 a ha b z
            · rcases w' b z with q | q
              · exact n3 a ha b (List.mem_flatten.mpr ⟨f, List.mem_of_getElem? (by simpa using e), q⟩)
              · intro q2; subst q2; exact q (by simp only [List.flatten_cons, List.mem_append]; exact .inl ha)
          · rcases List.mem_append.mp hx with z | z
            · exact .inl (List.mem_append.mpr (.inl z))
            · exact (i2 x z).imp (fun q => List.mem_append.mpr (.inr q)) id
    obtain ⟨k1, k2⟩ := key g.hs k nd.2.1 hf fun x hx => (hw x hx).imp id fun z => z.hs
    refine List.nodup_append.mpr ⟨nd.1, k1, fun a ha b hb => ?_⟩
    rcases k2 b hb with z | z
    · exact nd.2.2 a ha b z
    · rcases hw b z with q | q
      · exact nd.2.2 a ha b (List.mem_flatten.mpr ⟨f, List.mem_of_getElem? hf, q⟩)
      · intro q2; subst q2; exact q.ss ha
theorem rowsAt_frzAll : ∀ {rs : List Addr} {xss : List (List D)} {C : Hp}, RowsAt K C H rs xss → rs.Nodup → ∃ C', Same C C' ∧ (∀ b, b ∉ rs → C' b = C b) ∧ (∀ b ∈ rs, C' b = H b) ∧ RpAll K C' (rs.map V.ref) (xss.map .list)
  | _, _, C, .nil, _ => ⟨C, Same.refl C, fun _ _ => rfl, by simp, .nil⟩
  | _, _, C, .cons (r := r) (rs := rs) (vs := vs) h1 h2 h3 t, nd => by
    have n2 := List.nodup_cons.mp nd
    obtain ⟨C', s1, s2, s3, s4⟩ := rowsAt_frzAll (t.frz (o := .lst vs) h1 n2.1) n2.2
    have e0 : Same C (upd C r (.lst vs)) := fun a u e => by rw [upd_ne (ne_of_none e h1)]; exact e
    have er : C' r = some (.lst vs) := s1 r _ upd_same
    refine ⟨C', e0.trans s1, fun b hb => ?_, fun b hb => ?_, .cons (.lst er (rpAll_mono (e0.trans s1) h3)) s4⟩
    · have nb : b ≠ r := fun z => hb (by simp [z])
      rw [s2 b fun z => hb (by simp [z]), upd_ne nb]
    · rcases List.mem_cons.mp hb with z | z
      · subst z; rw [er, h2]
      · exact s3 b z
/-- hot k becomes a datum -/
theorem Holds.frzF {C' : Hp} {x : D} {k : Nat} {f : List Addr} (I : Holds K B G g C H σ) (hf : g.hs[k]? = some f) (s1 : Same C C') (s2 : ∀ b, b ∉ f → C' b = C b) (s3 : ∀ b ∈ f, C' b = H b) (hx : ∀ a r, f = a :: r → Rp K C' (.ref a) x) :
    Holds K B (G.cool k x) ⟨g.ss, g.hs.set k []⟩ C' H σ := by
  have hk : k < g.hs.length := (List.getElem?_eq_some_iff.mp hf).1
  have nd := I.nd
  rw [List.nodup_append] at nd
  have apart : ∀ b ∈ f, b ∉ g.ss := fun b hb => I.apart hf hb
  have keep : ∀ {h : HV} {f2 : List Addr}, (∀ b ∈ f2, b ∉ f) → HotOk K C H f2 h → HotOk K C' H f2 h := by
    intro h f2 n ok
    cases h with
    | lst xs =>
      obtain ⟨a, vs, rfl, h1, h2, h3⟩ := ok
      exact ⟨a, vs, rfl, by rw [s2 a (n a (by simp))]; exact h1, h2, rpAll_mono s1 h3⟩
    | rows xss =>
      obtain ⟨a, rs, rfl, h1, h2, h3⟩ := ok
      refine ⟨a, rs, rfl, by rw [s2 a (n a (by simp))]; exact h1, h2, ?_⟩
      have : ∀ {rs : List Addr} {xss : List (List D)}, RowsAt K C H rs xss → (∀ b ∈ rs, b ∉ f) → RowsAt K C' H rs xss := by
        intro rs xss h
        induction h with
        | nil => intro _; exact .nil
        | cons h1 h2 h3 t ih => intro n; exact .cons (by rw [s2 _ (n _ (by simp))]; exact h1) h2 (rpAll_mono s1 h3) (ih fun b hb => n b (by simp [hb]))
      exact this h3 fun b hb => n b (by simp [hb])
    | off => exact ok
  refine ⟨?_, by simp [Gm.cool, I.len], ?_, ?_, I.sub, by simp [Gm.cool, I.hl], ?_, ?_, ?_⟩
  · refine ⟨I.gr.cc.trans s1, fun b u e => ?_, I.gr.hh, I.gr.al, fun b e1 e2 => ?_⟩
    · by_cases hb : b ∈ f
      · rw [s3 b hb] at e; exact e
      · rw [s2 b hb] at e; exact I.gr.ch b u e
    · by_cases hb : b ∈ f
      · exact absurd (I.nw f (List.mem_of_getElem? hf) b hb) e1
      · rw [s2 b hb]; exact I.gr.hc b e1 e2
  · intro i s es
    have es' : (G.sl.map (SV.cool k x))[i]? = some s := es
    rw [List.getElem?_map] at es'
    obtain ⟨s0, e0, rfl⟩ := Option.map_eq_some_iff.mp es'
    have ok := I.sl i s0 e0
    cases s0 with
    | any => trivial
    | d y => obtain ⟨v, h1, h2⟩ := ok; exact ⟨v, h1, rp_mono s1 h2⟩
    | st j => exact ok
    | val v => exact ok
    | hot j =>
      obtain ⟨b, r, h1, h2⟩ := ok
      show SlotOk K C' ⟨g.ss, g.hs.set k []⟩ σ i (if j = k then .d x else .hot j)
      by_cases q : j = k
      · subst q
        rw [if_pos rfl]
        rw [hf] at h1
        cases h1
        exact ⟨.ref b, h2, hx b r rfl⟩
      · rw [if_neg q]
        refine ⟨b, r, ?_, h2⟩
        show (g.hs.set k [])[j]? = _
        rw [List.getElem?_set_ne (Ne.symm q)]
        exact h1
  · intro s hs
    refine ⟨?_, (I.st s hs).2⟩
    obtain ⟨h1, c, ns, p1, p2, p3, h2, h3, h4⟩ := (I.st s hs).1
    have ns' : s ∉ f := fun z => apart s z hs
    exact ⟨by rw [s2 s ns']; exact h1, c, ns, p1, p2, p3, h2, s1 _ _ h3, h4⟩
  · intro j hh y e1 e2
    have e1' : (G.hot.set k .off)[j]? = some hh := e1
    have e2' : (g.hs.set k [])[j]? = some y := e2
    by_cases q : j = k
    · subst q
      rw [List.getElem?_set_self (by rw [I.hl]; exact hk)] at e1'
      rw [List.getElem?_set_self hk] at e2'
      cases e1'; cases e2'
      rfl
    · rw [List.getElem?_set_ne (Ne.symm q)] at e1' e2'
      exact keep (fun b hb hb2 => q (flat_two nd.2.1 e2' hf hb hb2)) (I.ht j hh y e1' e2')
  · intro y hy b hb
    rcases List.mem_or_eq_of_mem_set hy with z | z
    · exact I.nw y z b hb
    · subst z; simp at hb
  · show (g.ss ++ (g.hs.set k []).flatten).Nodup
    exact List.nodup_append.mpr ⟨nd.1, nodup_set_nil _ _ nd.2.1, fun a ha b hb => nd.2.2 a ha b (flatten_set_nil _ _ _ hb)⟩
theorem Holds.coolR (I : Holds K B G g C H σ) {k : Nat} {xss : List (List D)} (h : G.hot[k]? = some (.rows xss)) : ∃ g' C', Holds K B (G.cool k (.list (xss.map .list))) g' C' H σ ∧ Same C C' ∧ g'.ss = g.ss := by
  obtain ⟨a, rs, hf, hc, hv, ra⟩ := I.hotR h
  have nd := flat_nodup (List.nodup_append.mp I.nd).2.1 hf
  have n2 := List.nodup_cons.mp nd
  obtain ⟨C1, s1, s2, s3, s4⟩ := rowsAt_frzAll ra n2.2
  have hc1 : C1 a = none := by rw [s2 a n2.1]; exact hc
  have e1 : Same C1 (upd C1 a (.lst (rs.map V.ref))) := fun b u e => by rw [upd_ne (ne_of_none e hc1)]; exact e
  refine ⟨_, _, I.frzF (C' := upd C1 a (.lst (rs.map V.ref))) (x := .list (xss.map .list)) hf (s1.trans e1) (fun b hb => ?_) (fun b hb => ?_) (fun a' r e => ?_), s1.trans e1, rfl⟩
  · rw [upd_ne fun z => hb (by simp [z]), s2 b fun z => hb (by simp [z])]
  · by_cases q : b = a
    · subst q; rw [upd_same, hv]
    · rw [upd_ne q]; exact s3 b (by rcases List.mem_cons.mp hb with z | z; exact absurd z q; exact z)
  · cases e
    exact .lst upd_same (rpAll_mono e1 s4)
end
section
variable {c : Cn} {G : Gm} {ta tb te tj ti : TE} {tc : TT} {t u : TS} {E : DE} {P : D → Prop} {PL : List D → Prop}
theorem sat_coolR (k : Nat) {xss : List (List D)} (h : G.hot[k]? = some (.rows xss)) (q : SatS c t (G.cool k (.list (xss.map .list))) E) : SatS c t G E := fun B g C H σ X I D ok => by
  obtain ⟨g', C', I', e, _⟩ := I.coolR h
  exact q B g' C' H σ (X.on e) I' D (ok.on e)
theorem sat_retR {i k : Nat} {xss : List (List D)} (hi : G.sl[i]? = some (.hot k)) (hk : G.hot[k]? = some (.rows xss)) (p : E.rt (.list (xss.map .list))) : SatS c (tRet (tVar i)) G E := by
  refine sat_coolR k hk (sat_ret (ev_var (x := .list (xss.map .list)) ?_ p))
  unfold Gm.cool
  rw [List.getElem?_map, hi]
  simp [SV.cool]
theorem hotR_at {B : Bs} {g : Gh} {C H : Hp} {σ : L2.St} (I : Holds c.K B G g C H σ) {i k : Nat} {xss : List (List D)} (hi : G.sl[i]? = some (.hot k)) (hk : G.hot[k]? = some (.rows xss)) :
    ∃ a rs, σ[i]? = some (some (.ref a)) ∧ g.hs[k]? = some (a :: rs) ∧ C a = none ∧ H a = some (.lst (rs.map V.ref)) ∧ RowsAt c.K C H rs xss := by
  obtain ⟨a, rs, hf, h1, h2, h3⟩ := I.hotR hk
  obtain ⟨b, f, h4, h5⟩ := I.sl i _ hi
  rw [hf] at h4
  cases h4
  exact ⟨a, rs, h5, hf, h1, h2, h3⟩
/-- rows[j] as an object: its address, its items -/
theorem ev_row {i k : Nat} {xss : List (List D)} (hi : G.sl[i]? = some (.hot k)) (hk : G.hot[k]? = some (.rows xss)) {PR : Nat → List D → Prop} (h : EvP c tj G fun y => ∃ n m xs, y = .int n ∧ ixN xss.length n = some m ∧ xss[m]? = some xs ∧ PR m xs)
    {B : Bs} {g : Gh} {C H : Hp} {σ : L2.St} (X : ExOk c B C) (I : Holds c.K B G g C H σ) {Q : VK}
    (q : ∀ m xs a rs r vs C' H', PR m xs → xss[m]? = some xs → Holds c.K B G g C' H' σ → Grow g.ss C H C' H' → g.hs[k]? = some (a :: rs) → rs[m]? = some r → C' r = none → H' r = some (.lst vs) → RpAll c.K C' vs xs → Q (.ref r) H') : tOp (rIx c.K) (tVar i) tj σ H Q := by
  obtain ⟨a0, rs0, h1, hf0, _⟩ := hotR_at I hi hk
  refine ⟨.ref a0, h1, h B g C H σ X I _ fun y w C2 H2 p2 I2 g2 r2 => ?_⟩
  obtain ⟨n, m, xs, rfl, hm, hx, pr⟩ := p2
  cases r2
  obtain ⟨a, rs, h1', hf, hc, hv, ra⟩ := hotR_at I2 hi hk
  rw [h1] at h1'
  cases h1'
  obtain ⟨r, vs, e1, e2, e3, e4⟩ := ra.get hx
  refine .inl ⟨a0, _, n, .ref r, rfl, rfl, SqL.of hv, ?_, q m xs a0 rs r vs C2 H2 pr hx I2 g2 hf e1 e2 e3 e4⟩
  unfold atI
  rw [List.length_map, ra.length, hm]
  show (rs.map V.ref)[m]? = _
  rw [List.getElem?_map, e1]
  rfl
/-- rows[j][i] -/
theorem ev_rowIx {i k : Nat} {xss : List (List D)} (hi : G.sl[i]? = some (.hot k)) (hk : G.hot[k]? = some (.rows xss))
    (h : EvP c tj G fun y => ∃ n m xs, y = .int n ∧ ixN xss.length n = some m ∧ xss[m]? = some xs ∧ EvP c ti G fun z => ∃ l x, z = .int l ∧ atI xs l = some x ∧ P x) : EvP c (tOp (rIx c.K) (tOp (rIx c.K) (tVar i) tj) ti) G P := fun B g C H σ X I Q q => by
  refine ev_row hi hk (PR := fun m xs => EvP c ti G fun z => ∃ l x, z = .int l ∧ atI xs l = some x ∧ P x) h X I fun m xs a rs r vs C1 H1 pr hx I1 g1 hf e1 e2 e3 e4 => ?_
  refine pr B g C1 H1 σ (X.on g1.cc) I1 _ fun z w C2 H2 p2 I2 g2 r2 => ?_
  obtain ⟨l, x, rfl, hl, p⟩ := p2
  cases r2
  have rm : r ∉ g.ss := I1.apart hf (by simp [List.mem_of_getElem? e1])
  unfold atI at hl
  obtain ⟨n2, h5, h6⟩ := Option.bind_eq_some_iff.mp hl
  obtain ⟨v, h7, h8⟩ := RpAll.get e4 h6
  refine .inl ⟨r, vs, l, v, rfl, rfl, SqL.of (g2.hh r _ rm e3), ?_, q _ _ C2 H2 p I2 (g1.trans g2) (rp_mono g2.cc h8)⟩
  unfold atI
  rw [RpAll.length e4, h5]
  exact h7
/-- len(rows), len(rows[j]) -/
theorem ev_rowsLen {i k : Nat} {xss : List (List D)} (hi : G.sl[i]? = some (.hot k)) (hk : G.hot[k]? = some (.rows xss)) (p : P (.int xss.length)) : EvP c (tCB (rLenB c.K) (tCons (tVar i) tNil)) G P := fun B g C H σ X I Q q => by
  obtain ⟨a, rs, h1, hf, hc, hv, ra⟩ := hotR_at I hi hk
  exact ⟨.ref a, h1, .ref a, _, rfl, .inl ⟨_, SqL.of hv, rfl⟩, by rw [List.length_map, ra.length]; exact q _ _ C H p I (Grow.refl I.ch) (.int _)⟩
theorem ev_rowLen {i k : Nat} {xss : List (List D)} (hi : G.sl[i]? = some (.hot k)) (hk : G.hot[k]? = some (.rows xss)) (h : EvP c tj G fun y => ∃ n m xs, y = .int n ∧ ixN xss.length n = some m ∧ xss[m]? = some xs ∧ P (.int xs.length)) :
    EvP c (tCB (rLenB c.K) (tCons (tOp (rIx c.K) (tVar i) tj) tNil)) G P := fun B g C H σ X I Q q => by
  refine ev_row hi hk (PR := fun m xs => P (.int xs.length)) h X I fun m xs a rs r vs C1 H1 pr hx I1 g1 hf e1 e2 e3 e4 => ?_
  exact ⟨.ref r, _, rfl, .inl ⟨_, SqL.of e3, rfl⟩, by rw [RpAll.length e4]; exact q _ _ C1 H1 pr I1 g1 (.int _)⟩
/-- list(rows[j]) -/
theorem el_rowList {i k : Nat} {xss : List (List D)} (hi : G.sl[i]? = some (.hot k)) (hk : G.hot[k]? = some (.rows xss)) (h : EvP c tj G fun y => ∃ n m xs, y = .int n ∧ ixN xss.length n = some m ∧ xss[m]? = some xs ∧ PL xs) :
    EvL c (tCB (rListOf c.K) (tCons (tOp (rIx c.K) (tVar i) tj) tNil)) G PL := fun B g C H σ X I Q q => by
  refine ev_row hi hk (PR := fun m xs => PL xs) h X I fun m xs a rs r vs C1 H1 pr hx I1 g1 hf e1 e2 e3 e4 => ?_
  exact ⟨r, vs, rfl, .inl (SqL.of e3), fun l hl => newL I1 g1 hl e4 pr q⟩
/-- rows[j][lo:hi] -/
theorem el_rowSl {i k : Nat} {xss : List (List D)} {tlo thi : TO} (hi : G.sl[i]? = some (.hot k)) (hk : G.hot[k]? = some (.rows xss))
    (h : EvP c tj G fun y => ∃ n m xs, y = .int n ∧ ixN xss.length n = some m ∧ xss[m]? = some xs ∧ EvO c tlo G fun lo => EvO c thi G fun hi => PL (cutD xs lo hi)) :
    EvL c (tSl (rSlAny c.K) (tOp (rIx c.K) (tVar i) tj) tlo thi) G PL := fun B g C H σ X I Q q => by
  refine ev_row hi hk (PR := fun m xs => EvO c tlo G fun lo => EvO c thi G fun hi => PL (cutD xs lo hi)) h X I fun m xs a rs r vs C1 H1 pr hx I1 g1 hf e1 e2 e3 e4 => ?_
  have rm : r ∉ g.ss := I1.apart hf (by simp [List.mem_of_getElem? e1])
  refine pr B g C1 H1 σ (X.on g1.cc) I1 _ fun lo C2 H2 p2 I2 g2 => p2 B g C2 H2 σ (X.on (g1.trans g2).cc) I2 _ fun hi C3 H3 p I3 g3 => ?_
  have g23 := g2.trans g3
  exact .inl ⟨r, vs, rfl, SqL.of (g23.hh r _ rm e3), fun l hl => newL I3 (g1.trans g23) hl (rp_cut (rpAll_mono g23.cc e4) lo hi) p q⟩
/-- rows[j].append(e) -/
theorem sat_rowAppend {i k : Nat} {xss : List (List D)} (hi : G.sl[i]? = some (.hot k)) (hk : G.hot[k]? = some (.rows xss))
    (h : EvP c tj G fun y => ∃ n m xs, y = .int n ∧ ixN xss.length n = some m ∧ xss[m]? = some xs ∧ xs.length < 100000 ∧ EvP c te G fun x => E.nx (G.setHot k (.rows (xss.set m (xs ++ [x]))))) :
    SatS c (tDrop (tBM c.K "list" rAppend (tOp (rIx c.K) (tVar i) tj) (tCons te tNil))) G E := fun B g C H σ X I D ok => by
  refine ev_row hi hk (PR := fun m xs => xs.length < 100000 ∧ EvP c te G fun x => E.nx (G.setHot k (.rows (xss.set m (xs ++ [x]))))) h X I fun m xs a rs r vs C1 H1 pr hx I1 g1 hf e1 e2 e3 e4 => ?_
  obtain ⟨hl, pr⟩ := pr
  have rm : r ∉ g.ss := I1.apart hf (by simp [List.mem_of_getElem? e1])
  refine ⟨.inl ⟨rfl, _, SqL.of e3⟩, pr B g C1 H1 σ (X.on g1.cc) I1 _ fun x v C2 H2 p I2 g2 r2 => ?_⟩
  refine ⟨r, vs, v, rfl, rfl, g2.hh r _ rm e3, by rw [RpAll.length e4]; exact lt_line hl, ?_⟩
  refine ok.nx _ g C2 _ σ p (g1.trans g2).cc ?_
  obtain ⟨a', rs', hf', h1, h2, h3⟩ := I2.hotR hk
  rw [hf] at hf'
  cases hf'
  have nd := List.nodup_cons.mp (flat_nodup (List.nodup_append.mp I2.nd).2.1 hf)
  have rr : r ∈ rs := List.mem_of_getElem? e1
  refine I2.wrR hk hf (by simp [rr]) ⟨a, rs, rfl, h1, ?_, RowsAt.wrOne (g2.hc r (by rw [e3]; simp) e2) (RpAll.append (rpAll_mono g2.cc e4) (RpAll.one r2)) h3 nd.2 e1⟩
  rw [upd_ne fun z => nd.1 (by rw [z]; exact rr)]
  exact h2
/-- rows[j][i] = e -/
theorem sat_rowSet {i k : Nat} {xss : List (List D)} (hi : G.sl[i]? = some (.hot k)) (hk : G.hot[k]? = some (.rows xss))
    (h : EvP c te G fun x => EvP c tj G fun y => ∃ n m xs, y = .int n ∧ ixN xss.length n = some m ∧ xss[m]? = some xs ∧ EvP c ti G fun z => ∃ l l', z = .int l ∧ ixN xs.length l = some l' ∧ E.nx (G.setHot k (.rows (xss.set m (xs.set l' x))))) :
    SatS c (tAsg te (gSub (tOp (rIx c.K) (tVar i) tj) ti rSetL)) G E := fun B g C H σ X I D ok =>
  h B g C H σ X I _ fun x v C0 H0 p0 I0 g0 r0 => by
    refine ev_row hi hk (PR := fun m xs => EvP c ti G fun z => ∃ l l', z = .int l ∧ ixN xs.length l = some l' ∧ E.nx (G.setHot k (.rows (xss.set m (xs.set l' x))))) p0 (X.on g0.cc) I0 fun m xs a rs r vs C1 H1 pr hx I1 g1 hf e1 e2 e3 e4 => ?_
    have rm : r ∉ g.ss := I1.apart hf (by simp [List.mem_of_getElem? e1])
    refine pr B g C1 H1 σ (X.on (g0.trans g1).cc) I1 _ fun z w C2 H2 p I2 g2 r2 => ?_
    obtain ⟨l, l', rfl, hl, p⟩ := p
    cases r2
    refine ⟨r, vs, l, l', rfl, rfl, g2.hh r _ rm e3, by rw [RpAll.length e4]; exact hl, ?_⟩
    refine ok.nx _ g C2 _ σ p ((g0.trans g1).trans g2).cc ?_
    obtain ⟨a', rs', hf', h1, h2, h3⟩ := I2.hotR hk
    rw [hf] at hf'
    cases hf'
    have nd := List.nodup_cons.mp (flat_nodup (List.nodup_append.mp I2.nd).2.1 hf)
    have rr : r ∈ rs := List.mem_of_getElem? e1
    refine I2.wrR hk hf (by simp [rr]) ⟨a, rs, rfl, h1, ?_, RowsAt.wrOne (g2.hc r (by rw [e3]; simp) e2) (RpAll.set l' (rpAll_mono g2.cc e4) (rp_mono (g1.trans g2).cc r0)) h3 nd.2 e1⟩
    rw [upd_ne fun z => nd.1 (by rw [z]; exact rr)]
    exact h2
/-- a new list takes row j's place, or joins -/
theorem Holds.newRow {B : Bs} {g : Gh} {C H : Hp} {σ : L2.St} (I : Holds c.K B G g C H σ) {k m : Nat} {xss : List (List D)} {xs : List D} {a p : Addr} {rs : List Addr} {vs : List V} (hk : G.hot[k]? = some (.rows xss)) (hf : g.hs[k]? = some (a :: rs)) (hm : m < xss.length)
    (f : Off B g p) (hc : C p = none) (hv : H p = some (.lst vs)) (ra : RpAll c.K C vs xs) : ∃ g', g'.ss = g.ss ∧ Holds c.K B (G.setHot k (.rows (xss.set m xs))) g' C (upd H a (.lst ((rs.set m p).map V.ref))) σ := by
  obtain ⟨a', rs', hf', h1, h2, h3⟩ := I.hotR hk
  rw [hf] at hf'
  cases hf'
  have nd := List.nodup_cons.mp (flat_nodup (List.nodup_append.mp I.nd).2.1 hf)
  have pf : p ∉ a :: rs := fun z => f.hs (List.mem_flatten.mpr ⟨_, List.mem_of_getElem? hf, z⟩)
  have sub : ∀ x ∈ rs.set m p, x ∈ rs ∨ x = p := fun x hx => List.mem_or_eq_of_mem_set hx
  have gen : ∀ {rs : List Addr} {xss : List (List D)} (m : Nat), RowsAt c.K C H rs xss → RowsAt c.K C H (rs.set m p) (xss.set m xs) := by
    intro rs xss m h
    induction h generalizing m with
    | nil => simp; exact .nil
    | cons q1 q2 q3 t ih =>
      cases m with
      | zero => simp only [List.set_cons_zero]; exact .cons hc hv ra t
      | succ m => simp only [List.set_cons_succ]; exact .cons q1 q2 q3 (ih m)
  have nds : ∀ (rs : List Addr) (m : Nat), rs.Nodup → p ∉ rs → (rs.set m p).Nodup := by
    intro rs
    induction rs with
    | nil => intro m _ _; simp
    | cons r rs ih =>
      intro m n hp
      have n2 := List.nodup_cons.mp n
      cases m with
      | zero => simp only [List.set_cons_zero]; exact List.nodup_cons.mpr ⟨fun z => hp (by simp [z]), n2.2⟩
      | succ m =>
        simp only [List.set_cons_succ]
        refine List.nodup_cons.mpr ⟨fun z => ?_, ih m n2.2 fun z => hp (by simp [z])⟩
        rcases List.mem_or_eq_of_mem_set z with q | q
        · exact n2.1 q
        · exact hp (by simp [q])
  have na : a ∉ rs.set m p := fun z => by
    rcases sub a z with q | q
    · exact nd.1 q
    · exact pf (by simp [q])
  refine ⟨⟨g.ss, g.hs.set k (a :: rs.set m p)⟩, rfl, I.setF hk hf (by simp) rfl (List.nodup_cons.mpr ⟨na, nds rs m nd.2 fun z => pf (by simp [z])⟩) (fun x hx => ?_) ⟨a, _, rfl, h1, upd_same, (gen m h3).wr na⟩⟩
  rcases List.mem_cons.mp hx with z | z
  · exact .inl (by simp [z])
  · rcases sub x z with q | q
    · exact .inl (by simp [q])
    · exact .inr (q ▸ f)
theorem Holds.addRow {B : Bs} {g : Gh} {C H : Hp} {σ : L2.St} (I : Holds c.K B G g C H σ) {k : Nat} {xss : List (List D)} {xs : List D} {a p : Addr} {rs : List Addr} {vs : List V} (hk : G.hot[k]? = some (.rows xss)) (hf : g.hs[k]? = some (a :: rs))
    (f : Off B g p) (hc : C p = none) (hv : H p = some (.lst vs)) (ra : RpAll c.K C vs xs) : ∃ g', g'.ss = g.ss ∧ Holds c.K B (G.setHot k (.rows (xss ++ [xs]))) g' C (upd H a (.lst ((rs ++ [p]).map V.ref))) σ := by
  obtain ⟨a', rs', hf', h1, h2, h3⟩ := I.hotR hk
  rw [hf] at hf'
  cases hf'
  have nd := List.nodup_cons.mp (flat_nodup (List.nodup_append.mp I.nd).2.1 hf)
  have pf : p ∉ a :: rs := fun z => f.hs (List.mem_flatten.mpr ⟨_, List.mem_of_getElem? hf, z⟩)
  have gen : ∀ {rs : List Addr} {xss : List (List D)}, RowsAt c.K C H rs xss → RowsAt c.K C H (rs ++ [p]) (xss ++ [xs]) := by
    intro rs xss h
    induction h with
    | nil => exact .cons hc hv ra .nil
    | cons q1 q2 q3 t ih => exact .cons q1 q2 q3 ih
  have na : a ∉ rs ++ [p] := fun z => by
    rcases List.mem_append.mp z with q | q
    · exact nd.1 q
    · have : a = p := by simpa using q
      exact pf (by simp [this])
  refine ⟨⟨g.ss, g.hs.set k (a :: (rs ++ [p]))⟩, rfl, I.setF hk hf (by simp) rfl (List.nodup_cons.mpr ⟨na, List.nodup_append.mpr ⟨nd.2, by simp, fun x hx y hy => ?_⟩⟩) (fun x hx => ?_) ⟨a, _, rfl, h1, upd_same, (gen h3).wr na⟩⟩
  · have : y = p := by simpa using hy
    subst this
    intro z
    subst z
    exact pf (by simp [hx])
  · rcases List.mem_cons.mp hx with z | z
    · exact .inl (by simp [z])
    · rcases List.mem_append.mp z with q | q
      · exact .inl (by simp [q])
      · have : x = p := by simpa using q
        exact .inr (this ▸ f)
/-- rows[j] = (a new list) -/
theorem sat_rowsSet {i k : Nat} {xss : List (List D)} (hi : G.sl[i]? = some (.hot k)) (hk : G.hot[k]? = some (.rows xss)) (h : EvL c te G fun xs => EvP c tj G fun y => ∃ n m, y = .int n ∧ ixN xss.length n = some m ∧ E.nx (G.setHot k (.rows (xss.set m xs)))) :
    SatS c (tAsg te (gSub (tVar i) tj rSetL)) G E := fun B g C H σ X I D ok =>
  h B g C H σ X I _ fun xs p vs C1 H1 h1 I1 g1 f hp hc hv ra => by
    obtain ⟨a, rs, e1, hf, _⟩ := hotR_at I1 hi hk
    refine ⟨.ref a, e1, h1 B g C1 H1 σ (X.on g1.cc) I1 _ fun y w C2 H2 p2 I2 g2 r2 => ?_⟩
    obtain ⟨n, m, rfl, hm, q⟩ := p2
    cases r2
    obtain ⟨a', rs', e1', hf', q1, q2, q3⟩ := hotR_at I2 hi hk
    rw [hf] at hf'
    cases hf'
    have hm2 : m < xss.length := (ixN_seq hm).2.1
    have f2 : H2 p = some (.lst vs) := g2.hh p _ f.ss hv
    have c2 : C2 p = none := g2.hc p (by rw [hv]; simp) hc
    obtain ⟨g', eg, J⟩ := I2.newRow hk hf hm2 f c2 f2 (rpAll_mono g2.cc ra)
    refine ⟨a, _, n, m, rfl, rfl, q2, by rw [List.length_map, q3.length]; exact hm, ?_⟩
    rw [List.map_set] at J
    exact ok.nx _ g' C2 _ σ q (g1.trans g2).cc J
/-- rows.append(a new list) -/
theorem sat_rowsAppend {i k : Nat} {xss : List (List D)} (hi : G.sl[i]? = some (.hot k)) (hk : G.hot[k]? = some (.rows xss)) (hl : xss.length < 100000) (h : EvL c te G fun xs => E.nx (G.setHot k (.rows (xss ++ [xs])))) :
    SatS c (tDrop (tBM c.K "list" rAppend (tVar i) (tCons te tNil))) G E := fun B g C H σ X I D ok => by
  obtain ⟨a, rs, e1, hf, e2, e3, e4⟩ := hotR_at I hi hk
  refine ⟨.ref a, e1, .inl ⟨rfl, _, SqL.of e3⟩, h B g C H σ X I _ fun xs p vs C1 H1 h1 I1 g1 f hp hc hv ra => ?_⟩
  obtain ⟨a', rs', e1', hf', q1, q2, q3⟩ := hotR_at I1 hi hk
  rw [hf] at hf'
  cases hf'
  obtain ⟨g', eg, J⟩ := I1.addRow hk hf f hc hv ra
  refine ⟨a, _, .ref p, rfl, rfl, q2, by rw [List.length_map, q3.length]; exact lt_line hl, ?_⟩
  rw [List.map_append] at J
  exact ok.nx _ g' C1 _ σ h1 g1.cc J
theorem Holds.addRows {B : Bs} {g : Gh} {C H : Hp} {σ : L2.St} (I : Holds c.K B G g C H σ) {i : Nat} {p : Addr} {rs : List Addr} {xss : List (List D)} (f : ∀ x ∈ p :: rs, Off B g x) (nd : (p :: rs).Nodup) (hc : C p = none) (hv : H p = some (.lst (rs.map V.ref))) (ra : RowsAt c.K C H rs xss) :
    Holds c.K B (G.addHot i (.rows xss)) ⟨g.ss, g.hs ++ [p :: rs]⟩ C H (σ.set i (some (.ref p))) where
  gr := I.gr
  len := by simp [Gm.addHot, I.len]
  sl := fun j s e => by
    have up : ∀ {j : Nat} {s : SV} {σ : L2.St}, SlotOk c.K C g σ j s → SlotOk c.K C ⟨g.ss, g.hs ++ [p :: rs]⟩ σ j s := by
      intro j s σ h
      cases s with
      | hot k =>
        obtain ⟨a, f, h1, h2⟩ := h
        refine ⟨a, f, ?_, h2⟩
        show (g.hs ++ [p :: rs])[k]? = _
        rw [List.getElem?_append_left (List.getElem?_eq_some_iff.mp h1).1]
        exact h1
      | any => trivial
      | d x => exact h
      | st k => exact h
      | val v => exact h
    have e' : (G.sl.set i (.hot G.hot.length))[j]? = some s := e
    by_cases q : j = i
    · subst q
      have hj : j < G.sl.length := by
        have := (List.getElem?_eq_some_iff.mp e').1
        simpa using this
      rw [List.getElem?_set_self hj] at e'
      cases e'
      refine ⟨p, rs, ?_, ?_⟩
      · show (g.hs ++ [p :: rs])[G.hot.length]? = _
        rw [I.hl]
        simp
      · rw [List.getElem?_set_self (by rw [I.len]; exact hj)]
    · rw [List.getElem?_set_ne (Ne.symm q)] at e'
      exact up ((I.sl j s e').set_ne q)
  st := I.st
  sub := I.sub
  hl := by simp [Gm.addHot, I.hl]
  ht := fun k h x e1 e2 => by
    have e1' : (G.hot ++ [HV.rows xss])[k]? = some h := e1
    have e2' : (g.hs ++ [p :: rs])[k]? = some x := e2
    by_cases q : k < G.hot.length
    · rw [List.getElem?_append_left q] at e1'
      rw [List.getElem?_append_left (by rw [← I.hl]; exact q)] at e2'
      exact I.ht k h x e1' e2'
    · have q1 : k = G.hot.length := by
        have := (List.getElem?_eq_some_iff.mp e1').1
        simp at this
        omega
      subst q1
      rw [List.getElem?_append_right (Nat.le_refl _)] at e1'
      rw [I.hl, List.getElem?_append_right (Nat.le_refl _)] at e2'
      simp at e1' e2'
      subst e1' e2'
      exact ⟨p, rs, rfl, hc, hv, ra⟩
  nw := fun x hx a ha => by
    rcases List.mem_append.mp hx with z | z
    · exact I.nw x z a ha
    · have : x = p :: rs := by simpa using z
      subst this
      exact (f a ha).bh
  nd := by
    have := I.nd
    rw [List.nodup_append] at this ⊢
    obtain ⟨n1, n2, n3⟩ := this
    simp only [List.flatten_append, List.flatten_cons, List.flatten_nil, List.append_nil]
    refine ⟨n1, ?_, ?_⟩
    · rw [List.nodup_append]
      refine ⟨n2, nd, fun a ha b hb => ?_⟩
      intro z; subst z
      exact (f a hb).hs ha
    · intro a ha b hb
      rcases List.mem_append.mp hb with z | z
      · exact n3 a ha b z
      · intro z2; subst z2
        exact (f a z).ss ha
/-- [list(x) for x in e]: rows to be written -/
theorem sat_asgRows {i r : Nat} {tl : TE} (h : EvP c tl G fun d => ∃ ds xss, seqD d = some ds ∧ ds.length = xss.length ∧ ds.length ≤ 100000 ∧ (∀ (n : Nat) (x : D), ds[n]? = some x → ∃ xs, xss[n]? = some xs ∧ rowD x = some xs) ∧ r < G.sl.length ∧ E.nx (G.addHot i (.rows xss))) :
    SatS c (tAsg (tLc (iAny c.K tl) (gName r) tYes (tCB (rListOf c.K) (tCons (tVar r) tNil)) [r]) (gName i)) G E := fun B g C H σ X I0 Dd ok => by
  unfold tAsg tLc
  refine ei_any (c := c) (G := G) (tl := tl) (P := fun ds => ∃ xss, ds.length = xss.length ∧ ds.length ≤ 100000 ∧ (∀ (n : Nat) (x : D), ds[n]? = some x → ∃ xs, xss[n]? = some xs ∧ rowD x = some xs) ∧ r < G.sl.length ∧ E.nx (G.addHot i (.rows xss)))
    (ev_mono h fun d ⟨ds, xss, a, b⟩ => ⟨ds, a, xss, b⟩) B g C H σ X I0 _ ?_
  intro J ds C1 H1 h1 J1 g1 it p hp
  obtain ⟨xss, hl, hb, hx, hr, nx⟩ := h1
  have fp := J1.off hp
  have c1p : C1 p = none := by
    cases z : C1 p with
    | none => rfl
    | some o => rw [J1.ch p o z] at hp; cases hp
  refine ⟨fun n m H' => m = ds.length - n ∧ n ≤ ds.length ∧ ∃ C' rs, Holds c.K B G g C' H' σ ∧ Grow g.ss C1 H1 C' H' ∧ C' p = none ∧ H' p = some (.lst (rs.map V.ref)) ∧ RowsAt c.K C' H' rs (xss.take n) ∧ rs.Nodup ∧ ∀ x ∈ rs, Off B g x ∧ H1 x = none ∧ x ≠ p, ⟨ds.length, rfl, Nat.zero_le _, C1, [], ?_⟩, ?_⟩
  · refine ⟨J1.grow0 (Grow.hot J1.ch (.lst []) hp), Grow.hot J1.ch _ hp, c1p, upd_same, ?_, .nil, by simp⟩
    rw [List.take_zero]
    exact .nil
  rintro n m H' ⟨rfl, hn, C', rs, I', e, hc, hv, ra, nd, of⟩
  obtain ⟨st, go⟩ := it B G g C' H' σ I' e.cc
  by_cases hlt : n < ds.length
  · have hxn : ds[n]? = some ds[n] := List.getElem?_eq_getElem hlt
    obtain ⟨g1', y⟩ := go n _ hxn
    refine .inr ⟨g1', fun H' => ∃ C' rs, Holds c.K B G g C' H' σ ∧ Grow g.ss C1 H1 C' H' ∧ C' p = none ∧ H' p = some (.lst (rs.map V.ref)) ∧ RowsAt c.K C' H' rs (xss.take (n + 1)) ∧ rs.Nodup ∧ ∀ x ∈ rs, Off B g x ∧ H1 x = none ∧ x ≠ p, fun H2 z => ⟨ds.length - (n + 1), by omega, rfl, hlt, z⟩, fun v H2 yv => ?_⟩
    obtain ⟨C2, I2, g2, r2⟩ := y v H2 yv
    obtain ⟨xs, e1, e2⟩ := hx n _ hxn
    refine ⟨by simp only [L2.wipe]; simp [List.set_set], v, ?_, ?_⟩
    · simp only [L2.wipe]
      rw [List.getElem?_set_self (by rw [List.length_set, I0.len]; exact hr)]
    obtain ⟨tt, a, vs, rfl, ha, hsq⟩ := rp_sqB r2 e2
    refine ⟨a, vs, rfl, ?_, fun l hl0 => ?_⟩
    · have := hsq C2 H2 (Same.refl _) I2.ch
      cases tt
      · exact .inl this
      · exact .inr this
    have e3 := e.trans g2
    have vp : H2 p = some (.lst (rs.map V.ref)) := g2.hh p _ fp.ss hv
    have cp : C2 p = none := g2.hc p (by rw [hv]; simp) hc
    have lp : l ≠ p := fun z => by rw [z, vp] at hl0; cases hl0
    have cl : C2 l = none := by
      cases z : C2 l with
      | none => rfl
      | some o => rw [I2.ch l o z] at hl0; cases hl0
    have ra2 : RowsAt c.K C2 H2 rs (xss.take n) := ra.grow g2 fun x hx => (of x hx).1.ss
    have lrs : l ∉ rs := fun z => (rowsAt_some ra2 l z).1 hl0
    have fl := I2.off hl0
    have I3 : Holds c.K B G g C2 (upd H2 l (.lst vs)) σ := I2.grow0 (Grow.hot I2.ch (.lst vs) hl0)
    have h1l : H1 l = none := by
      cases z : H1 l with
      | none => rfl
      | some o => exact absurd hl0 (e3.al l (by rw [z]; simp))
    have vp3 : (upd H2 l (.lst vs)) p = some (.lst (rs.map V.ref)) := by rw [upd_ne (Ne.symm lp)]; exact vp
    have lenl : rs.length < sizeLine := by
      rw [ra.length, List.length_take]
      exact lt_line (by omega)
    refine ⟨rs.map V.ref, vp3, by rw [List.length_map]; exact lenl, C2, rs ++ [l], I3.wrOff fp cp _, ((e3.trans (Grow.hot I2.ch _ hl0)).wr _ (.inr hp) cp), cp, ?_, ?_, ?_, ?_⟩
    · rw [upd_same]; simp
    · have tk : xss.take (n + 1) = xss.take n ++ [xs] := by rw [List.take_add_one, e1]; rfl
      rw [tk]
      have gen : ∀ {rs : List Addr} {xss : List (List D)} {H : Hp}, RowsAt c.K C2 H rs xss → H l = some (.lst vs) → RowsAt c.K C2 H (rs ++ [l]) (xss ++ [xs]) := by
        intro rs xss H h hl1
        induction h with
        | nil => exact .cons cl hl1 ha .nil
        | cons q1 q2 q3 t ih => exact .cons q1 q2 q3 ih
      refine (gen (ra2.wr lrs) upd_same).wr fun z => ?_
      rcases List.mem_append.mp z with q | q
      · exact (of p q).2.2 rfl
      · have : p = l := by simpa using q
        exact lp this.symm
    · exact List.nodup_append.mpr ⟨nd, by simp, fun x hx y hy z => lrs (by have : y = l := by simpa using hy
                                                                           subst this; exact z ▸ hx)⟩
    · intro x hx
      rcases List.mem_append.mp hx with q | q
      · exact of x q
      · have : x = l := by simpa using q
        subst this
        exact ⟨fl, h1l, lp⟩
  · have ei : n = ds.length := by omega
    subst ei
    refine .inl ⟨st, ?_⟩
    have tk : xss.take ds.length = xss := by rw [hl]; simp
    rw [tk] at ra
    exact ok.nx _ _ C' H' _ nx (g1.trans e).cc (I'.addRows (fun x hx => by
      rcases List.mem_cons.mp hx with z | z
      · exact z ▸ fp
      · exact (of x z).1) (List.nodup_cons.mpr ⟨fun z => (of p z).2.2 rfl, nd⟩) hc hv ra)
end
end DL
end
section
/-! whole numbers of so many bits; fractions as data -/
namespace DL
open PySem L2
def Bi (n : Nat) (i : Int) : Prop := i.natAbs < 2 ^ n
theorem Bi.mono {n m : Nat} {i : Int} (h : Bi n i) (l : n ≤ m) : Bi m i := Nat.lt_of_lt_of_le h (Nat.pow_le_pow_right (by decide) l)
theorem Bi.neg {n : Nat} {i : Int} (h : Bi n i) : Bi n (-i) := by unfold Bi at *; rw [Int.natAbs_neg]; exact h
theorem Bi.mul {n m : Nat} {i j : Int} (h : Bi n i) (k : Bi m j) : Bi (n + m) (i * j) := by
  unfold Bi at *
  rw [Int.natAbs_mul, Nat.pow_add]
  exact Nat.mul_lt_mul'' h k
theorem Bi.add {n m : Nat} {i j : Int} (h : Bi n i) (k : Bi m j) : Bi (n + m + 1) (i + j) := by
  unfold Bi at *
  have h1 : 2 ^ n ≤ 2 ^ (n + m) := Nat.pow_le_pow_right (by decide) (by omega)
  have h2 : 2 ^ m ≤ 2 ^ (n + m) := Nat.pow_le_pow_right (by decide) (by omega)
  rw [Nat.pow_succ]
  omega
theorem Bi.add1 {n : Nat} {i j : Int} (h : Bi n i) (k : Bi n j) : Bi (n + 1) (i + j) := by
  unfold Bi at *
  rw [Nat.pow_succ]
  omega
theorem Bi.sub1 {n : Nat} {i j : Int} (h : Bi n i) (k : Bi n j) : Bi (n + 1) (i - j) := by
  unfold Bi at *
  rw [Nat.pow_succ]
  omega
theorem Bi.log {n : Nat} {i : Int} (h : Bi n i) (l : 0 < n) : i.natAbs.log2 < n := by
  unfold Bi at h
  rcases Nat.eq_zero_or_pos i.natAbs with h0 | hp
  · rw [h0]; simpa using l
  · exact (Nat.log2_lt (Nat.ne_of_gt hp)).mpr h
theorem bi_mulOk {n m : Nat} {i j : Int} (h : Bi n i) (k : Bi m j) (l : n + m ≤ 1000000) : IntMulOk i j := by
  have bits : ∀ {n : Nat} {i : Int}, Bi n i → Builtin.Int.intBits i ≤ n := by
    intro n i h
    unfold Builtin.Int.intBits
    split
    · exact Nat.zero_le _
    · rename_i hi
      have hi0 : i ≠ 0 := by simpa using hi
      have hn : 0 < n := by
        rcases Nat.eq_zero_or_pos n with z | z
        · subst z
          unfold Bi at h
          simp at h
          exact absurd h hi0
        · exact z
      have := h.log hn
      omega
  have b1 := bits h
  have b2 := bits k
  unfold IntMulOk
  have : Builtin.Int.intTooBig (Builtin.Int.intBits i + Builtin.Int.intBits j) = false := by
    unfold Builtin.Int.intTooBig
    simp only [decide_eq_false_iff_not]
    have e : (bitsLine : Nat) ≥ 1000000 := by decide
    omega
  simp [this]
theorem bi_divOk {n : Nat} {i j : Int} (h : Bi n j) (l : n ≤ 9000) (j0 : j ≠ 0) : CDivI i j := by
  refine ⟨j0, ?_⟩
  unfold Builtin.divisionGoesByPylong
  have hl : j.natAbs.log2 < 9000 := (h.mono l).log (by decide)
  have : ¬ (300 < j.natAbs.log2 / 30 + 1) := by omega
  have e : (j == 0) = false := by simpa using j0
  simp [e, this]
/-! gcd -/
def gcdI (a b : Int) : Int := (Int.gcd a b : Nat)
theorem gcdI_pos {a b : Int} (h : a ≠ 0 ∨ b ≠ 0) : 0 < gcdI a b := by
  have := Int.gcd_pos_iff.mpr h
  unfold gcdI
  omega
theorem gcd_fmod {a b : Int} (ha : 0 ≤ a) (hb : 0 < b) : gcdI b (a.fmod b) = gcdI a b := by
  unfold gcdI
  rw [Int.fmod_eq_emod_of_nonneg _ (by omega : 0 ≤ b)]
  rw [Int.gcd_comm a b]
  congr 1
  have e : a % b = a - b * (a / b) := by have := Int.emod_add_mul_ediv a b; omega
  rw [e]
  simp
theorem fmod_le {a b : Int} (hb : 0 < b) : 0 ≤ a.fmod b ∧ a.fmod b < b := by
  rw [Int.fmod_eq_emod_of_nonneg _ (by omega : 0 ≤ b)]
  exact ⟨Int.emod_nonneg _ (by omega), Int.emod_lt_of_pos _ hb⟩
/-! lowest terms -/
def fr (q : Rat) : D := .tuple [.int q.num, .int q.den]
theorem fdiv_neg_exact {g k : Int} (h : g ≠ 0) : (g * k).fdiv (-g) = -k := by
  have : g * k = (-g) * (-k) := by rw [Int.neg_mul_neg]
  rw [this]
  exact Int.mul_fdiv_cancel_left _ (by omega)
/-- top and bottom by their common part, signed as the bottom -/
theorem low_num {a b : Int} (h : b ≠ 0) : a.fdiv (if b < 0 then -gcdI a b else gcdI a b) = (Rat.divInt a b).num := by
  have g0 := gcdI_pos (a := a) (b := b) (.inr h)
  rw [Rat.num_divInt]
  have gc : ((b.gcd a : Nat) : Int) = gcdI a b := by unfold gcdI; rw [Int.gcd_comm]
  rw [gc]
  have d : gcdI a b ∣ a := by unfold gcdI; exact Int.gcd_dvd_left ..
  generalize gcdI a b = g at *
  obtain ⟨k, rfl⟩ := d
  by_cases hb : b < 0
  · rw [if_pos hb, Int.sign_eq_neg_one_of_neg hb, fdiv_neg_exact (by omega)]
    have e3 : (-1 : Int) * (g * k) = g * (-k) := by rw [Int.mul_neg]; omega
    rw [e3, Int.mul_ediv_cancel_left _ (by omega)]
  · rw [if_neg hb, Int.sign_eq_one_of_pos (by omega), Int.one_mul, Int.mul_fdiv_cancel_left _ (by omega), Int.mul_ediv_cancel_left _ (by omega)]
theorem low_den {a b : Int} (h : b ≠ 0) : b.fdiv (if b < 0 then -gcdI a b else gcdI a b) = ((Rat.divInt a b).den : Int) := by
  have g0 := gcdI_pos (a := a) (b := b) (.inr h)
  rw [Rat.den_divInt, if_neg h]
  have gc : ((b.gcd a : Nat) : Int) = gcdI a b := by unfold gcdI; rw [Int.gcd_comm]
  rw [Int.natCast_ediv, gc]
  have d : gcdI a b ∣ b := by unfold gcdI; exact Int.gcd_dvd_right ..
  generalize gcdI a b = g at *
  obtain ⟨k, rfl⟩ := d
  by_cases hb : g * k < 0
  · rw [if_pos hb, fdiv_neg_exact (by omega)]
    have e3 : (((g * k).natAbs : Nat) : Int) = g * (-k) := by
      rw [Int.mul_neg]; omega
    rw [e3, Int.mul_ediv_cancel_left _ (by omega)]
  · rw [if_neg hb, Int.mul_fdiv_cancel_left _ (by omega)]
    have e3 : (((g * k).natAbs : Nat) : Int) = g * k := by omega
    rw [e3, Int.mul_ediv_cancel_left _ (by omega)]
/-! sizes of fractions -/
def Sz (n : Nat) (q : Rat) : Prop := Bi n q.num ∧ Bi n q.den
theorem Sz.mono {n m : Nat} {q : Rat} (h : Sz n q) (l : n ≤ m) : Sz m q := ⟨h.1.mono l, h.2.mono l⟩
theorem Sz.neg {n : Nat} {q : Rat} (h : Sz n q) : Sz n (-q) := ⟨by rw [Rat.neg_num]; exact h.1.neg, by rw [Rat.neg_den]; exact h.2⟩
theorem sz_divInt {n : Nat} {a b : Int} (ha : Bi n a) (hb : Bi n b) (b0 : b ≠ 0) : Sz n (Rat.divInt a b) := by
  constructor
  · rw [Rat.num_divInt]
    unfold Bi at *
    have : (b.sign * a / (b.gcd a : Nat)).natAbs ≤ (b.sign * a).natAbs := Int.natAbs_ediv_le_natAbs _ _
    have e : (b.sign * a).natAbs = a.natAbs := by
      rw [Int.natAbs_mul]
      rcases Int.lt_or_gt_of_ne b0 with z | z
      · rw [Int.sign_eq_neg_one_of_neg z]; simp
      · rw [Int.sign_eq_one_of_pos z]; simp
    omega
  · rw [Rat.den_divInt, if_neg b0]
    unfold Bi at *
    have : b.natAbs / b.gcd a ≤ b.natAbs := Nat.div_le_self _ _
    have e : (((b.natAbs / b.gcd a : Nat) : Int)).natAbs = b.natAbs / b.gcd a := Int.natAbs_natCast _
    rw [e]
    omega
theorem Sz.one : Sz 1 1 := by
  constructor <;> (unfold Bi; decide)
theorem Sz.zero : Sz 1 0 := by
  constructor <;> (unfold Bi; decide)
theorem den_pos' (q : Rat) : (0 : Int) < q.den := by have := q.den_pos; omega
theorem den_ne (q : Rat) : (q.den : Int) ≠ 0 := by have := q.den_pos; omega
theorem divInt_nd (q : Rat) : Rat.divInt q.num q.den = q := Rat.num_divInt_den q
theorem divInt_add (p q : Rat) : Rat.divInt (p.num * q.den + q.num * p.den) (p.den * q.den) = p + q := by
  conv => rhs; rw [← divInt_nd p, ← divInt_nd q]
  rw [Rat.divInt_add_divInt _ _ (den_ne p) (den_ne q)]
theorem divInt_sub (p q : Rat) : Rat.divInt (p.num * q.den - q.num * p.den) (p.den * q.den) = p - q := by
  conv => rhs; rw [← divInt_nd p, ← divInt_nd q]
  rw [Rat.divInt_sub_divInt _ _ (den_ne p) (den_ne q)]
theorem divInt_mul (p q : Rat) : Rat.divInt (p.num * q.num) (p.den * q.den) = p * q := by
  conv => rhs; rw [← divInt_nd p, ← divInt_nd q]
  rw [Rat.divInt_mul_divInt]
theorem divInt_div (p q : Rat) : Rat.divInt (p.num * q.den) (p.den * q.num) = p / q := by
  rw [Rat.div_def]
  conv => rhs; rw [← divInt_nd p, ← divInt_nd q]
  rw [Rat.inv_divInt, Rat.divInt_mul_divInt]
theorem Sz.mul {n m : Nat} {p q : Rat} (h : Sz n p) (k : Sz m q) : Sz (n + m) (p * q) := by
  rw [← divInt_mul]
  refine sz_divInt (h.1.mul k.1) (h.2.mul k.2) (Int.mul_ne_zero (den_ne p) (den_ne q))
theorem Sz.add {n m : Nat} {p q : Rat} (h : Sz n p) (k : Sz m q) : Sz (n + m + 1) (p + q) := by
  rw [← divInt_add]
  refine sz_divInt ((h.1.mul k.2).add1 ((k.1.mul h.2).mono (by omega))) ((h.2.mul k.2).mono (by omega)) (Int.mul_ne_zero (den_ne p) (den_ne q))
theorem Sz.sub {n m : Nat} {p q : Rat} (h : Sz n p) (k : Sz m q) : Sz (n + m + 1) (p - q) := by
  rw [← divInt_sub]
  refine sz_divInt ((h.1.mul k.2).sub1 ((k.1.mul h.2).mono (by omega))) ((h.2.mul k.2).mono (by omega)) (Int.mul_ne_zero (den_ne p) (den_ne q))
theorem num_ne {q : Rat} (h : q ≠ 0) : q.num ≠ 0 := fun e => h (Rat.num_eq_zero.mp e)
theorem Sz.div {n m : Nat} {p q : Rat} (h : Sz n p) (k : Sz m q) (q0 : q ≠ 0) : Sz (n + m) (p / q) := by
  rw [← divInt_div]
  exact sz_divInt (h.1.mul k.2) (h.2.mul k.1) (Int.mul_ne_zero (den_ne p) (num_ne q0))
theorem num_pos {q : Rat} : 0 < q.num ↔ 0 < q := by
  rw [Rat.lt_iff]; simp
theorem fr_inj {p q : Rat} (h : fr p = fr q) : p = q := by
  unfold fr at h
  simp only [PyData.tuple.injEq, List.cons.injEq, PyData.int.injEq, and_true] at h
  exact Rat.ext h.1 (by omega)
end DL
end
section
/-! promises by the number of parameters; the steps -/
namespace DL
open PySem L2
abbrev F1 := D → (D → Prop) → (XD → Prop) → Prop
abbrev F2 := D → D → (D → Prop) → (XD → Prop) → Prop
abbrev F3 := D → D → D → (D → Prop) → (XD → Prop) → Prop
abbrev F4 := D → D → D → D → (D → Prop) → (XD → Prop) → Prop
def fsD1 (f : F1) : FS := fun as P PX => ∃ x, as = [.d x] ∧ f x P PX
def fsD2 (f : F2) : FS := fun as P PX => ∃ x y, as = [.d x, .d y] ∧ f x y P PX
def fsD3 (f : F3) : FS := fun as P PX => ∃ x y z, as = [.d x, .d y, .d z] ∧ f x y z P PX
def fsD4 (f : F4) : FS := fun as P PX => ∃ x y z w, as = [.d x, .d y, .d z, .d w] ∧ f x y z w P PX
def fsS0 (f : (D → Prop) → (XD → Prop) → Prop) : FS := fun as P PX => ∃ k, as = [.st k] ∧ f P PX
def fsS1 (f : F1) : FS := fun as P PX => ∃ k x, as = [.st k, .d x] ∧ f x P PX
def fsS2 (f : F2) : FS := fun as P PX => ∃ k x y, as = [.st k, .d x, .d y] ∧ f x y P PX
def fsS3 (f : F3) : FS := fun as P PX => ∃ k x y z, as = [.st k, .d x, .d y, .d z] ∧ f x y z P PX
theorem len_D1 {f : F1} : ∀ as P PX, fsD1 f as P PX → as.length = 1 := fun _ _ _ ⟨_, e, _⟩ => by rw [e]; rfl
theorem len_D2 {f : F2} : ∀ as P PX, fsD2 f as P PX → as.length = 2 := fun _ _ _ ⟨_, _, e, _⟩ => by rw [e]; rfl
theorem len_D3 {f : F3} : ∀ as P PX, fsD3 f as P PX → as.length = 3 := fun _ _ _ ⟨_, _, _, e, _⟩ => by rw [e]; rfl
theorem len_D4 {f : F4} : ∀ as P PX, fsD4 f as P PX → as.length = 4 := fun _ _ _ ⟨_, _, _, _, e, _⟩ => by rw [e]; rfl
theorem len_S0 {f : (D → Prop) → (XD → Prop) → Prop} : ∀ as P PX, fsS0 f as P PX → as.length = 1 := fun _ _ _ ⟨_, e, _⟩ => by rw [e]; rfl
theorem len_S1 {f : F1} : ∀ as P PX, fsS1 f as P PX → as.length = 2 := fun _ _ _ ⟨_, _, e, _⟩ => by rw [e]; rfl
theorem len_S2 {f : F2} : ∀ as P PX, fsS2 f as P PX → as.length = 3 := fun _ _ _ ⟨_, _, _, e, _⟩ => by rw [e]; rfl
theorem len_S3 {f : F3} : ∀ as P PX, fsS3 f as P PX → as.length = 4 := fun _ _ _ ⟨_, _, _, _, e, _⟩ => by rw [e]; rfl
theorem cD1 {f : F1} {x : D} {P : D → Prop} {PX : XD → Prop} (h : f x P PX) : fsD1 f [.d x] P PX := ⟨_, rfl, h⟩
theorem cD2 {f : F2} {x y : D} {P : D → Prop} {PX : XD → Prop} (h : f x y P PX) : fsD2 f [.d x, .d y] P PX := ⟨_, _, rfl, h⟩
theorem cD3 {f : F3} {x y z : D} {P : D → Prop} {PX : XD → Prop} (h : f x y z P PX) : fsD3 f [.d x, .d y, .d z] P PX := ⟨_, _, _, rfl, h⟩
theorem cD4 {f : F4} {x y z w : D} {P : D → Prop} {PX : XD → Prop} (h : f x y z w P PX) : fsD4 f [.d x, .d y, .d z, .d w] P PX := ⟨_, _, _, _, rfl, h⟩
theorem cS0 {f : (D → Prop) → (XD → Prop) → Prop} {k : Nat} {P : D → Prop} {PX : XD → Prop} (h : f P PX) : fsS0 f [.st k] P PX := ⟨_, rfl, h⟩
theorem cS1 {f : F1} {k : Nat} {x : D} {P : D → Prop} {PX : XD → Prop} (h : f x P PX) : fsS1 f [.st k, .d x] P PX := ⟨_, _, rfl, h⟩
theorem cS2 {f : F2} {k : Nat} {x y : D} {P : D → Prop} {PX : XD → Prop} (h : f x y P PX) : fsS2 f [.st k, .d x, .d y] P PX := ⟨_, _, _, rfl, h⟩
theorem cS3 {f : F3} {k : Nat} {x y z : D} {P : D → Prop} {PX : XD → Prop} (h : f x y z P PX) : fsS3 f [.st k, .d x, .d y, .d z] P PX := ⟨_, _, _, _, rfl, h⟩
section
variable {K : PySem.W.Frag} {E : XK} {t : TS} {n : Nat}
/-- n: the other names -/
theorem bD1 {f : F1} (h : ∀ x P PX, f x P PX → SatS (cn K E PX) t ⟨.d x :: List.replicate n .any, []⟩ (den P)) (as : List AV) (P : D → Prop) (PX : XD → Prop) (q : fsD1 f as P PX) : SatS (cn K E PX) t (gin as n) (den P) := by
  obtain ⟨x, rfl, q⟩ := q; exact h x P PX q
theorem bD2 {f : F2} (h : ∀ x y P PX, f x y P PX → SatS (cn K E PX) t ⟨.d x :: .d y :: List.replicate n .any, []⟩ (den P)) (as : List AV) (P : D → Prop) (PX : XD → Prop) (q : fsD2 f as P PX) : SatS (cn K E PX) t (gin as n) (den P) := by
  obtain ⟨x, y, rfl, q⟩ := q; exact h x y P PX q
theorem bD3 {f : F3} (h : ∀ x y z P PX, f x y z P PX → SatS (cn K E PX) t ⟨.d x :: .d y :: .d z :: List.replicate n .any, []⟩ (den P)) (as : List AV) (P : D → Prop) (PX : XD → Prop) (q : fsD3 f as P PX) : SatS (cn K E PX) t (gin as n) (den P) := by
  obtain ⟨x, y, z, rfl, q⟩ := q; exact h x y z P PX q
theorem bD4 {f : F4} (h : ∀ x y z w P PX, f x y z w P PX → SatS (cn K E PX) t ⟨.d x :: .d y :: .d z :: .d w :: List.replicate n .any, []⟩ (den P)) (as : List AV) (P : D → Prop) (PX : XD → Prop) (q : fsD4 f as P PX) : SatS (cn K E PX) t (gin as n) (den P) := by
  obtain ⟨x, y, z, w, rfl, q⟩ := q; exact h x y z w P PX q
theorem bS0 {f : (D → Prop) → (XD → Prop) → Prop} (h : ∀ k P PX, f P PX → SatS (cn K E PX) t ⟨.st k :: List.replicate n .any, []⟩ (den P)) (as : List AV) (P : D → Prop) (PX : XD → Prop) (q : fsS0 f as P PX) : SatS (cn K E PX) t (gin as n) (den P) := by
  obtain ⟨k, rfl, q⟩ := q; exact h k P PX q
theorem bS1 {f : F1} (h : ∀ k x P PX, f x P PX → SatS (cn K E PX) t ⟨.st k :: .d x :: List.replicate n .any, []⟩ (den P)) (as : List AV) (P : D → Prop) (PX : XD → Prop) (q : fsS1 f as P PX) : SatS (cn K E PX) t (gin as n) (den P) := by
  obtain ⟨k, x, rfl, q⟩ := q; exact h k x P PX q
theorem bS2 {f : F2} (h : ∀ k x y P PX, f x y P PX → SatS (cn K E PX) t ⟨.st k :: .d x :: .d y :: List.replicate n .any, []⟩ (den P)) (as : List AV) (P : D → Prop) (PX : XD → Prop) (q : fsS2 f as P PX) : SatS (cn K E PX) t (gin as n) (den P) := by
  obtain ⟨k, x, y, rfl, q⟩ := q; exact h k x y P PX q
theorem bS3 {f : F3} (h : ∀ k x y z P PX, f x y z P PX → SatS (cn K E PX) t ⟨.st k :: .d x :: .d y :: .d z :: List.replicate n .any, []⟩ (den P)) (as : List AV) (P : D → Prop) (PX : XD → Prop) (q : fsS3 f as P PX) : SatS (cn K E PX) t (gin as n) (den P) := by
  obtain ⟨k, x, y, z, rfl, q⟩ := q; exact h k x y z P PX q
end
/-! shapes -/
theorem eqv_int {a b : Int} : PyData.eqv (.int a) (.int b) = decide (a = b) := by
  simp only [PyData.eqv]; by_cases h : a = b <;> simp [h]
theorem eqv_bool {a b : Bool} : PyData.eqv (.bool a) (.bool b) = (a == b) := by simp only [PyData.eqv]
theorem eqv_str {a b : Str} : PyData.eqv (.str a) (.str b) = (a == b) := by simp only [PyData.eqv]
theorem eqv_fr {p q : Rat} : PyData.eqv (fr p) (fr q) = decide (p = q) := by
  unfold fr
  simp only [PyData.eqv, PyData.eqvAll, Bool.and_true]
  by_cases h : p = q
  · subst h; simp
  · have : ¬ (p.num = q.num ∧ p.den = q.den) := fun z => h (Rat.ext z.1 z.2)
    simp only [h, decide_false]
    by_cases h1 : p.num = q.num
    · have h2 : ¬ p.den = q.den := fun z => this ⟨h1, z⟩
      have h3 : ((p.den : Int) == (q.den : Int)) = false := by simp; omega
      simp [h3]
    · simp [h1]
theorem shp_int {a : Int} : SeqAt.shaped (.int a) = true := by simp [SeqAt.shaped, PyData.canLay0, PyData.depth]
theorem shp_bool {a : Bool} : SeqAt.shaped (.bool a) = true := by simp [SeqAt.shaped, PyData.canLay0, PyData.depth]
theorem shp_none : SeqAt.shaped .none = true := by simp [SeqAt.shaped, PyData.canLay0, PyData.depth]
theorem shp_str {a : Str} (h : PyData.strOk a = true) : SeqAt.shaped (.str a) = true := by simp [SeqAt.shaped, PyData.canLay0, PyData.depth, h]
theorem shp_fr {p : Rat} : SeqAt.shaped (fr p) = true := by simp [fr, SeqAt.shaped, PyData.canLay0, PyData.canLayAll0, PyData.depth, PyData.depthAll]
theorem shp_fr2 {p q : Rat} : SeqAt.shaped (.tuple [fr p, fr q]) = true := by simp [fr, SeqAt.shaped, PyData.canLay0, PyData.canLayAll0, PyData.depth, PyData.depthAll]
theorem eqv_fr2 {p q r s : Rat} : PyData.eqv (.tuple [fr p, fr q]) (.tuple [fr r, fr s]) = decide (p = r ∧ q = s) := by
  simp only [PyData.eqv, PyData.eqvAll, Bool.and_true, eqv_fr]
  by_cases h : p = r <;> by_cases h2 : q = s <;> simp [h, h2]
theorem fr_one : (.tuple [.int 1, .int 1] : D) = fr 1 := rfl
theorem fr_zero : (.tuple [.int 0, .int 1] : D) = fr 0 := rfl
theorem fr_m1 : (.tuple [.int (-1), .int 1] : D) = fr (-1) := rfl
section
variable {c : Cn} {G : Gm} {P : D → Prop}
theorem ix_fr0 {q : Rat} (p : P (.int q.num)) : K2 c G (rIx c.K) (fr q) (.int 0) P := k2_ix (xs := [.int q.num, .int q.den]) (.inr rfl) rfl p
theorem ix_fr1 {q : Rat} (p : P (.int q.den)) : K2 c G (rIx c.K) (fr q) (.int 1) P := k2_ix (xs := [.int q.num, .int q.den]) (.inr rfl) rfl p
theorem k2_eqI {a b : Int} (p : P (.bool (decide (a = b)))) : K2 c G (rEqD c.K) (.int a) (.int b) P := k2_eq shp_int shp_int (eqv_int ▸ p)
theorem k2_neI {a b : Int} (p : P (.bool (!decide (a = b)))) : K2 c G (rNeD c.K) (.int a) (.int b) P := k2_ne shp_int shp_int (eqv_int ▸ p)
theorem k2_eqF {a b : Rat} (p : P (.bool (decide (a = b)))) : K2 c G (rEqD c.K) (fr a) (fr b) P := k2_eq shp_fr shp_fr (eqv_fr ▸ p)
theorem k2_eqF2 {a b d e : Rat} (p : P (.bool (decide (a = d ∧ b = e)))) : K2 c G (rEqD c.K) (.tuple [fr a, fr b]) (.tuple [fr d, fr e]) P := k2_eq shp_fr2 shp_fr2 (eqv_fr2 ▸ p)
theorem k2_eqS {a b : Str} (h1 : PyData.strOk a = true) (h2 : PyData.strOk b = true) (p : P (.bool (a == b))) : K2 c G (rEqD c.K) (.str a) (.str b) P := k2_eq (shp_str h1) (shp_str h2) (eqv_str ▸ p)
theorem k2_neS {a b : Str} (h1 : PyData.strOk a = true) (h2 : PyData.strOk b = true) (p : P (.bool (!(a == b)))) : K2 c G (rNeD c.K) (.str a) (.str b) P := k2_ne (shp_str h1) (shp_str h2) (eqv_str ▸ p)
theorem k2_neB {a b : Bool} (p : P (.bool (!(a == b)))) : K2 c G (rNeD c.K) (.bool a) (.bool b) P := k2_ne shp_bool shp_bool (eqv_bool ▸ p)
/-! tuples that are fractions -/
variable {Q : List D → Prop}
theorem tup_one (p : Q [.int (1 : Rat).num, .int ((1 : Rat).den : Nat)]) : ∃ ds, dat [.d (.int 1), .d (.int 1)] = some ds ∧ ds.length ≤ 100000 ∧ Q ds := ⟨_, rfl, by decide, p⟩
theorem tup_zero (p : Q [.int (0 : Rat).num, .int ((0 : Rat).den : Nat)]) : ∃ ds, dat [.d (.int 0), .d (.int 1)] = some ds ∧ ds.length ≤ 100000 ∧ Q ds := ⟨_, rfl, by decide, p⟩
theorem tup_m1 (p : Q [.int (-1 : Rat).num, .int ((-1 : Rat).den : Nat)]) : ∃ ds, dat [.d (.int (-1)), .d (.int 1)] = some ds ∧ ds.length ≤ 100000 ∧ Q ds := ⟨_, rfl, by decide, p⟩
theorem tup_neg {q : Rat} (p : Q [.int (-q).num, .int ((-q).den : Nat)]) : ∃ ds, dat [.d (.int (-q.num)), .d (.int q.den)] = some ds ∧ ds.length ≤ 100000 ∧ Q ds := ⟨_, rfl, by simp, by
  rw [Rat.neg_num, Rat.neg_den] at p; exact p⟩
theorem tup_any {as : List AV} {ds : List D} (h : dat as = some ds) (l : ds.length ≤ 100000) (p : Q ds) : ∃ ds, dat as = some ds ∧ ds.length ≤ 100000 ∧ Q ds := ⟨_, h, l, p⟩
theorem bool_any {b : Bool} {PB : Bool → Prop} (p : PB b) : ∃ k, PyData.bool b = .bool k ∧ PB k := ⟨_, rfl, p⟩
theorem fr_any {q : Rat} {PB : Rat → Prop} (p : PB q) : ∃ k, fr q = fr k ∧ PB k := ⟨_, rfl, p⟩
theorem int_any {b : Int} {PB : Int → Prop} (p : PB b) : ∃ k, PyData.int b = .int k ∧ PB k := ⟨_, rfl, p⟩
theorem Sz.nb {n : Nat} {q : Rat} (h : Sz n q) (l : n ≤ 9000) : Bi 9000 q.num := h.1.mono l
theorem Sz.db {n : Nat} {q : Rat} (h : Sz n q) (l : n ≤ 9000) : Bi 9000 q.den := h.2.mono l
theorem den_mul_ne {p q : Rat} : (p.den : Int) * q.den ≠ 0 := Int.mul_ne_zero (den_ne p) (den_ne q)
theorem fr_num_den {a : Int} {q : Rat} (h1 : q.num = a) (h2 : q.den = 1) : (.tuple [.int a, .int 1] : D) = fr q := by unfold fr; rw [h1, h2]; rfl
theorem and_r {A B : Prop} (a : A) (b : B) : A ∧ B := ⟨a, b⟩
theorem tt_split {A B : Prop} (a : A) : (true = true → A) ∧ (true = false → B) := ⟨fun _ => a, fun h => nomatch h⟩
theorem ff_split {A B : Prop} (b : B) : (false = true → A) ∧ (false = false → B) := ⟨fun h => (nomatch h), fun _ => b⟩
theorem tf_split {b : Bool} {A B : Prop} (h : b = true) (a : A) : (b = true → A) ∧ (b = false → B) := ⟨fun _ => a, fun h2 => by rw [h] at h2; cases h2⟩
theorem ft_split {b : Bool} {A B : Prop} (h : b = false) (a : B) : (b = true → A) ∧ (b = false → B) := ⟨fun h2 => by (rw [h] at h2; cases h2), fun _ => a⟩
theorem sz_and {n : Nat} {q : Rat} {R : Prop} (h : Sz n q) (r : R) : Sz n q ∧ R := ⟨h, r⟩
theorem ne_and {q : Rat} {R : Prop} (h : q ≠ 0) (r : R) : q ≠ 0 ∧ R := ⟨h, r⟩
theorem eqD_and {x : D} {R : Prop} (r : R) : x = x ∧ R := ⟨rfl, r⟩
end
end DL
end
section
/-! comprehensions that map; rows and grids -/
namespace DL
open PySem L2
section
variable {c : Cn} {G : Gm} {te : TE} {tt : TT} {gt : TG} {vs : List Nat} {xs : List D} {P : List D → Prop}
/-- each item gives one that stands so to it -/
theorem compI_rel (R : Nat → D → D → Prop) (hn : xs.length ≤ 100000) (h : ∀ (n : Nat) (x : D), xs[n]? = some x → EvGw c gt (G.wipe vs) vs x fun G2 => EvP c te G2 fun y => R n x y)
    (p : ∀ ys : List D, ys.length = xs.length → (∀ (n : Nat) (x y : D), xs[n]? = some x → ys[n]? = some y → R n x y) → P ys) : CompI c gt tYes te vs xs G P := by
  refine ⟨fun n acc => acc.length = n ∧ n ≤ xs.length ∧ ∀ k x y, xs[k]? = some x → acc[k]? = some y → R k x y, ⟨rfl, Nat.zero_le _, fun k x y _ e => by simp at e⟩, ?_, ?_⟩
  · rintro n x acc hx ⟨rfl, hl, hr⟩
    have hlt : acc.length < xs.length := (List.getElem?_eq_some_iff.mp hx).1
    refine ⟨by omega, fun B g C H σ X I v r Q q => h _ x hx B g C H σ X I v r Q fun G' C' H' σ' p => q G' C' H' σ' (evt_yes ⟨fun _ => ?_, fun z => by cases z⟩)⟩
    refine ev_mono p fun y hy => ⟨by simp, hlt, fun k x' y' e1 e2 => ?_⟩
    by_cases hk : k < acc.length
    · rw [List.getElem?_append_left hk] at e2
      exact hr k x' y' e1 e2
    · rw [List.getElem?_append_right (by omega)] at e2
      have : k = acc.length := by
        have := (List.getElem?_eq_some_iff.mp e2).1
        simp at this
        omega
      subst this
      rw [hx] at e1
      simp at e1 e2
      subst e1 e2
      exact hy
  · rintro acc ⟨hl0, hl, hr⟩
    exact ⟨by omega, p acc hl0 hr⟩
/-- .. this one -/
theorem compI_map {ys : List D} (hl : ys.length = xs.length) (hn : xs.length ≤ 100000) (h : ∀ (n : Nat) (x y : D), xs[n]? = some x → ys[n]? = some y → EvGw c gt (G.wipe vs) vs x fun G2 => EvP c te G2 fun z => z = y) (p : P ys) : CompI c gt tYes te vs xs G P := by
  refine compI_rel (fun (n : Nat) (x z : D) => (ys[n]? : Option D) = some z) hn (fun n x hx => ?_) fun zs e1 e2 => ?_
  · have hlt : n < ys.length := by rw [hl]; exact (List.getElem?_eq_some_iff.mp hx).1
    intro B g C H σ X I v r Q q
    refine h n x _ hx (List.getElem?_eq_getElem hlt) B g C H σ X I v r Q fun G' C' H' σ' p => q G' C' H' σ' (ev_mono p fun z e => ?_)
    rw [e]
    exact List.getElem?_eq_getElem hlt
  · have : zs = ys := by
      apply List.ext_getElem?
      intro n
      by_cases hn : n < xs.length
      · have h1 : n < zs.length := by omega
        have := e2 n _ _ (List.getElem?_eq_getElem hn) (List.getElem?_eq_getElem h1)
        rw [List.getElem?_eq_getElem h1, this]
      · rw [List.getElem?_eq_none (by omega), List.getElem?_eq_none (by omega)]
    rw [this]
    exact p
end
theorem rowD_or {d : D} {xs : List D} (h : rowD d = some xs) : d = .list xs ∨ d = .tuple xs := by
  cases d with
  | list l => have e : some l = some xs := h; cases e; exact .inl rfl
  | tuple l => have e : some l = some xs := h; cases e; exact .inr rfl
  | _ => cases h
theorem rowD_seq {d : D} {xs : List D} (h : rowD d = some xs) : seqD d = some xs := by
  cases d with
  | list l => exact h
  | tuple l => exact h
  | _ => cases h
theorem rowD_len {d : D} {xs : List D} (h : rowD d = some xs) : dlen d = some xs.length := by
  rcases rowD_or h with rfl | rfl <;> rfl
theorem atI_n {xs : List D} {n : Nat} {x : D} (h : xs[n]? = some x) : atI xs (n : Int) = some x := by
  have hl := (List.getElem?_eq_some_iff.mp h).1
  unfold atI ixN
  rw [if_pos (by omega), if_pos (by omega)]
  simpa using h
theorem atI_int {xs : List D} {i : Int} {n : Nat} {x : D} (e : i = n) (h : xs[n]? = some x) : atI xs i = some x := e ▸ atI_n h
theorem ixN_nat' {n m : Nat} (h : m < n) : ixN n (m : Int) = some m := by
  unfold ixN
  rw [if_pos (by omega), if_pos (by omega)]
  simp
section
variable {c : Cn} {G : Gm} {P : D → Prop} {d : D} {xs : List D}
theorem ix_row {i : Int} {n : Nat} {x : D} (h : rowD d = some xs) (e : i = n) (hx : xs[n]? = some x) (p : P x) : K2 c G (rIx c.K) d (.int i) P := k2_ix (rowD_or h) (atI_int e hx) p
theorem kc_lenR (h : rowD d = some xs) (p : P (.int xs.length)) : KC c G (rLenB c.K) [.d d] P := kc_len (rowD_len h) p
end
/-- a grid: rows, each a list or a tuple, as many and as long as told, with these items -/
def Grid {α : Type} (f : α → D) (d : D) (up ac : Nat) (T : Nat → Nat → α) : Prop :=
  ∃ rs, rowD d = some rs ∧ rs.length = up ∧ ∀ j, j < up → ∃ r xs, rs[j]? = some r ∧ rowD r = some xs ∧ xs.length = ac ∧ ∀ i, i < ac → xs[i]? = some (f (T j i))
theorem Grid.lists {α : Type} {f : α → D} {up ac : Nat} {T : Nat → Nat → α} : Grid f (.list ((List.range up).map fun j => .list ((List.range ac).map fun i => f (T j i)))) up ac T :=
  ⟨_, rfl, by simp, fun j hj => ⟨_, _, by rw [List.getElem?_map, List.getElem?_range hj]; rfl, rfl, by simp, fun i hi => by rw [List.getElem?_map, List.getElem?_range hi]; rfl⟩⟩
section
variable {c : Cn} {t : TS} {E : DE}
theorem sat_coolpop {sl : List SV} {hot : List HV} {xs : List D} (q : SatS c t ⟨sl.map (SV.cool hot.length (.list xs)), hot⟩ E) : SatS c t ⟨sl, hot ++ [.lst xs]⟩ E := by
  refine sat_cool hot.length (xs := xs) (by simp) ?_
  have e : Gm.cool ⟨sl, hot ++ [.lst xs]⟩ hot.length (.list xs) = ⟨sl.map (SV.cool hot.length (.list xs)), hot ++ [.off]⟩ := by
    unfold Gm.cool
    simp
  rw [e]
  refine sat_pop (fun s hs => ?_) q
  obtain ⟨s0, _, rfl⟩ := List.mem_map.mp hs
  cases s0 with
  | hot j =>
    show (if j = hot.length then SV.d (.list xs) else SV.hot j) ≠ .hot hot.length
    by_cases z : j = hot.length
    · rw [if_pos z]; intro y; cases y
    · rw [if_neg z]; intro y; cases y; exact z rfl
  | _ => intro y; cases y
end
section
variable {c : Cn} {G : Gm} {t u : TS} {E : DE}
theorem sat_join (J : Gm → Prop) (h1 : SatS c t G { E with nx := J }) (h2 : ∀ G', J G' → SatS c u G' E) : SatS c (tSeq t u) G E :=
  sat_seq (sat_mono h1 h2 (fun _ p => p) (fun _ p => p) (fun _ p => p))
end
end DL
end
section
namespace X85
open PySem L2 DL
local macro_rules | `(tactic| walk_at "bi") => `(tactic| first
  | assumption
  | exact Sz.nb (by assumption) (by decide) | exact Sz.db (by assumption) (by decide)
  | (unfold Bi; decide))
local macro_rules | `(tactic| walk_at "sz0") => `(tactic| first
  | assumption
  | exact Sz.one | exact Sz.zero
  | ((apply Sz.neg); (· walk_at "sz0"))
  | ((apply Sz.mul); (· walk_at "sz0"); (· walk_at "sz0"))
  | ((apply Sz.add); (· walk_at "sz0"); (· walk_at "sz0"))
  | ((apply Sz.sub); (· walk_at "sz0"); (· walk_at "sz0"))
  | ((apply Sz.div); (· walk_at "sz0"); (· walk_at "sz0"); (· assumption)))
local macro_rules | `(tactic| walk_at "sz") => `(tactic| first | assumption | ((apply Sz.mono); (· walk_at "sz0"); (· decide)))
local macro_rules | `(tactic| walk_at "d1") => `(tactic| first
  | with_reducible refine sat_seq ?_ | with_reducible refine sat_if ?_ | with_reducible refine sat_ret ?_ | with_reducible refine sat_retN ?_ | with_reducible refine sat_next ?_ | with_reducible refine sat_par ?_
  | with_reducible refine sat_asgHot (el_lst (ea_nil ⟨_, rfl, Nat.le_of_ble_eq_true rfl, ?_⟩))
  | with_reducible refine sat_asg ?_ | with_reducible refine sat_asgG ?_ | with_reducible refine eg_tup4 ?_ | with_reducible refine eg_tup2 ?_ | with_reducible refine eg_name ?_
  | with_reducible refine evt_of ?_ | with_reducible refine evt_B ?_ | with_reducible refine evt_and ?_ | with_reducible refine evt_or ?_ | with_reducible refine evt_not ?_ | with_reducible refine evt_yes ?_
  | ((with_reducible apply ev_var); · exact rfl)
  | with_reducible refine ev_int ?_ | with_reducible refine ev_str ?_ | with_reducible refine ev_bl ?_ | with_reducible refine ev_non ?_
  | refine ev_ixHot rfl rfl ?_ | refine ev_lenHot rfl rfl ?_
  | with_reducible refine ev_op ?_ | with_reducible refine ev_neg ?_ | with_reducible refine ev_and ?_ | with_reducible refine ev_or ?_ | with_reducible refine ev_not ?_ | with_reducible refine ev_if ?_ | with_reducible refine ev_chain ?_
  | with_reducible refine ev_tup ?_ | with_reducible refine ev_call ?_ | with_reducible refine ev_callS ?_ | with_reducible refine ev_callKS ?_
  | refine ev_isiT (ns := ["list", "tuple"]) (by decide) ?_
  | with_reducible refine ev_cb ?_
  | with_reducible refine ea_nil ?_ | refine ea_val (v := .ty _) ?_ | ((with_reducible apply ea_st); · exact rfl) | with_reducible refine ea_cons ?_
  | refine ev_int ?_
  | refine ix_fr0 ?_ | refine ix_fr1 ?_ | refine k2_ix (.inl rfl) rfl ?_ | refine k2_ix (.inr rfl) rfl ?_
  | refine k2_mul (bi_mulOk (n := 9000) (m := 9000) (by walk_at "bi") (by walk_at "bi") (by decide)) ?_
  | refine k2_add ?_
  | refine k2_eqI ?_ | refine k2_neI ?_ | refine k2_eqF ?_ | refine k2_eqF2 ?_ | refine k2_neB ?_ | refine k2_is ?_ | refine k2_isnot ?_ | refine k2_isB ?_
  | refine k2_IB ?_ | refine k2_II ?_
  | refine kc_abs ?_ | refine kc_intI ?_ | refine kc_isi rfl ?_ | refine kc_len rfl ?_ | refine kc_all ?_
  | refine tup_one ?_ | refine tup_zero ?_ | refine tup_m1 ?_ | refine tup_neg ?_ | refine tup_any rfl (Nat.le_of_ble_eq_true rfl) ?_
  | refine tt_split ?_ | refine ff_split ?_
  | refine bool_any ?_ | refine int_any ?_ | refine ⟨_, _, rfl, ?_⟩
  | ((refine cD1 ?_); (try dsimp only)) | ((refine cD2 ?_); (try dsimp only)) | ((refine cD3 ?_); (try dsimp only)) | ((refine cD4 ?_); (try dsimp only)) | ((refine cS0 ?_); (try dsimp only)) | ((refine cS1 ?_); (try dsimp only)) | ((refine cS2 ?_); (try dsimp only)) | ((refine cS3 ?_); (try dsimp only))
  | refine sz_and (by walk_at "sz") ?_)
local macro_rules | `(tactic| walk_at "dl") => `(tactic| repeat (walk_at "d1"))

abbrev N_is_integer : List Str := ["thing"]
theorem sc_is_integer : FnScope N_is_integer ["thing"] (defScope s_is_integer) := ⟨rfl, rfl, rfl, by decide +kernel, rfl, by decide +kernel, by decide +kernel⟩
abbrev N_is_row : List Str := ["thing"]
theorem sc_is_row : FnScope N_is_row ["thing"] (defScope s_is_row) := ⟨rfl, rfl, rfl, by decide +kernel, rfl, by decide +kernel, by decide +kernel⟩
abbrev N_common_part : List Str := ["one", "other"]
theorem sc_common_part : FnScope N_common_part ["one", "other"] (defScope s_common_part) := ⟨rfl, rfl, rfl, by decide +kernel, rfl, by decide +kernel, by decide +kernel⟩
abbrev N_opposite : List Str := ["one"]
theorem sc_opposite : FnScope N_opposite ["one"] (defScope s_opposite) := ⟨rfl, rfl, rfl, by decide +kernel, rfl, by decide +kernel, by decide +kernel⟩
abbrev N_cell_corners : List Str := ["table", "i", "j"]
theorem sc_cell_corners : FnScope N_cell_corners ["table", "i", "j"] (defScope s_cell_corners) := ⟨rfl, rfl, rfl, by decide +kernel, rfl, by decide +kernel, by decide +kernel⟩
abbrev N_cells_of : List Str := ["table", "j", "i"]
theorem sc_cells_of : FnScope N_cells_of ["table"] (defScope s_cells_of) := ⟨rfl, rfl, rfl, by decide +kernel, rfl, by decide +kernel, by decide +kernel⟩
abbrev N__law_mixed : List Str := ["cell", "k", "number"]
theorem sc__law_mixed : FnScope N__law_mixed ["cell", "k"] (defScope s__law_mixed) := ⟨rfl, rfl, rfl, by decide +kernel, rfl, by decide +kernel, by decide +kernel⟩
abbrev N__law_great : List Str := ["cells", "place"]
theorem sc__law_great : FnScope N__law_great ["cells", "place"] (defScope s__law_great) := ⟨rfl, rfl, rfl, by decide +kernel, rfl, by decide +kernel, by decide +kernel⟩
abbrev N__law_low : List Str := ["top", "bottom", "one", "other"]
theorem sc__law_low : FnScope N__law_low ["top", "bottom"] (defScope s__law_low) := ⟨rfl, rfl, rfl, by decide +kernel, rfl, by decide +kernel, by decide +kernel⟩
abbrev N__law_neg : List Str := ["one"]
theorem sc__law_neg : FnScope N__law_neg ["one"] (defScope s__law_neg) := ⟨rfl, rfl, rfl, by decide +kernel, rfl, by decide +kernel, by decide +kernel⟩
abbrev N__law_quads : List Str := ["table", "found", "j", "i"]
theorem sc__law_quads : FnScope N__law_quads ["table"] (defScope s__law_quads) := ⟨rfl, rfl, rfl, by decide +kernel, rfl, by decide +kernel, by decide +kernel⟩
abbrev N__law_is_wish : List Str := ["thing", "across", "up", "row", "item"]
theorem sc__law_is_wish : FnScope N__law_is_wish ["thing", "across", "up"] (defScope s__law_is_wish) := ⟨rfl, rfl, rfl, by decide +kernel, rfl, by decide +kernel, by decide +kernel⟩
abbrev N_lowest : List Str := ["top", "bottom", "part"]
theorem sc_lowest : FnScope N_lowest ["top", "bottom"] (defScope s_lowest) := ⟨rfl, rfl, rfl, by decide +kernel, rfl, by decide +kernel, by decide +kernel⟩
abbrev N_is_fraction : List Str := ["thing"]
theorem sc_is_fraction : FnScope N_is_fraction ["thing"] (defScope s_is_fraction) := ⟨rfl, rfl, rfl, by decide +kernel, rfl, by decide +kernel, by decide +kernel⟩
abbrev N_first_line : List Str := ["fraction"]
theorem sc_first_line : FnScope N_first_line ["fraction"] (defScope s_first_line) := ⟨rfl, rfl, rfl, by decide +kernel, rfl, by decide +kernel, by decide +kernel⟩
abbrev N_second_line : List Str := ["fraction"]
theorem sc_second_line : FnScope N_second_line ["fraction"] (defScope s_second_line) := ⟨rfl, rfl, rfl, by decide +kernel, rfl, by decide +kernel, by decide +kernel⟩
abbrev N_is_wish : List Str := ["thing", "columns", "rows", "row", "item"]
theorem sc_is_wish : FnScope N_is_wish ["thing", "columns", "rows"] (defScope s_is_wish) := ⟨rfl, rfl, rfl, by decide +kernel, rfl, by decide +kernel, by decide +kernel⟩
abbrev N__law_stream : List Str := ["script", "cells"]
theorem sc__law_stream : FnScope N__law_stream ["script"] (defScope s__law_stream) := ⟨rfl, rfl, rfl, by decide +kernel, rfl, by decide +kernel, by decide +kernel⟩
abbrev N__law_take : List Str := ["stream", "many", "cells", "place", "digit"]
theorem sc__law_take : FnScope N__law_take ["stream", "many"] (defScope s__law_take) := ⟨rfl, rfl, rfl, by decide +kernel, rfl, by decide +kernel, by decide +kernel⟩
abbrev N__law_add : List Str := ["one", "other"]
theorem sc__law_add : FnScope N__law_add ["one", "other"] (defScope s__law_add) := ⟨rfl, rfl, rfl, by decide +kernel, rfl, by decide +kernel, by decide +kernel⟩
abbrev N__law_sub : List Str := ["one", "other"]
theorem sc__law_sub : FnScope N__law_sub ["one", "other"] (defScope s__law_sub) := ⟨rfl, rfl, rfl, by decide +kernel, rfl, by decide +kernel, by decide +kernel⟩
abbrev N__law_mul : List Str := ["one", "other"]
theorem sc__law_mul : FnScope N__law_mul ["one", "other"] (defScope s__law_mul) := ⟨rfl, rfl, rfl, by decide +kernel, rfl, by decide +kernel, by decide +kernel⟩
abbrev N__law_div : List Str := ["one", "other"]
theorem sc__law_div : FnScope N__law_div ["one", "other"] (defScope s__law_div) := ⟨rfl, rfl, rfl, by decide +kernel, rfl, by decide +kernel, by decide +kernel⟩
abbrev N__law_ray : List Str := ["slope", "top", "bottom"]
theorem sc__law_ray : FnScope N__law_ray ["slope"] (defScope s__law_ray) := ⟨rfl, rfl, rfl, by decide +kernel, rfl, by decide +kernel, by decide +kernel⟩
abbrev N__law_is_fraction : List Str := ["thing", "item"]
theorem sc__law_is_fraction : FnScope N__law_is_fraction ["thing"] (defScope s__law_is_fraction) := ⟨rfl, rfl, rfl, by decide +kernel, rfl, by decide +kernel, by decide +kernel⟩
abbrev N_plus : List Str := ["one", "other"]
theorem sc_plus : FnScope N_plus ["one", "other"] (defScope s_plus) := ⟨rfl, rfl, rfl, by decide +kernel, rfl, by decide +kernel, by decide +kernel⟩
abbrev N_product : List Str := ["one", "other"]
theorem sc_product : FnScope N_product ["one", "other"] (defScope s_product) := ⟨rfl, rfl, rfl, by decide +kernel, rfl, by decide +kernel, by decide +kernel⟩
abbrev N_divided : List Str := ["one", "other"]
theorem sc_divided : FnScope N_divided ["one", "other"] (defScope s_divided) := ⟨rfl, rfl, rfl, by decide +kernel, rfl, by decide +kernel, by decide +kernel⟩
abbrev N_is_angles : List Str := ["thing"]
theorem sc_is_angles : FnScope N_is_angles ["thing"] (defScope s_is_angles) := ⟨rfl, rfl, rfl, by decide +kernel, rfl, by decide +kernel, by decide +kernel⟩
abbrev N__law_times : List Str := ["step", "factor"]
theorem sc__law_times : FnScope N__law_times ["step", "factor"] (defScope s__law_times) := ⟨rfl, rfl, rfl, by decide +kernel, rfl, by decide +kernel, by decide +kernel⟩
abbrev N__law_cross : List Str := ["one", "other"]
theorem sc__law_cross : FnScope N__law_cross ["one", "other"] (defScope s__law_cross) := ⟨rfl, rfl, rfl, by decide +kernel, rfl, by decide +kernel, by decide +kernel⟩
abbrev N__law_dot : List Str := ["one", "other"]
theorem sc__law_dot : FnScope N__law_dot ["one", "other"] (defScope s__law_dot) := ⟨rfl, rfl, rfl, by decide +kernel, rfl, by decide +kernel, by decide +kernel⟩
abbrev N__law_turn : List Str := ["one", "other", "first"]
theorem sc__law_turn : FnScope N__law_turn ["one", "other"] (defScope s__law_turn) := ⟨rfl, rfl, rfl, by decide +kernel, rfl, by decide +kernel, by decide +kernel⟩
abbrev N__law_slope : List Str := ["stream", "most", "top"]
theorem sc__law_slope : FnScope N__law_slope ["stream", "most"] (defScope s__law_slope) := ⟨rfl, rfl, rfl, by decide +kernel, rfl, by decide +kernel, by decide +kernel⟩
abbrev N__law_fraction_pair : List Str := ["first", "second", "both", "one"]
theorem sc__law_fraction_pair : FnScope N__law_fraction_pair ["first", "second"] (defScope s__law_fraction_pair) := ⟨rfl, rfl, rfl, by decide +kernel, rfl, by decide +kernel, by decide +kernel⟩
abbrev N__law_leaning : List Str := ["stream", "bottom", "wide"]
theorem sc__law_leaning : FnScope N__law_leaning ["stream", "bottom"] (defScope s__law_leaning) := ⟨rfl, rfl, rfl, by decide +kernel, rfl, by decide +kernel, by decide +kernel⟩
abbrev N__law_wish : List Str := ["stream", "across", "up", "mode", "row", "i", "wish", "j"]
theorem sc__law_wish : FnScope N__law_wish ["stream", "across", "up"] (defScope s__law_wish) := ⟨rfl, rfl, rfl, by decide +kernel, rfl, by decide +kernel, by decide +kernel⟩
abbrev N__law_as_rows : List Str := ["stream", "table", "row"]
theorem sc__law_as_rows : FnScope N__law_as_rows ["stream", "table"] (defScope s__law_as_rows) := ⟨rfl, rfl, rfl, by decide +kernel, rfl, by decide +kernel, by decide +kernel⟩
abbrev N__law_is_slant : List Str := ["thing"]
theorem sc__law_is_slant : FnScope N__law_is_slant ["thing"] (defScope s__law_is_slant) := ⟨rfl, rfl, rfl, by decide +kernel, rfl, by decide +kernel, by decide +kernel⟩
abbrev N__law_spoiled_table : List Str := ["stream", "table", "rows", "row", "j", "i", "side", "mode", "item", "pick", "pair", "k"]
theorem sc__law_spoiled_table : FnScope N__law_spoiled_table ["stream", "table"] (defScope s__law_spoiled_table) := ⟨rfl, rfl, rfl, by decide +kernel, rfl, by decide +kernel, by decide +kernel⟩
abbrev N__law_spoiled_wish : List Str := ["stream", "wish", "rows", "row", "j", "i", "mode", "pick"]
theorem sc__law_spoiled_wish : FnScope N__law_spoiled_wish ["stream", "wish"] (defScope s__law_spoiled_wish) := ⟨rfl, rfl, rfl, by decide +kernel, rfl, by decide +kernel, by decide +kernel⟩
abbrev N_minus : List Str := ["one", "other"]
theorem sc_minus : FnScope N_minus ["one", "other"] (defScope s_minus) := ⟨rfl, rfl, rfl, by decide +kernel, rfl, by decide +kernel, by decide +kernel⟩
abbrev N_is_angle_row : List Str := ["thing", "item"]
theorem sc_is_angle_row : FnScope N_is_angle_row ["thing"] (defScope s_is_angle_row) := ⟨rfl, rfl, rfl, by decide +kernel, rfl, by decide +kernel, by decide +kernel⟩
abbrev N__law_back : List Str := ["step"]
theorem sc__law_back : FnScope N__law_back ["step"] (defScope s__law_back) := ⟨rfl, rfl, rfl, by decide +kernel, rfl, by decide +kernel, by decide +kernel⟩
abbrev N__law_half : List Str := ["one", "other"]
theorem sc__law_half : FnScope N__law_half ["one", "other"] (defScope s__law_half) := ⟨rfl, rfl, rfl, by decide +kernel, rfl, by decide +kernel, by decide +kernel⟩
abbrev N__law_pair : List Str := ["stream", "most"]
theorem sc__law_pair : FnScope N__law_pair ["stream"] (defScope s__law_pair) := ⟨rfl, rfl, rfl, by decide +kernel, rfl, by decide +kernel, by decide +kernel⟩
abbrev N__law_new_slope : List Str := ["first", "second", "third", "one", "both"]
theorem sc__law_new_slope : FnScope N__law_new_slope ["first", "second", "third"] (defScope s__law_new_slope) := ⟨rfl, rfl, rfl, by decide +kernel, rfl, by decide +kernel, by decide +kernel⟩
abbrev N__law_mill : List Str := ["stream", "arms", "k", "first", "second", "sharp", "tip", "flat", "free", "one", "table", "row"]
theorem sc__law_mill : FnScope N__law_mill ["stream"] (defScope s__law_mill) := ⟨rfl, rfl, rfl, by decide +kernel, rfl, by decide +kernel, by decide +kernel⟩
abbrev N__law_closed : List Str := ["quad", "one"]
theorem sc__law_closed : FnScope N__law_closed ["quad"] (defScope s__law_closed) := ⟨rfl, rfl, rfl, by decide +kernel, rfl, by decide +kernel, by decide +kernel⟩
abbrev N__law_four : List Str := ["pair", "line", "told"]
theorem sc__law_four : FnScope N__law_four ["pair", "line"] (defScope s__law_four) := ⟨rfl, rfl, rfl, by decide +kernel, rfl, by decide +kernel, by decide +kernel⟩
abbrev N__law_is_table : List Str := ["thing", "row", "item"]
theorem sc__law_is_table : FnScope N__law_is_table ["thing"] (defScope s__law_is_table) := ⟨rfl, rfl, rfl, by decide +kernel, rfl, by decide +kernel, by decide +kernel⟩
abbrev N__law_nudged : List Str := ["stream", "table", "rows", "row", "j", "i", "pair", "side"]
theorem sc__law_nudged : FnScope N__law_nudged ["stream", "table"] (defScope s__law_nudged) := ⟨rfl, rfl, rfl, by decide +kernel, rfl, by decide +kernel, by decide +kernel⟩
abbrev N_is_table : List Str := ["thing", "row"]
theorem sc_is_table : FnScope N_is_table ["thing"] (defScope s_is_table) := ⟨rfl, rfl, rfl, by decide +kernel, rfl, by decide +kernel, by decide +kernel⟩
abbrev N_cell_closes : List Str := ["corners", "south_west", "south_east", "north_east", "north_west", "left", "right", "across"]
theorem sc_cell_closes : FnScope N_cell_closes ["corners"] (defScope s_cell_closes) := ⟨rfl, rfl, rfl, by decide +kernel, rfl, by decide +kernel, by decide +kernel⟩
abbrev N_pair_fractions : List Str := ["pair", "u", "v", "both"]
theorem sc_pair_fractions : FnScope N_pair_fractions ["pair"] (defScope s_pair_fractions) := ⟨rfl, rfl, rfl, by decide +kernel, rfl, by decide +kernel, by decide +kernel⟩
abbrev N__law_directions : List Str := ["stream", "across", "up", "bottom", "leans", "i", "columns", "column", "j", "both"]
theorem sc__law_directions : FnScope N__law_directions ["stream", "across", "up", "bottom"] (defScope s__law_directions) := ⟨rfl, rfl, rfl, by decide +kernel, rfl, by decide +kernel, by decide +kernel⟩
abbrev N__law_level_table : List Str := ["leans", "columns", "table", "j", "row", "i", "upward"]
theorem sc__law_level_table : FnScope N__law_level_table ["leans", "columns"] (defScope s__law_level_table) := ⟨rfl, rfl, rfl, by decide +kernel, rfl, by decide +kernel, by decide +kernel⟩
abbrev N__law_free_table : List Str := ["stream", "across", "up", "table", "i", "j", "row", "below", "first", "second", "found", "turn"]
theorem sc__law_free_table : FnScope N__law_free_table ["stream", "across", "up"] (defScope s__law_free_table) := ⟨rfl, rfl, rfl, by decide +kernel, rfl, by decide +kernel, by decide +kernel⟩
abbrev N__law_all_closed : List Str := ["table", "quad"]
theorem sc__law_all_closed : FnScope N__law_all_closed ["table"] (defScope s__law_all_closed) := ⟨rfl, rfl, rfl, by decide +kernel, rfl, by decide +kernel, by decide +kernel⟩
abbrev N__law_rounds : List Str := ["quad", "lines", "fours", "k", "top"]
theorem sc__law_rounds : FnScope N__law_rounds ["quad", "lines"] (defScope s__law_rounds) := ⟨rfl, rfl, rfl, by decide +kernel, rfl, by decide +kernel, by decide +kernel⟩
abbrev N_check_table : List Str := ["table"]
theorem sc_check_table : FnScope N_check_table ["table"] (defScope s_check_table) := ⟨rfl, rfl, rfl, by decide +kernel, rfl, by decide +kernel, by decide +kernel⟩
abbrev N_all_close : List Str := ["table", "i", "j"]
theorem sc_all_close : FnScope N_all_close ["table"] (defScope s_all_close) := ⟨rfl, rfl, rfl, by decide +kernel, rfl, by decide +kernel, by decide +kernel⟩
abbrev N_told_line : List Str := ["pair", "line", "fractions"]
theorem sc_told_line : FnScope N_told_line ["pair", "line"] (defScope s_told_line) := ⟨rfl, rfl, rfl, by decide +kernel, rfl, by decide +kernel, by decide +kernel⟩
abbrev N_told_fraction : List Str := ["pair", "line"]
theorem sc_told_fraction : FnScope N_told_fraction ["pair", "line"] (defScope s_told_fraction) := ⟨rfl, rfl, rfl, by decide +kernel, rfl, by decide +kernel, by decide +kernel⟩
abbrev N__law_table : List Str := ["stream", "most", "kind", "across", "up", "leans", "columns"]
theorem sc__law_table : FnScope N__law_table ["stream", "most"] (defScope s__law_table) := ⟨rfl, rfl, rfl, by decide +kernel, rfl, by decide +kernel, by decide +kernel⟩
abbrev N__law_kept : List Str := ["table", "wish", "j", "i", "quads", "lines", "k"]
theorem sc__law_kept : FnScope N__law_kept ["table", "wish"] (defScope s__law_kept) := ⟨rfl, rfl, rfl, by decide +kernel, rfl, by decide +kernel, by decide +kernel⟩
abbrev N_fits_together : List Str := ["table"]
theorem sc_fits_together : FnScope N_fits_together ["table"] (defScope s_fits_together) := ⟨rfl, rfl, rfl, by decide +kernel, rfl, by decide +kernel, by decide +kernel⟩
abbrev N_quotient_of : List Str := ["pair", "line", "later", "ahead", "four"]
theorem sc_quotient_of : FnScope N_quotient_of ["pair", "line", "later", "ahead"] (defScope s_quotient_of) := ⟨rfl, rfl, rfl, by decide +kernel, rfl, by decide +kernel, by decide +kernel⟩
abbrev N__law_is_right : List Str := ["table", "wish", "told", "word"]
theorem sc__law_is_right : FnScope N__law_is_right ["table", "wish", "told", "word"] (defScope s__law_is_right) := ⟨rfl, rfl, rfl, by decide +kernel, rfl, by decide +kernel, by decide +kernel⟩
abbrev N_three_product : List Str := ["corners", "lines", "total"]
theorem sc_three_product : FnScope N_three_product ["corners", "lines"] (defScope s_three_product) := ⟨rfl, rfl, rfl, by decide +kernel, rfl, by decide +kernel, by decide +kernel⟩
abbrev N__law_fitting_told : List Str := ["table", "told", "refused"]
theorem sc__law_fitting_told : FnScope N__law_fitting_told ["table"] (defScope s__law_fitting_told) := ⟨rfl, rfl, rfl, by decide +kernel, rfl, by decide +kernel, by decide +kernel⟩
abbrev N_cell_comes_out : List Str := ["corners", "lines", "total"]
theorem sc_cell_comes_out : FnScope N_cell_comes_out ["corners", "lines"] (defScope s_cell_comes_out) := ⟨rfl, rfl, rfl, by decide +kernel, rfl, by decide +kernel, by decide +kernel⟩
abbrev N_is_fulfilled : List Str := ["table", "wish", "row", "lines", "pair", "line", "i", "j"]
theorem sc_is_fulfilled : FnScope N_is_fulfilled ["table", "wish"] (defScope s_is_fulfilled) := ⟨rfl, rfl, rfl, by decide +kernel, rfl, by decide +kernel, by decide +kernel⟩
abbrev N_fulfils : List Str := ["table", "wish"]
theorem sc_fulfils : FnScope N_fulfils ["table", "wish"] (defScope s_fulfils) := ⟨rfl, rfl, rfl, by decide +kernel, rfl, by decide +kernel, by decide +kernel⟩
abbrev N__law_fulfilled_told : List Str := ["table", "wish", "told", "word"]
theorem sc__law_fulfilled_told : FnScope N__law_fulfilled_told ["table", "wish"] (defScope s__law_fulfilled_told) := ⟨rfl, rfl, rfl, by decide +kernel, rfl, by decide +kernel, by decide +kernel⟩
abbrev N_law : List Str := ["script", "stream", "nudged", "table", "across", "up", "told", "refused", "wish", "turn", "handed", "word", "row", "strange", "odd"]
theorem sc_law : FnScope N_law ["script"] (defScope s_law) := ⟨rfl, rfl, rfl, by decide +kernel, rfl, by decide +kernel, by decide +kernel⟩
def kv_BOTH (K : PySem.W.Frag) : V := .ref (He.ga K "BOTH")
def kv_EAST (K : PySem.W.Frag) : V := .int 0
def kv_MOST_WIDE (K : PySem.W.Frag) : V := .int 4
def kv_NORTH (K : PySem.W.Frag) : V := .int 1
def kv_ONE (K : PySem.W.Frag) : V := .ref (He.ga K "ONE")
def kv_SOUTH (K : PySem.W.Frag) : V := .int 3
def kv_WEST (K : PySem.W.Frag) : V := .int 2
def kv_ZERO (K : PySem.W.Frag) : V := .ref (He.ga K "ZERO")
structure Txt (K : PySem.W.Frag) (mg : Str → Option Value) : Prop where
  n_abs : mg "abs" = none
  n_all : mg "all" = none
  n_bool : mg "bool" = none
  n_int : mg "int" = none
  n_isinstance : mg "isinstance" = none
  n_len : mg "len" = none
  n_list : mg "list" = none
  n_range : mg "range" = none
  n_tuple : mg "tuple" = none
  n_zip : mg "zip" = none
  k_BOTH : ∃ u, mg "BOTH" = some u ∧ RelV (kv_BOTH K) u
  z_BOTH : ∀ H, SqT K H (He.ga K "BOTH") [.int 1, .int 2]
  k_EAST : ∃ u, mg "EAST" = some u ∧ RelV (kv_EAST K) u
  k_MOST_WIDE : ∃ u, mg "MOST_WIDE" = some u ∧ RelV (kv_MOST_WIDE K) u
  k_NORTH : ∃ u, mg "NORTH" = some u ∧ RelV (kv_NORTH K) u
  k_ONE : ∃ u, mg "ONE" = some u ∧ RelV (kv_ONE K) u
  z_ONE : ∀ H, SqT K H (He.ga K "ONE") [.int 1, .int 1]
  k_SOUTH : ∃ u, mg "SOUTH" = some u ∧ RelV (kv_SOUTH K) u
  k_WEST : ∃ u, mg "WEST" = some u ∧ RelV (kv_WEST K) u
  k_ZERO : ∃ u, mg "ZERO" = some u ∧ RelV (kv_ZERO K) u
  z_ZERO : ∀ H, SqT K H (He.ga K "ZERO") [.int 0, .int 1]
  x_BadTable : Exc0 K mg "BadTable"
  x_BadWish : Exc0 K mg "BadWish"
  m_BadTable_BadTable : PySem.W.exmOne K (.ref (He.ga K "BadTable")) (.ref (He.ga K "BadTable")) = some true
  m_BadTable_BadWish : PySem.W.exmOne K (.ref (He.ga K "BadTable")) (.ref (He.ga K "BadWish")) = some false
  m_BadWish_BadTable : PySem.W.exmOne K (.ref (He.ga K "BadWish")) (.ref (He.ga K "BadTable")) = some false
  m_BadWish_BadWish : PySem.W.exmOne K (.ref (He.ga K "BadWish")) (.ref (He.ga K "BadWish")) = some true
end X85
end
section
namespace X85
open PySem L2 DL
local macro_rules | `(tactic| walk_at "bi") => `(tactic| first
  | assumption
  | exact Sz.nb (by assumption) (by decide) | exact Sz.db (by assumption) (by decide)
  | (unfold Bi; decide))
local macro_rules | `(tactic| walk_at "sz0") => `(tactic| first
  | assumption
  | exact Sz.one | exact Sz.zero
  | ((apply Sz.neg); (· walk_at "sz0"))
  | ((apply Sz.mul); (· walk_at "sz0"); (· walk_at "sz0"))
  | ((apply Sz.add); (· walk_at "sz0"); (· walk_at "sz0"))
  | ((apply Sz.sub); (· walk_at "sz0"); (· walk_at "sz0"))
  | ((apply Sz.div); (· walk_at "sz0"); (· walk_at "sz0"); (· assumption)))
local macro_rules | `(tactic| walk_at "sz") => `(tactic| first | assumption | ((apply Sz.mono); (· walk_at "sz0"); (· decide)))
local macro_rules | `(tactic| walk_at "d1") => `(tactic| first
  | with_reducible refine sat_seq ?_ | with_reducible refine sat_if ?_ | with_reducible refine sat_ret ?_ | with_reducible refine sat_retN ?_ | with_reducible refine sat_next ?_ | with_reducible refine sat_par ?_
  | with_reducible refine sat_asgHot (el_lst (ea_nil ⟨_, rfl, Nat.le_of_ble_eq_true rfl, ?_⟩))
  | with_reducible refine sat_asg ?_ | with_reducible refine sat_asgG ?_ | with_reducible refine eg_tup4 ?_ | with_reducible refine eg_tup2 ?_ | with_reducible refine eg_name ?_
  | with_reducible refine evt_of ?_ | with_reducible refine evt_B ?_ | with_reducible refine evt_and ?_ | with_reducible refine evt_or ?_ | with_reducible refine evt_not ?_ | with_reducible refine evt_yes ?_
  | ((with_reducible apply ev_var); · exact rfl)
  | with_reducible refine ev_int ?_ | with_reducible refine ev_str ?_ | with_reducible refine ev_bl ?_ | with_reducible refine ev_non ?_
  | refine ev_ixHot rfl rfl ?_ | refine ev_lenHot rfl rfl ?_
  | with_reducible refine ev_op ?_ | with_reducible refine ev_neg ?_ | with_reducible refine ev_and ?_ | with_reducible refine ev_or ?_ | with_reducible refine ev_not ?_ | with_reducible refine ev_if ?_ | with_reducible refine ev_chain ?_
  | with_reducible refine ev_tup ?_ | with_reducible refine ev_call ?_ | with_reducible refine ev_callS ?_ | with_reducible refine ev_callKS ?_
  | refine ev_isiT (ns := ["list", "tuple"]) (by decide) ?_
  | with_reducible refine ev_cb ?_
  | with_reducible refine ea_nil ?_ | refine ea_val (v := .ty _) ?_ | ((with_reducible apply ea_st); · exact rfl) | with_reducible refine ea_cons ?_
  | refine ev_int ?_
  | refine ix_fr0 ?_ | refine ix_fr1 ?_ | refine k2_ix (.inl rfl) rfl ?_ | refine k2_ix (.inr rfl) rfl ?_
  | refine k2_mul (bi_mulOk (n := 9000) (m := 9000) (by walk_at "bi") (by walk_at "bi") (by decide)) ?_
  | refine k2_add ?_
  | refine k2_eqI ?_ | refine k2_neI ?_ | refine k2_eqF ?_ | refine k2_eqF2 ?_ | refine k2_neB ?_ | refine k2_is ?_ | refine k2_isnot ?_ | refine k2_isB ?_
  | refine k2_IB ?_ | refine k2_II ?_
  | refine kc_abs ?_ | refine kc_intI ?_ | refine kc_isi rfl ?_ | refine kc_len rfl ?_ | refine kc_all ?_
  | refine tup_one ?_ | refine tup_zero ?_ | refine tup_m1 ?_ | refine tup_neg ?_ | refine tup_any rfl (Nat.le_of_ble_eq_true rfl) ?_
  | refine tt_split ?_ | refine ff_split ?_
  | refine bool_any ?_ | refine int_any ?_ | refine ⟨_, _, rfl, ?_⟩
  | ((refine cD1 ?_); (try dsimp only)) | ((refine cD2 ?_); (try dsimp only)) | ((refine cD3 ?_); (try dsimp only)) | ((refine cD4 ?_); (try dsimp only)) | ((refine cS0 ?_); (try dsimp only)) | ((refine cS1 ?_); (try dsimp only)) | ((refine cS2 ?_); (try dsimp only)) | ((refine cS3 ?_); (try dsimp only))
  | refine sz_and (by walk_at "sz") ?_)
local macro_rules | `(tactic| walk_at "dl") => `(tactic| repeat (walk_at "d1"))

def isIntD : D → Bool
  | .int _ => true
  | _ => false
def t_is_integer (K : PySem.W.Frag) (E : XK) : TS :=
  (tRet (tAndV (tCB (rIsi K) (tCons (tVar 0) (tCons (tC (.ty "int")) tNil))) (tNotV (tCB (rIsi K) (tCons (tVar 0) (tCons (tC (.ty "bool")) tNil))))))
def fs_is_integer (K : PySem.W.Frag) : FS := fsD1 fun x P _ => P (.bool (isIntD x))
theorem body_is_integer {K : PySem.W.Frag} {mg : Str → Option Value} (T : Txt K mg) (E : XK) : ∀ (as : List AV) (P : D → Prop) (PX : XD → Prop), fs_is_integer K as P PX → SatS (cn K E PX) (t_is_integer K E) (gin as 0) (den P) := bD1 fun x P PX q => by
  unfold t_is_integer
  cases x <;> (walk_at "dl"; exact q)
section
variable {P : Program} {w : World} {K : PySem.W.Frag} {mg : Str → Option Value} {base : Heap}
theorem ok_is_integer {fd : FuncData} (F : FnP K "is_integer" s_is_integer fd) (T : Txt K mg)  : FnOk P w K mg base (L2.CX P w) 1 (He.ga K "is_integer") fd ["thing"] (spF K (fs_is_integer K)) := by
  refine fn_ok (k := 0) F sc_is_integer len_D1 (by decide) (t_is_integer K) (fun cdv A outer s H E hr => ?_) (body_is_integer T)
  exact (pss_one (ps_ret (pe_and (pe_callB call_isi (by rfl) T.n_isinstance (by decide +kernel) (pa_cons (pv 0) (pa_cons (pe_bltn (v := .ty "int") (u := .type "int") rfl T.n_int (by decide +kernel) rfl) pa_nil))) (pe_one (pe_not (pe_callB call_isi (by rfl) T.n_isinstance (by decide +kernel) (pa_cons (pv 0) (pa_cons (pe_bltn (v := .ty "bool") (u := .type "bool") rfl T.n_bool (by decide +kernel) rfl) pa_nil))))))))
end
def t_is_row (K : PySem.W.Frag) (E : XK) : TS :=
  (tRet (tCB (rIsiT K) (tCons (tVar 0) (tCons (tTup (tCons (tC (.ty "list")) (tCons (tC (.ty "tuple")) tNil))) tNil))))
def fs_is_row (K : PySem.W.Frag) : FS := fsD1 fun x P _ => P (.bool (rowD x).isSome)
theorem body_is_row {K : PySem.W.Frag} {mg : Str → Option Value} (T : Txt K mg) (E : XK) : ∀ (as : List AV) (P : D → Prop) (PX : XD → Prop), fs_is_row K as P PX → SatS (cn K E PX) (t_is_row K E) (gin as 0) (den P) := bD1 fun x P PX q => by
  unfold t_is_row
  walk_at "dl"
  cases x <;> exact ⟨_, rfl, q⟩
section
variable {P : Program} {w : World} {K : PySem.W.Frag} {mg : Str → Option Value} {base : Heap}
theorem ok_is_row {fd : FuncData} (F : FnP K "is_row" s_is_row fd) (T : Txt K mg)  : FnOk P w K mg base (L2.CX P w) 1 (He.ga K "is_row") fd ["thing"] (spF K (fs_is_row K)) := by
  refine fn_ok (k := 0) F sc_is_row len_D1 (by decide) (t_is_row K) (fun cdv A outer s H E hr => ?_) (body_is_row T)
  exact (pss_one (ps_ret (pe_callB call_isiT (by rfl) T.n_isinstance (by decide +kernel) (pa_cons (pv 0) (pa_cons (pe_tup (pa_cons (pe_bltn (v := .ty "list") (u := .type "list") rfl T.n_list (by decide +kernel) rfl) (pa_cons (pe_bltn (v := .ty "tuple") (u := .type "tuple") rfl T.n_tuple (by decide +kernel) rfl) pa_nil))) pa_nil)))))
end
def t_common_part (K : PySem.W.Frag) (E : XK) : TS :=
  (tSeq (tAsg (tCB rAbsB (tCons (tVar 0) tNil)) (gName 0))
  (tSeq (tAsg (tCB rAbsB (tCons (tVar 1) tNil)) (gName 1))
  (tSeq (tWhile (tTest (tOp rGtI (tVar 1) (tC (.int 0)))) (tPar 0 1 (tCons (tVar 1) (tCons (tOp rModI (tVar 0) (tVar 1)) tNil))))
  (tRet (tVar 0)))))
def fs_common_part (K : PySem.W.Frag) : FS := fsD2 fun x y P _ => ∃ a b : Int, x = .int a ∧ y = .int b ∧ P (.int (gcdI a b))
theorem body_common_part {K : PySem.W.Frag} {mg : Str → Option Value} (T : Txt K mg) (E : XK) : ∀ (as : List AV) (P : D → Prop) (PX : XD → Prop), fs_common_part K as P PX → SatS (cn K E PX) (t_common_part K E) (gin as 0) (den P) := bD2 fun x y P PX q => by
  obtain ⟨a, b, rfl, rfl, p⟩ := q
  unfold t_common_part
  walk_at "dl"
  refine sat_while (I := fun m G' => ∃ u v : Int, 0 ≤ u ∧ 0 ≤ v ∧ v.toNat = m ∧ gcdI u v = gcdI a b ∧ G' = ⟨[.d (.int u), .d (.int v)], []⟩) ⟨_, _, ?_, ?_, rfl, ?_, rfl⟩ ?_
  · split <;> omega
  · split <;> omega
  · unfold gcdI; split <;> split <;> simp
  · rintro m G' ⟨u, v, hu, hv, hm, hg, rfl⟩
    walk_at "dl"
    refine ⟨fun h => ?_, fun h => ?_⟩
    · have hv0 : 0 < v := by simpa using h
      walk_at "dl"
      refine k2_C (R := fun _ j => j ≠ 0) (by omega) ?_
      walk_at "dl"
      refine ⟨_, ?_, _, _, hv, (fmod_le hv0).1, rfl, ?_, rfl⟩
      · have := fmod_le (a := u) hv0; omega
      · rw [gcd_fmod hu hv0]; exact hg
    · walk_at "dl"
      have hv0 : v = 0 := by
        have : ¬ 0 < v := by simpa using h
        omega
      subst hv0
      have : u = gcdI a b := by rw [← hg]; unfold gcdI; simp; omega
      rw [this]; exact p
section
variable {P : Program} {w : World} {K : PySem.W.Frag} {mg : Str → Option Value} {base : Heap}
theorem ok_common_part {fd : FuncData} (F : FnP K "common_part" s_common_part fd) (T : Txt K mg)  : FnOk P w K mg base (L2.CX P w) 1 (He.ga K "common_part") fd ["one", "other"] (spF K (fs_common_part K)) := by
  refine fn_ok (k := 0) F sc_common_part len_D2 (by decide) (t_common_part K) (fun cdv A outer s H E hr => ?_) (body_common_part T)
  exact (pss_cons (ps_set (i := 0) sc_common_part.nd rfl (Or.inl rfl) (pe_callB call_abs (by rfl) T.n_abs (by decide +kernel) (pa_cons (pv 0) pa_nil)))
  (pss_cons (ps_set (i := 1) sc_common_part.nd rfl (Or.inl rfl) (pe_callB call_abs (by rfl) T.n_abs (by decide +kernel) (pa_cons (pv 1) pa_nil)))
  (pss_cons (ps_while (passes_of rfl) (pt_cmpR op_gt (pv 1) pe_int (nomark _)) (pss_one (ps_par (by rfl) sc_common_part.nd rfl rfl (by decide) rfl rfl (pa_cons (pv 1) (pa_cons (pe_op op_modN (pv 0) (pv 1)) pa_nil)) (by rfl))))
  (pss_one (ps_ret (pv 0))))))
end
def t_lowest (K : PySem.W.Frag) (E : XK) : TS :=
  (tSeq (tAsg (tCall (spF K (fs_common_part K)) [] E0 (tCons (tVar 0) (tCons (tVar 1) tNil))) (gName 2))
  (tSeq (tIfS (tTest (tOp rLtI (tVar 1) (tC (.int 0)))) (tAsg (tUn uNeg (tVar 2)) (gName 2)) tNext)
  (tRet (tTup (tCons (tOp rDivI (tVar 0) (tVar 2)) (tCons (tOp rDivI (tVar 1) (tVar 2)) tNil))))))
def fs_lowest (K : PySem.W.Frag) : FS := fsD2 fun x y P _ => ∃ a b : Int, x = .int a ∧ y = .int b ∧ b ≠ 0 ∧ Bi 9000 b ∧ P (fr (Rat.divInt a b))
theorem body_lowest {K : PySem.W.Frag} {mg : Str → Option Value} (T : Txt K mg) (E : XK) : ∀ (as : List AV) (P : D → Prop) (PX : XD → Prop), fs_lowest K as P PX → SatS (cn K E PX) (t_lowest K E) (gin as 1) (den P) := bD2 fun x y P PX q => by
  obtain ⟨a, b, rfl, rfl, h0, hb, p⟩ := q
  unfold t_lowest
  walk_at "dl"
  refine ⟨a, b, rfl, rfl, ?_⟩
  walk_at "dl"
  have g0 := gcdI_pos (a := a) (b := b) (.inr h0)
  have gb : Bi 9000 (gcdI a b) := by
    unfold Bi gcdI at *
    have := Int.gcd_le_natAbs_right a h0
    omega
  have g1 : gcdI a b ≠ 0 := by omega
  refine ⟨fun h => ?_, fun h => ?_⟩
  · have hb0 : b < 0 := by simpa using h
    walk_at "dl"
    refine k2_C (bi_divOk gb.neg (by decide) (by omega)) ?_
    walk_at "dl"
    refine k2_C (bi_divOk gb.neg (by decide) (by omega)) ?_
    walk_at "dl"
    have e1 := low_num (a := a) h0
    have e2 := low_den (a := a) h0
    rw [if_pos hb0] at e1 e2
    rw [e1, e2]
    exact p
  · have hb0 : ¬ b < 0 := by simpa using h
    walk_at "dl"
    refine k2_C (bi_divOk gb (by decide) (by omega)) ?_
    walk_at "dl"
    refine k2_C (bi_divOk gb (by decide) (by omega)) ?_
    walk_at "dl"
    have e1 := low_num (a := a) h0
    have e2 := low_den (a := a) h0
    rw [if_neg hb0] at e1 e2
    rw [e1, e2]
    exact p
section
variable {P : Program} {w : World} {K : PySem.W.Frag} {mg : Str → Option Value} {base : Heap}
theorem ok_lowest {fd : FuncData} (F : FnP K "lowest" s_lowest fd) (T : Txt K mg) (c_common_part : Cal P w K mg base 1 "common_part" ["one", "other"] (fs_common_part K)) : FnOk P w K mg base (L2.CX P w) 2 (He.ga K "lowest") fd ["top", "bottom"] (spF K (fs_lowest K)) := by
  refine fn_ok (k := 1) F sc_lowest len_D2 (by decide) (t_lowest K) (fun cdv A outer s H E hr => ?_) (body_lowest T)
  exact (pss_cons (ps_set (i := 2) sc_lowest.nd rfl (Or.inl rfl) (pe_cal c_common_part hr (by decide) rfl (pa_cons (pv 0) (pa_cons (pv 1) pa_nil))))
  (pss_cons (ps_if (pt_cmpR op_lt (pv 1) pe_int (nomark _)) (pss_one (ps_set (i := 2) sc_lowest.nd rfl (Or.inl rfl) (pe_un un_neg (pv 2)))) pss_nil)
  (pss_one (ps_ret (pe_tup (pa_cons (pe_op op_fdivI (pv 0) (pv 2)) (pa_cons (pe_op op_fdivI (pv 1) (pv 2)) pa_nil)))))))
end
def fr2 : D → D → Option Rat
  | .int a, .int b => if 1 ≤ b ∧ gcdI a b = 1 then some (Rat.divInt a b) else none
  | _, _ => none
def frD : D → Option Rat
  | .tuple [a, b] => fr2 a b
  | _ => none
theorem frD_len {xs : List D} (h : xs.length ≠ 2) : frD (.tuple xs) = none := by
  match xs with
  | [] => rfl
  | [_] => rfl
  | [_, _] => simp at h
  | _ :: _ :: _ :: _ => rfl
theorem frD_l {a b : D} (h : isIntD a = false) : frD (.tuple [a, b]) = none := by
  cases a <;> first | rfl | (cases b <;> rfl) | cases h
theorem frD_r {a b : D} (h : isIntD b = false) : frD (.tuple [a, b]) = none := by
  cases b <;> first | (cases a <;> rfl) | cases h
theorem isInt_cases (a : D) : isIntD a = false ∨ ∃ i, a = .int i := by
  cases a <;> first | exact .inl rfl | exact .inr ⟨_, rfl⟩
theorem len2 {xs : List D} (h : xs.length = 2) : ∃ a b, xs = [a, b] := by
  match xs, h with
  | [a, b], _ => exact ⟨a, b, rfl⟩
def t_is_fraction (K : PySem.W.Frag) (E : XK) : TS :=
  (tSeq (tIfS (tOr (tNot (tB (tCB (rIsi K) (tCons (tVar 0) (tCons (tC (.ty "tuple")) tNil))))) (tTest (tOp (rNeD K) (tCB (rLenB K) (tCons (tVar 0) tNil)) (tC (.int 2))))) (tRet (tC (.bl false))) tNext)
  (tSeq (tIfS (tOr (tNot (tB (tCall (spF K (fs_is_integer K)) [] E0 (tCons (tOp (rIx K) (tVar 0) (tC (.int 0))) tNil)))) (tOr (tNot (tB (tCall (spF K (fs_is_integer K)) [] E0 (tCons (tOp (rIx K) (tVar 0) (tC (.int 1))) tNil)))) (tTest (tOp rLtI (tOp (rIx K) (tVar 0) (tC (.int 1))) (tC (.int 1)))))) (tRet (tC (.bl false))) tNext)
  (tRet (tOp (rEqD K) (tCall (spF K (fs_common_part K)) [] E0 (tCons (tOp (rIx K) (tVar 0) (tC (.int 0))) (tCons (tOp (rIx K) (tVar 0) (tC (.int 1))) tNil))) (tC (.int 1))))))
def fs_is_fraction (K : PySem.W.Frag) : FS := fsD1 fun x P _ => P (.bool (frD x).isSome)
theorem body_is_fraction {K : PySem.W.Frag} {mg : Str → Option Value} (T : Txt K mg) (E : XK) : ∀ (as : List AV) (P : D → Prop) (PX : XD → Prop), fs_is_fraction K as P PX → SatS (cn K E PX) (t_is_fraction K E) (gin as 0) (den P) := bD1 fun x P PX q => by
  unfold t_is_fraction
  cases x with
  | tuple xs =>
    walk_at "dl"
    refine ⟨fun h => ?_, fun h => ?_⟩
    · walk_at "dl"
      rw [frD_len (by intro z; simp [z] at h)] at q
      exact q
    obtain ⟨a, b, rfl⟩ := len2 (xs := xs) (by simp at h; omega)
    walk_at "dl"
    rcases isInt_cases a with ha | ⟨i, rfl⟩
    · rw [frD_l ha] at q
      refine tf_split (by rw [ha]; rfl) ?_
      walk_at "dl"
      exact q
    walk_at "dl"
    rcases isInt_cases b with hb | ⟨j, rfl⟩
    · rw [frD_r hb] at q
      refine tf_split (by rw [hb]; rfl) ?_
      walk_at "dl"
      exact q
    walk_at "dl"
    refine ⟨fun h2 => ?_, fun h2 => ?_⟩
    · walk_at "dl"
      have : frD (.tuple [.int i, .int j]) = none := by
        simp only [frD, fr2]
        rw [if_neg]
        intro z
        have := of_decide_eq_true h2
        omega
      rw [this] at q
      exact q
    · walk_at "dl"
      refine ⟨i, j, rfl, rfl, ?_⟩
      walk_at "dl"
      have h3 := of_decide_eq_false h2
      have : (frD (.tuple [.int i, .int j])).isSome = decide (gcdI i j = 1) := by
        simp only [frD, fr2]
        by_cases z : gcdI i j = 1
        · rw [if_pos ⟨by omega, z⟩]; simp [z]
        · rw [if_neg (fun y => z y.2)]; simp [z]
      rw [this] at q
      exact q
  | _ => walk_at "dl"; exact q
section
variable {P : Program} {w : World} {K : PySem.W.Frag} {mg : Str → Option Value} {base : Heap}
theorem ok_is_fraction {fd : FuncData} (F : FnP K "is_fraction" s_is_fraction fd) (T : Txt K mg) (c_common_part : Cal P w K mg base 1 "common_part" ["one", "other"] (fs_common_part K)) (c_is_integer : Cal P w K mg base 1 "is_integer" ["thing"] (fs_is_integer K)) : FnOk P w K mg base (L2.CX P w) 2 (He.ga K "is_fraction") fd ["thing"] (spF K (fs_is_fraction K)) := by
  refine fn_ok (k := 1) F sc_is_fraction len_D1 (by decide) (t_is_fraction K) (fun cdv A outer s H E hr => ?_) (body_is_fraction T)
  exact (pss_cons (ps_if (PW.pt (pw_or (pt_not (pt_val (pe_callB call_isi (by rfl) T.n_isinstance (by decide +kernel) (pa_cons (pv 0) (pa_cons (pe_bltn (v := .ty "tuple") (u := .type "tuple") rfl T.n_tuple (by decide +kernel) rfl) pa_nil))))) (pw_or1 (pt_cmpR (op_neD hr.units) (pe_callB call_len (by rfl) T.n_len (by decide +kernel) (pa_cons (pv 0) pa_nil)) pe_int (nomark _))))) (pss_one (ps_ret pe_bl)) pss_nil)
  (pss_cons (ps_if (PW.pt (pw_or (pt_not (pt_val (pe_cal c_is_integer hr (by decide) rfl (pa_cons (pe_ix ix_seq (pv 0) pe_int (fun _ _ => rfl)) pa_nil)))) (pw_or (pt_not (pt_val (pe_cal c_is_integer hr (by decide) rfl (pa_cons (pe_ix ix_seq (pv 0) pe_int (fun _ _ => rfl)) pa_nil)))) (pw_or1 (pt_cmpR op_lt (pe_ix ix_seq (pv 0) pe_int (fun _ _ => rfl)) pe_int (nomark _)))))) (pss_one (ps_ret pe_bl)) pss_nil)
  (pss_one (ps_ret (pe_cmpR (op_eqD hr.units) (pe_cal c_common_part hr (by decide) rfl (pa_cons (pe_ix ix_seq (pv 0) pe_int (fun _ _ => rfl)) (pa_cons (pe_ix ix_seq (pv 0) pe_int (fun _ _ => rfl)) pa_nil))) pe_int (nomark _))))))
end
def t_plus (K : PySem.W.Frag) (E : XK) : TS :=
  (tSeq (tIfS (tAnd (tTest (tOp (rEqD K) (tOp (rIx K) (tVar 0) (tC (.int 1))) (tC (.int 1)))) (tTest (tOp (rEqD K) (tOp (rIx K) (tVar 1) (tC (.int 1))) (tC (.int 1))))) (tRet (tTup (tCons (tOp (rAddA K) (tOp (rIx K) (tVar 0) (tC (.int 0))) (tOp (rIx K) (tVar 1) (tC (.int 0)))) (tCons (tC (.int 1)) tNil)))) tNext)
  (tRet (tCall (spF K (fs_lowest K)) [] E0 (tCons (tOp (rAddA K) (tOp rMulA (tOp (rIx K) (tVar 0) (tC (.int 0))) (tOp (rIx K) (tVar 1) (tC (.int 1)))) (tOp rMulA (tOp (rIx K) (tVar 1) (tC (.int 0))) (tOp (rIx K) (tVar 0) (tC (.int 1))))) (tCons (tOp rMulA (tOp (rIx K) (tVar 0) (tC (.int 1))) (tOp (rIx K) (tVar 1) (tC (.int 1)))) tNil)))))
def fs_plus (K : PySem.W.Frag) : FS := fsD2 fun x y P _ => ∃ p q, x = fr p ∧ y = fr q ∧ Sz 4000 p ∧ Sz 4000 q ∧ P (fr (p + q))
theorem body_plus {K : PySem.W.Frag} {mg : Str → Option Value} (T : Txt K mg) (E : XK) : ∀ (as : List AV) (P : D → Prop) (PX : XD → Prop), fs_plus K as P PX → SatS (cn K E PX) (t_plus K E) (gin as 0) (den P) := bD2 fun x y P PX q => by
  obtain ⟨p, q, rfl, rfl, sp, sq, h⟩ := q
  unfold t_plus
  have fin : ∀ Q : D → Prop, Q (fr (p + q)) → ∃ a b, PyData.int (p.num * ↑q.den + q.num * ↑p.den) = PyData.int a ∧ PyData.int (↑p.den * ↑q.den) = PyData.int b ∧ b ≠ 0 ∧ Bi 9000 b ∧ Q (fr (Rat.divInt a b)) := fun Q hq =>
    ⟨_, _, rfl, rfl, den_mul_ne, (sp.2.mul sq.2).mono (by decide), by rw [divInt_add]; exact hq⟩
  walk_at "dl"
  refine ⟨fun h1 => ?_, fun h1 => ?_⟩
  · walk_at "dl"
    refine ⟨fun h2 => ?_, fun h2 => ?_⟩
    · walk_at "dl"
      have d1 := of_decide_eq_true h1
      have d2 := of_decide_eq_true h2
      have e : (.tuple [.int (p.num + q.num), .int 1] : D) = fr (p + q) := by
        refine fr_num_den ?_ ?_
        · rw [← divInt_add, d1, d2, Rat.num_divInt]; simp
        · rw [← divInt_add, d1, d2, Rat.den_divInt]; simp
      rw [← e] at h
      exact h
    · walk_at "dl"
      exact fin _ h
  · walk_at "dl"
    exact fin _ h
section
variable {P : Program} {w : World} {K : PySem.W.Frag} {mg : Str → Option Value} {base : Heap}
theorem ok_plus {fd : FuncData} (F : FnP K "plus" s_plus fd) (T : Txt K mg) (c_lowest : Cal P w K mg base 2 "lowest" ["top", "bottom"] (fs_lowest K)) : FnOk P w K mg base (L2.CX P w) 3 (He.ga K "plus") fd ["one", "other"] (spF K (fs_plus K)) := by
  refine fn_ok (k := 2) F sc_plus len_D2 (by decide) (t_plus K) (fun cdv A outer s H E hr => ?_) (body_plus T)
  exact (pss_cons (ps_if (PW.pt (pw_and (pt_cmpR (op_eqD hr.units) (pe_ix ix_seq (pv 0) pe_int (fun _ _ => rfl)) pe_int (nomark _)) (pw_and1 (pt_cmpR (op_eqD hr.units) (pe_ix ix_seq (pv 1) pe_int (fun _ _ => rfl)) pe_int (nomark _))))) (pss_one (ps_ret (pe_tup (pa_cons (pe_op op_addA (pe_ix ix_seq (pv 0) pe_int (fun _ _ => rfl)) (pe_ix ix_seq (pv 1) pe_int (fun _ _ => rfl))) (pa_cons pe_int pa_nil))))) pss_nil)
  (pss_one (ps_ret (pe_cal c_lowest hr (by decide) rfl (pa_cons (pe_op op_addA (pe_op op_mulA (pe_ix ix_seq (pv 0) pe_int (fun _ _ => rfl)) (pe_ix ix_seq (pv 1) pe_int (fun _ _ => rfl))) (pe_op op_mulA (pe_ix ix_seq (pv 1) pe_int (fun _ _ => rfl)) (pe_ix ix_seq (pv 0) pe_int (fun _ _ => rfl)))) (pa_cons (pe_op op_mulA (pe_ix ix_seq (pv 0) pe_int (fun _ _ => rfl)) (pe_ix ix_seq (pv 1) pe_int (fun _ _ => rfl))) pa_nil))))))
end
def t_opposite (K : PySem.W.Frag) (E : XK) : TS :=
  (tRet (tTup (tCons (tUn uNeg (tOp (rIx K) (tVar 0) (tC (.int 0)))) (tCons (tOp (rIx K) (tVar 0) (tC (.int 1))) tNil))))
def fs_opposite (K : PySem.W.Frag) : FS := fsD1 fun x P _ => ∃ p, x = fr p ∧ P (fr (-p))
theorem body_opposite {K : PySem.W.Frag} {mg : Str → Option Value} (T : Txt K mg) (E : XK) : ∀ (as : List AV) (P : D → Prop) (PX : XD → Prop), fs_opposite K as P PX → SatS (cn K E PX) (t_opposite K E) (gin as 0) (den P) := bD1 fun x P PX q => by
  obtain ⟨p, rfl, h⟩ := q
  unfold t_opposite
  walk_at "dl"
  exact h
section
variable {P : Program} {w : World} {K : PySem.W.Frag} {mg : Str → Option Value} {base : Heap}
theorem ok_opposite {fd : FuncData} (F : FnP K "opposite" s_opposite fd) (T : Txt K mg)  : FnOk P w K mg base (L2.CX P w) 1 (He.ga K "opposite") fd ["one"] (spF K (fs_opposite K)) := by
  refine fn_ok (k := 0) F sc_opposite len_D1 (by decide) (t_opposite K) (fun cdv A outer s H E hr => ?_) (body_opposite T)
  exact (pss_one (ps_ret (pe_tup (pa_cons (pe_un un_neg (pe_ix ix_seq (pv 0) pe_int (fun _ _ => rfl))) (pa_cons (pe_ix ix_seq (pv 0) pe_int (fun _ _ => rfl)) pa_nil)))))
end
def t_minus (K : PySem.W.Frag) (E : XK) : TS :=
  (tRet (tCall (spF K (fs_plus K)) [] E0 (tCons (tVar 0) (tCons (tTup (tCons (tUn uNeg (tOp (rIx K) (tVar 1) (tC (.int 0)))) (tCons (tOp (rIx K) (tVar 1) (tC (.int 1))) tNil))) tNil))))
def fs_minus (K : PySem.W.Frag) : FS := fsD2 fun x y P _ => ∃ p q, x = fr p ∧ y = fr q ∧ Sz 4000 p ∧ Sz 4000 q ∧ P (fr (p - q))
theorem body_minus {K : PySem.W.Frag} {mg : Str → Option Value} (T : Txt K mg) (E : XK) : ∀ (as : List AV) (P : D → Prop) (PX : XD → Prop), fs_minus K as P PX → SatS (cn K E PX) (t_minus K E) (gin as 0) (den P) := bD2 fun x y P PX q => by
  obtain ⟨p, q, rfl, rfl, sp, sq, h⟩ := q
  unfold t_minus
  walk_at "dl"
  refine ⟨p, -q, rfl, rfl, sp, sq.neg, ?_⟩
  rw [← Rat.sub_eq_add_neg]
  exact h
section
variable {P : Program} {w : World} {K : PySem.W.Frag} {mg : Str → Option Value} {base : Heap}
theorem ok_minus {fd : FuncData} (F : FnP K "minus" s_minus fd) (T : Txt K mg) (c_plus : Cal P w K mg base 3 "plus" ["one", "other"] (fs_plus K)) : FnOk P w K mg base (L2.CX P w) 4 (He.ga K "minus") fd ["one", "other"] (spF K (fs_minus K)) := by
  refine fn_ok (k := 3) F sc_minus len_D2 (by decide) (t_minus K) (fun cdv A outer s H E hr => ?_) (body_minus T)
  exact (pss_one (ps_ret (pe_cal c_plus hr (by decide) rfl (pa_cons (pv 0) (pa_cons (pe_tup (pa_cons (pe_un un_neg (pe_ix ix_seq (pv 1) pe_int (fun _ _ => rfl))) (pa_cons (pe_ix ix_seq (pv 1) pe_int (fun _ _ => rfl)) pa_nil))) pa_nil)))))
end
def t_product (K : PySem.W.Frag) (E : XK) : TS :=
  (tSeq (tIfS (tOr (tTest (tOp (rEqD K) (tOp (rIx K) (tVar 0) (tC (.int 0))) (tC (.int 0)))) (tTest (tOp (rEqD K) (tOp (rIx K) (tVar 1) (tC (.int 0))) (tC (.int 0))))) (tRet (tC (kv_ZERO K))) tNext)
  (tRet (tCall (spF K (fs_lowest K)) [] E0 (tCons (tOp rMulA (tOp (rIx K) (tVar 0) (tC (.int 0))) (tOp (rIx K) (tVar 1) (tC (.int 0)))) (tCons (tOp rMulA (tOp (rIx K) (tVar 0) (tC (.int 1))) (tOp (rIx K) (tVar 1) (tC (.int 1)))) tNil)))))
def fs_product (K : PySem.W.Frag) : FS := fsD2 fun x y P _ => ∃ p q, x = fr p ∧ y = fr q ∧ Sz 4000 p ∧ Sz 4000 q ∧ P (fr (p * q))
theorem rp_ZERO {K : PySem.W.Frag} {mg : Str → Option Value} (T : Txt K mg) (C : Hp) : Rp K C (kv_ZERO K) (fr 0) := .tup (T.z_ZERO C) (.cons (.int 0) (.cons (.int 1) .nil))
theorem rp_ONE {K : PySem.W.Frag} {mg : Str → Option Value} (T : Txt K mg) (C : Hp) : Rp K C (kv_ONE K) (fr 1) := .tup (T.z_ONE C) (.cons (.int 1) (.cons (.int 1) .nil))
theorem body_product {K : PySem.W.Frag} {mg : Str → Option Value} (T : Txt K mg) (E : XK) : ∀ (as : List AV) (P : D → Prop) (PX : XD → Prop), fs_product K as P PX → SatS (cn K E PX) (t_product K E) (gin as 0) (den P) := bD2 fun x y P PX q => by
  obtain ⟨p, q, rfl, rfl, sp, sq, h⟩ := q
  unfold t_product
  walk_at "dl"
  refine ⟨fun h1 => ?_, fun h1 => ?_⟩
  · walk_at "dl"
    refine ev_c (rp_ZERO T) ?_
    have e : p = 0 := Rat.num_eq_zero.mp (of_decide_eq_true h1)
    rw [e, Rat.zero_mul] at h
    exact h
  · walk_at "dl"
    refine ⟨fun h2 => ?_, fun h2 => ?_⟩
    · walk_at "dl"
      refine ev_c (rp_ZERO T) ?_
      have e : q = 0 := Rat.num_eq_zero.mp (of_decide_eq_true h2)
      rw [e, Rat.mul_zero] at h
      exact h
    · walk_at "dl"
      refine ⟨_, _, rfl, rfl, den_mul_ne, (sp.2.mul sq.2).mono (by decide), ?_⟩
      rw [divInt_mul]
      exact h
section
variable {P : Program} {w : World} {K : PySem.W.Frag} {mg : Str → Option Value} {base : Heap}
theorem ok_product {fd : FuncData} (F : FnP K "product" s_product fd) (T : Txt K mg) (c_lowest : Cal P w K mg base 2 "lowest" ["top", "bottom"] (fs_lowest K)) : FnOk P w K mg base (L2.CX P w) 3 (He.ga K "product") fd ["one", "other"] (spF K (fs_product K)) := by
  refine fn_ok (k := 2) F sc_product len_D2 (by decide) (t_product K) (fun cdv A outer s H E hr => ?_) (body_product T)
  exact (pss_cons (ps_if (PW.pt (pw_or (pt_cmpR (op_eqD hr.units) (pe_ix ix_seq (pv 0) pe_int (fun _ _ => rfl)) pe_int (nomark _)) (pw_or1 (pt_cmpR (op_eqD hr.units) (pe_ix ix_seq (pv 1) pe_int (fun _ _ => rfl)) pe_int (nomark _))))) (pss_one (ps_ret (C8.pe_gc rfl T.k_ZERO))) pss_nil)
  (pss_one (ps_ret (pe_cal c_lowest hr (by decide) rfl (pa_cons (pe_op op_mulA (pe_ix ix_seq (pv 0) pe_int (fun _ _ => rfl)) (pe_ix ix_seq (pv 1) pe_int (fun _ _ => rfl))) (pa_cons (pe_op op_mulA (pe_ix ix_seq (pv 0) pe_int (fun _ _ => rfl)) (pe_ix ix_seq (pv 1) pe_int (fun _ _ => rfl))) pa_nil))))))
end
def t_divided (K : PySem.W.Frag) (E : XK) : TS :=
  (tRet (tCall (spF K (fs_lowest K)) [] E0 (tCons (tOp rMulA (tOp (rIx K) (tVar 0) (tC (.int 0))) (tOp (rIx K) (tVar 1) (tC (.int 1)))) (tCons (tOp rMulA (tOp (rIx K) (tVar 0) (tC (.int 1))) (tOp (rIx K) (tVar 1) (tC (.int 0)))) tNil))))
def fs_divided (K : PySem.W.Frag) : FS := fsD2 fun x y P _ => ∃ p q, x = fr p ∧ y = fr q ∧ Sz 4000 p ∧ Sz 4000 q ∧ q ≠ 0 ∧ P (fr (p / q))
theorem body_divided {K : PySem.W.Frag} {mg : Str → Option Value} (T : Txt K mg) (E : XK) : ∀ (as : List AV) (P : D → Prop) (PX : XD → Prop), fs_divided K as P PX → SatS (cn K E PX) (t_divided K E) (gin as 0) (den P) := bD2 fun x y P PX q => by
  obtain ⟨p, q, rfl, rfl, sp, sq, q0, h⟩ := q
  unfold t_divided
  walk_at "dl"
  refine ⟨_, _, rfl, rfl, Int.mul_ne_zero (den_ne p) (num_ne q0), (sp.2.mul sq.1).mono (by decide), ?_⟩
  rw [divInt_div]
  exact h
section
variable {P : Program} {w : World} {K : PySem.W.Frag} {mg : Str → Option Value} {base : Heap}
theorem ok_divided {fd : FuncData} (F : FnP K "divided" s_divided fd) (T : Txt K mg) (c_lowest : Cal P w K mg base 2 "lowest" ["top", "bottom"] (fs_lowest K)) : FnOk P w K mg base (L2.CX P w) 3 (He.ga K "divided") fd ["one", "other"] (spF K (fs_divided K)) := by
  refine fn_ok (k := 2) F sc_divided len_D2 (by decide) (t_divided K) (fun cdv A outer s H E hr => ?_) (body_divided T)
  exact (pss_one (ps_ret (pe_cal c_lowest hr (by decide) rfl (pa_cons (pe_op op_mulA (pe_ix ix_seq (pv 0) pe_int (fun _ _ => rfl)) (pe_ix ix_seq (pv 1) pe_int (fun _ _ => rfl))) (pa_cons (pe_op op_mulA (pe_ix ix_seq (pv 0) pe_int (fun _ _ => rfl)) (pe_ix ix_seq (pv 1) pe_int (fun _ _ => rfl))) pa_nil)))))
end
def t_first_line (K : PySem.W.Frag) (E : XK) : TS :=
  (tRet (tTup (tCons (tC (kv_ONE K)) (tCons (tCall (spF K (fs_opposite K)) [] E0 (tCons (tVar 0) tNil)) (tCons (tC (kv_ONE K)) (tCons (tVar 0) tNil))))))
def fs_first_line (K : PySem.W.Frag) : FS := fsD1 fun x P _ => ∃ p, x = fr p ∧ P (.tuple [fr 1, fr (-p), fr 1, fr p])
theorem body_first_line {K : PySem.W.Frag} {mg : Str → Option Value} (T : Txt K mg) (E : XK) : ∀ (as : List AV) (P : D → Prop) (PX : XD → Prop), fs_first_line K as P PX → SatS (cn K E PX) (t_first_line K E) (gin as 0) (den P) := bD1 fun x P PX q => by
  obtain ⟨p, rfl, h⟩ := q
  unfold t_first_line
  walk_at "dl"
  refine ev_c (rp_ONE T) ?_
  walk_at "dl"
  refine ⟨_, rfl, ?_⟩
  walk_at "dl"
  refine ev_c (rp_ONE T) ?_
  walk_at "dl"
  exact h
section
variable {P : Program} {w : World} {K : PySem.W.Frag} {mg : Str → Option Value} {base : Heap}
theorem ok_first_line {fd : FuncData} (F : FnP K "first_line" s_first_line fd) (T : Txt K mg) (c_opposite : Cal P w K mg base 1 "opposite" ["one"] (fs_opposite K)) : FnOk P w K mg base (L2.CX P w) 2 (He.ga K "first_line") fd ["fraction"] (spF K (fs_first_line K)) := by
  refine fn_ok (k := 1) F sc_first_line len_D1 (by decide) (t_first_line K) (fun cdv A outer s H E hr => ?_) (body_first_line T)
  exact (pss_one (ps_ret (pe_tup (pa_cons (C8.pe_gc rfl T.k_ONE) (pa_cons (pe_cal c_opposite hr (by decide) rfl (pa_cons (pv 0) pa_nil)) (pa_cons (C8.pe_gc rfl T.k_ONE) (pa_cons (pv 0) pa_nil)))))))
end
def t_second_line (K : PySem.W.Frag) (E : XK) : TS :=
  (tRet (tTup (tCons (tCall (spF K (fs_opposite K)) [] E0 (tCons (tVar 0) tNil)) (tCons (tC (kv_ONE K)) (tCons (tVar 0) (tCons (tC (kv_ONE K)) tNil))))))
def fs_second_line (K : PySem.W.Frag) : FS := fsD1 fun x P _ => ∃ p, x = fr p ∧ P (.tuple [fr (-p), fr 1, fr p, fr 1])
theorem body_second_line {K : PySem.W.Frag} {mg : Str → Option Value} (T : Txt K mg) (E : XK) : ∀ (as : List AV) (P : D → Prop) (PX : XD → Prop), fs_second_line K as P PX → SatS (cn K E PX) (t_second_line K E) (gin as 0) (den P) := bD1 fun x P PX q => by
  obtain ⟨p, rfl, h⟩ := q
  unfold t_second_line
  walk_at "dl"
  refine ⟨_, rfl, ?_⟩
  walk_at "dl"
  refine ev_c (rp_ONE T) ?_
  walk_at "dl"
  refine ev_c (rp_ONE T) ?_
  walk_at "dl"
  exact h
section
variable {P : Program} {w : World} {K : PySem.W.Frag} {mg : Str → Option Value} {base : Heap}
theorem ok_second_line {fd : FuncData} (F : FnP K "second_line" s_second_line fd) (T : Txt K mg) (c_opposite : Cal P w K mg base 1 "opposite" ["one"] (fs_opposite K)) : FnOk P w K mg base (L2.CX P w) 2 (He.ga K "second_line") fd ["fraction"] (spF K (fs_second_line K)) := by
  refine fn_ok (k := 1) F sc_second_line len_D1 (by decide) (t_second_line K) (fun cdv A outer s H E hr => ?_) (body_second_line T)
  exact (pss_one (ps_ret (pe_tup (pa_cons (pe_cal c_opposite hr (by decide) rfl (pa_cons (pv 0) pa_nil)) (pa_cons (C8.pe_gc rfl T.k_ONE) (pa_cons (pv 0) (pa_cons (C8.pe_gc rfl T.k_ONE) pa_nil)))))))
end
end X85
end
section
namespace X85
open PySem L2 DL
local macro_rules | `(tactic| walk_at "bi") => `(tactic| first
  | assumption
  | exact Sz.nb (by assumption) (by decide) | exact Sz.db (by assumption) (by decide)
  | (unfold Bi; decide))
local macro_rules | `(tactic| walk_at "sz0") => `(tactic| first
  | assumption
  | exact Sz.one | exact Sz.zero
  | ((apply Sz.neg); (· walk_at "sz0"))
  | ((apply Sz.mul); (· walk_at "sz0"); (· walk_at "sz0"))
  | ((apply Sz.add); (· walk_at "sz0"); (· walk_at "sz0"))
  | ((apply Sz.sub); (· walk_at "sz0"); (· walk_at "sz0"))
  | ((apply Sz.div); (· walk_at "sz0"); (· walk_at "sz0"); (· assumption)))
local macro_rules | `(tactic| walk_at "sz") => `(tactic| first | assumption | ((apply Sz.mono); (· walk_at "sz0"); (· decide)))
local macro_rules | `(tactic| walk_at "d1") => `(tactic| first
  | with_reducible refine sat_seq ?_ | with_reducible refine sat_if ?_ | with_reducible refine sat_ret ?_ | with_reducible refine sat_retN ?_ | with_reducible refine sat_next ?_ | with_reducible refine sat_par ?_
  | with_reducible refine sat_asgHot (el_lst (ea_nil ⟨_, rfl, Nat.le_of_ble_eq_true rfl, ?_⟩))
  | with_reducible refine sat_asg ?_ | with_reducible refine sat_asgG ?_ | with_reducible refine eg_tup4 ?_ | with_reducible refine eg_tup2 ?_ | with_reducible refine eg_name ?_
  | with_reducible refine evt_of ?_ | with_reducible refine evt_B ?_ | with_reducible refine evt_and ?_ | with_reducible refine evt_or ?_ | with_reducible refine evt_not ?_ | with_reducible refine evt_yes ?_
  | ((with_reducible apply ev_var); · exact rfl)
  | with_reducible refine ev_int ?_ | with_reducible refine ev_str ?_ | with_reducible refine ev_bl ?_ | with_reducible refine ev_non ?_
  | refine ev_ixHot rfl rfl ?_ | refine ev_lenHot rfl rfl ?_
  | with_reducible refine ev_op ?_ | with_reducible refine ev_neg ?_ | with_reducible refine ev_and ?_ | with_reducible refine ev_or ?_ | with_reducible refine ev_not ?_ | with_reducible refine ev_if ?_ | with_reducible refine ev_chain ?_
  | with_reducible refine ev_tup ?_ | with_reducible refine ev_call ?_ | with_reducible refine ev_callS ?_ | with_reducible refine ev_callKS ?_
  | refine ev_isiT (ns := ["list", "tuple"]) (by decide) ?_
  | with_reducible refine ev_cb ?_
  | with_reducible refine ea_nil ?_ | refine ea_val (v := .ty _) ?_ | ((with_reducible apply ea_st); · exact rfl) | with_reducible refine ea_cons ?_
  | refine ev_int ?_
  | refine ix_fr0 ?_ | refine ix_fr1 ?_ | refine k2_ix (.inl rfl) rfl ?_ | refine k2_ix (.inr rfl) rfl ?_
  | refine k2_mul (bi_mulOk (n := 9000) (m := 9000) (by walk_at "bi") (by walk_at "bi") (by decide)) ?_
  | refine k2_add ?_
  | refine k2_eqI ?_ | refine k2_neI ?_ | refine k2_eqF ?_ | refine k2_eqF2 ?_ | refine k2_neB ?_ | refine k2_is ?_ | refine k2_isnot ?_ | refine k2_isB ?_
  | refine k2_IB ?_ | refine k2_II ?_
  | refine kc_abs ?_ | refine kc_intI ?_ | refine kc_isi rfl ?_ | refine kc_len rfl ?_ | refine kc_all ?_
  | refine tup_one ?_ | refine tup_zero ?_ | refine tup_m1 ?_ | refine tup_neg ?_ | refine tup_any rfl (Nat.le_of_ble_eq_true rfl) ?_
  | refine tt_split ?_ | refine ff_split ?_
  | refine bool_any ?_ | refine int_any ?_ | refine ⟨_, _, rfl, ?_⟩
  | ((refine cD1 ?_); (try dsimp only)) | ((refine cD2 ?_); (try dsimp only)) | ((refine cD3 ?_); (try dsimp only)) | ((refine cD4 ?_); (try dsimp only)) | ((refine cS0 ?_); (try dsimp only)) | ((refine cS1 ?_); (try dsimp only)) | ((refine cS2 ?_); (try dsimp only)) | ((refine cS3 ?_); (try dsimp only))
  | refine sz_and (by walk_at "sz") ?_
  | refine ne_and (by assumption) ?_
  | refine ev_c (rp_ONE (by assumption)) ?_ | refine ev_c (rp_ZERO (by assumption)) ?_
  | refine ⟨_, _, rfl, rfl, ?_⟩ | refine ⟨_, _, _, rfl, rfl, rfl, ?_⟩ | refine ⟨_, _, _, _, rfl, rfl, rfl, rfl, ?_⟩)
local macro_rules | `(tactic| walk_at "dl") => `(tactic| repeat (walk_at "d1"))

def prD (u v : Rat) : D := .tuple [fr u, fr v]
def f1 (u v : Rat) : Rat := (1 - u * v) / (1 + u * v)
def f2 (u v : Rat) : Rat := (v - u) / (v + u)
theorem pos_add1 {u v : Rat} (hu : 0 < u) (hv : 0 < v) : (1 : Rat) + u * v ≠ 0 := by have := Rat.mul_pos hu hv; grind
theorem pos_add2 {u v : Rat} (hu : 0 < u) (hv : 0 < v) : v + u ≠ 0 := by grind
theorem sz_f1 {u v : Rat} (su : Sz 200 u) (sv : Sz 200 v) (hu : 0 < u) (hv : 0 < v) : Sz 810 (f1 u v) := (Sz.div (Sz.sub Sz.one (Sz.mul su sv)) (Sz.add Sz.one (Sz.mul su sv)) (pos_add1 hu hv)).mono (by decide)
theorem sz_f2 {u v : Rat} (su : Sz 200 u) (sv : Sz 200 v) (hu : 0 < u) (hv : 0 < v) : Sz 810 (f2 u v) := (Sz.div (Sz.sub sv su) (Sz.add sv su) (pos_add2 hu hv)).mono (by decide)
def t_pair_fractions (K : PySem.W.Frag) (E : XK) : TS :=
  (tSeq (tAsg (tVar 0) (gTup K 2 (gCons (gName 1) (gCons (gName 2) gNil))))
  (tSeq (tAsg (tCall (spF K (fs_product K)) [] E0 (tCons (tVar 1) (tCons (tVar 2) tNil))) (gName 3))
  (tRet (tTup (tCons (tCall (spF K (fs_divided K)) [] E0 (tCons (tCall (spF K (fs_minus K)) [] E0 (tCons (tC (kv_ONE K)) (tCons (tVar 3) tNil))) (tCons (tCall (spF K (fs_plus K)) [] E0 (tCons (tC (kv_ONE K)) (tCons (tVar 3) tNil))) tNil))) (tCons (tCall (spF K (fs_divided K)) [] E0 (tCons (tCall (spF K (fs_minus K)) [] E0 (tCons (tVar 2) (tCons (tVar 1) tNil))) (tCons (tCall (spF K (fs_plus K)) [] E0 (tCons (tVar 2) (tCons (tVar 1) tNil))) tNil))) tNil))))))
def fs_pair_fractions (K : PySem.W.Frag) : FS := fsD1 fun x P _ => ∃ u v, x = prD u v ∧ Sz 200 u ∧ Sz 200 v ∧ 0 < u ∧ 0 < v ∧ P (.tuple [fr (f1 u v), fr (f2 u v)])
theorem body_pair_fractions {K : PySem.W.Frag} {mg : Str → Option Value} (T : Txt K mg) (E : XK) : ∀ (as : List AV) (P : D → Prop) (PX : XD → Prop), fs_pair_fractions K as P PX → SatS (cn K E PX) (t_pair_fractions K E) (gin as 3) (den P) := bD1 fun x P PX q => by
  obtain ⟨u, v, rfl, su, sv, hu, hv, h⟩ := q
  have n1 := pos_add1 hu hv
  have n2 := pos_add2 hu hv
  unfold t_pair_fractions prD
  walk_at "dl"
  exact h
section
variable {P : Program} {w : World} {K : PySem.W.Frag} {mg : Str → Option Value} {base : Heap}
theorem ok_pair_fractions {fd : FuncData} (F : FnP K "pair_fractions" s_pair_fractions fd) (T : Txt K mg) (c_divided : Cal P w K mg base 3 "divided" ["one", "other"] (fs_divided K)) (c_minus : Cal P w K mg base 4 "minus" ["one", "other"] (fs_minus K)) (c_plus : Cal P w K mg base 3 "plus" ["one", "other"] (fs_plus K)) (c_product : Cal P w K mg base 3 "product" ["one", "other"] (fs_product K)) : FnOk P w K mg base (L2.CX P w) 5 (He.ga K "pair_fractions") fd ["pair"] (spF K (fs_pair_fractions K)) := by
  refine fn_ok (k := 4) F sc_pair_fractions len_D1 (by decide) (t_pair_fractions K) (fun cdv A outer s H E hr => ?_) (body_pair_fractions T)
  exact (pss_cons (ps_asg (pv 0) (pg_tup (by rfl) (pgs_cons (pg_name (i := 1) sc_pair_fractions.nd rfl (Or.inl rfl)) (pgs_cons (pg_name (i := 2) sc_pair_fractions.nd rfl (Or.inl rfl)) pgs_nil))))
  (pss_cons (ps_set (i := 3) sc_pair_fractions.nd rfl (Or.inl rfl) (pe_cal c_product hr (by decide) rfl (pa_cons (pv 1) (pa_cons (pv 2) pa_nil))))
  (pss_one (ps_ret (pe_tup (pa_cons (pe_cal c_divided hr (by decide) rfl (pa_cons (pe_cal c_minus hr (by decide) rfl (pa_cons (C8.pe_gc rfl T.k_ONE) (pa_cons (pv 3) pa_nil))) (pa_cons (pe_cal c_plus hr (by decide) rfl (pa_cons (C8.pe_gc rfl T.k_ONE) (pa_cons (pv 3) pa_nil))) pa_nil))) (pa_cons (pe_cal c_divided hr (by decide) rfl (pa_cons (pe_cal c_minus hr (by decide) rfl (pa_cons (pv 2) (pa_cons (pv 1) pa_nil))) (pa_cons (pe_cal c_plus hr (by decide) rfl (pa_cons (pv 2) (pa_cons (pv 1) pa_nil))) pa_nil))) pa_nil)))))))
end
/-- the four numbers of a line -/
def four (u v : Rat) (l : Int) : List Rat := if l = 1 then [1, -f1 u v, 1, f1 u v] else [-f2 u v, 1, f2 u v, 1]
def tf (u v : Rat) (l : Int) : Rat := if l = 1 then f1 u v else f2 u v
def t_told_line (K : PySem.W.Frag) (E : XK) : TS :=
  (tSeq (tAsg (tCall (spF K (fs_pair_fractions K)) [] E0 (tCons (tVar 0) tNil)) (gName 2))
  (tRet (tIf (tTest (tOp (rEqD K) (tVar 1) (tC (.int 1)))) (tCall (spF K (fs_first_line K)) [] E0 (tCons (tOp (rIx K) (tVar 2) (tC (.int 0))) tNil)) (tCall (spF K (fs_second_line K)) [] E0 (tCons (tOp (rIx K) (tVar 2) (tC (.int 1))) tNil)))))
def fs_told_line (K : PySem.W.Frag) : FS := fsD2 fun x y P _ => ∃ u v l, x = prD u v ∧ y = .int l ∧ Sz 200 u ∧ Sz 200 v ∧ 0 < u ∧ 0 < v ∧ P (.tuple ((four u v l).map fr))
theorem body_told_line {K : PySem.W.Frag} {mg : Str → Option Value} (T : Txt K mg) (E : XK) : ∀ (as : List AV) (P : D → Prop) (PX : XD → Prop), fs_told_line K as P PX → SatS (cn K E PX) (t_told_line K E) (gin as 1) (den P) := bD2 fun x y P PX q => by
  obtain ⟨u, v, l, rfl, rfl, su, sv, hu, hv, h⟩ := q
  unfold t_told_line
  walk_at "dl"
  refine ⟨hu, hv, ?_⟩
  walk_at "dl"
  refine ⟨fun h1 => ?_, fun h1 => ?_⟩
  · have e := of_decide_eq_true h1
    walk_at "dl"
    refine ⟨_, rfl, ?_⟩
    unfold four at h
    rw [if_pos e] at h
    exact h
  · have e := of_decide_eq_false h1
    walk_at "dl"
    refine ⟨_, rfl, ?_⟩
    unfold four at h
    rw [if_neg e] at h
    exact h
section
variable {P : Program} {w : World} {K : PySem.W.Frag} {mg : Str → Option Value} {base : Heap}
theorem ok_told_line {fd : FuncData} (F : FnP K "told_line" s_told_line fd) (T : Txt K mg) (c_first_line : Cal P w K mg base 2 "first_line" ["fraction"] (fs_first_line K)) (c_pair_fractions : Cal P w K mg base 5 "pair_fractions" ["pair"] (fs_pair_fractions K)) (c_second_line : Cal P w K mg base 2 "second_line" ["fraction"] (fs_second_line K)) : FnOk P w K mg base (L2.CX P w) 6 (He.ga K "told_line") fd ["pair", "line"] (spF K (fs_told_line K)) := by
  refine fn_ok (k := 5) F sc_told_line len_D2 (by decide) (t_told_line K) (fun cdv A outer s H E hr => ?_) (body_told_line T)
  exact (pss_cons (ps_set (i := 2) sc_told_line.nd rfl (Or.inl rfl) (pe_cal c_pair_fractions hr (by decide) rfl (pa_cons (pv 0) pa_nil)))
  (pss_one (ps_ret (pe_ifExp (pt_cmpR (op_eqD hr.units) (pv 1) pe_int (nomark _)) (pe_cal c_first_line hr (by decide) rfl (pa_cons (pe_ix ix_seq (pv 2) pe_int (fun _ _ => rfl)) pa_nil)) (pe_cal c_second_line hr (by decide) rfl (pa_cons (pe_ix ix_seq (pv 2) pe_int (fun _ _ => rfl)) pa_nil))))))
end
def t_told_fraction (K : PySem.W.Frag) (E : XK) : TS :=
  (tRet (tOp (rIx K) (tCall (spF K (fs_pair_fractions K)) [] E0 (tCons (tVar 0) tNil)) (tOp rSubI (tVar 1) (tC (.int 1)))))
def fs_told_fraction (K : PySem.W.Frag) : FS := fsD2 fun x y P _ => ∃ u v l, x = prD u v ∧ y = .int l ∧ Sz 200 u ∧ Sz 200 v ∧ 0 < u ∧ 0 < v ∧ (l = 1 ∨ l = 2) ∧ P (fr (tf u v l))
theorem body_told_fraction {K : PySem.W.Frag} {mg : Str → Option Value} (T : Txt K mg) (E : XK) : ∀ (as : List AV) (P : D → Prop) (PX : XD → Prop), fs_told_fraction K as P PX → SatS (cn K E PX) (t_told_fraction K E) (gin as 0) (den P) := bD2 fun x y P PX q => by
  obtain ⟨u, v, l, rfl, rfl, su, sv, hu, hv, hl, h⟩ := q
  unfold t_told_fraction
  walk_at "dl"
  refine ⟨hu, hv, ?_⟩
  walk_at "dl"
  rcases hl with rfl | rfl
  · exact k2_ix (xs := [fr (f1 u v), fr (f2 u v)]) (.inr rfl) rfl h
  · exact k2_ix (xs := [fr (f1 u v), fr (f2 u v)]) (.inr rfl) rfl h
section
variable {P : Program} {w : World} {K : PySem.W.Frag} {mg : Str → Option Value} {base : Heap}
theorem ok_told_fraction {fd : FuncData} (F : FnP K "told_fraction" s_told_fraction fd) (T : Txt K mg) (c_pair_fractions : Cal P w K mg base 5 "pair_fractions" ["pair"] (fs_pair_fractions K)) : FnOk P w K mg base (L2.CX P w) 6 (He.ga K "told_fraction") fd ["pair", "line"] (spF K (fs_told_fraction K)) := by
  refine fn_ok (k := 5) F sc_told_fraction len_D2 (by decide) (t_told_fraction K) (fun cdv A outer s H E hr => ?_) (body_told_fraction T)
  exact (pss_one (ps_ret (pe_ix ix_seq (pe_cal c_pair_fractions hr (by decide) rfl (pa_cons (pv 0) pa_nil)) (pe_op op_sub (pv 1) pe_int) (fun _ _ => rfl))))
end
def quo (u v : Rat) (l : Int) (a b : Nat) : Rat := (four u v l).getD a 0 / (four u v l).getD b 0
/-- what stands side by side: one of them is 1 -/
theorem quo_ok {u v : Rat} {l : Int} {a b : Nat} (su : Sz 200 u) (sv : Sz 200 v) (hu : 0 < u) (hv : 0 < v) (h0 : tf u v l ≠ 0) (hab : (a, b) = (0, 1) ∨ (a, b) = (1, 2) ∨ (a, b) = (3, 0) ∨ (a, b) = (2, 3)) :
    ∃ p q, (four u v l)[a]? = some p ∧ (four u v l)[b]? = some q ∧ Sz 820 p ∧ Sz 820 q ∧ q ≠ 0 ∧ quo u v l a b = p / q ∧ Sz 820 (quo u v l a b) := by
  have z1 := sz_f1 su sv hu hv
  have z2 := sz_f2 su sv hu hv
  have n1 : (1 : Rat) ≠ 0 := by decide
  unfold tf at h0
  unfold quo four
  by_cases hl : l = 1
  · rw [if_pos hl] at h0
    simp only [if_pos hl]
    have nn : -f1 u v ≠ 0 := by grind
    rcases hab with e | e | e | e <;> (cases e; exact ⟨_, _, rfl, rfl, by walk_at "sz", by walk_at "sz", by assumption, rfl, by show Sz 820 (_ / _); walk_at "sz"⟩)
  · rw [if_neg hl] at h0
    simp only [if_neg hl]
    have nn : -f2 u v ≠ 0 := by grind
    rcases hab with e | e | e | e <;> (cases e; exact ⟨_, _, rfl, rfl, by walk_at "sz", by walk_at "sz", by assumption, rfl, by show Sz 820 (_ / _); walk_at "sz"⟩)
def t_quotient_of (K : PySem.W.Frag) (E : XK) : TS :=
  (tSeq (tAsg (tCall (spF K (fs_told_line K)) [] E0 (tCons (tVar 0) (tCons (tVar 1) tNil))) (gName 4))
  (tRet (tCall (spF K (fs_divided K)) [] E0 (tCons (tOp (rIx K) (tVar 4) (tVar 2)) (tCons (tOp (rIx K) (tVar 4) (tVar 3)) tNil)))))
def fs_quotient_of (K : PySem.W.Frag) : FS := fsD4 fun x y z w P _ => ∃ u v l a b, x = prD u v ∧ y = .int l ∧ z = .int (a : Nat) ∧ w = .int (b : Nat) ∧ Sz 200 u ∧ Sz 200 v ∧ 0 < u ∧ 0 < v ∧ tf u v l ≠ 0 ∧ ((a, b) = (0, 1) ∨ (a, b) = (1, 2) ∨ (a, b) = (3, 0) ∨ (a, b) = (2, 3)) ∧ P (fr (quo u v l a b))
theorem body_quotient_of {K : PySem.W.Frag} {mg : Str → Option Value} (T : Txt K mg) (E : XK) : ∀ (as : List AV) (P : D → Prop) (PX : XD → Prop), fs_quotient_of K as P PX → SatS (cn K E PX) (t_quotient_of K E) (gin as 1) (den P) := bD4 fun x y z w P PX q => by
  obtain ⟨u, v, l, a, b, rfl, rfl, rfl, rfl, su, sv, hu, hv, h0, hab, h⟩ := q
  obtain ⟨p, q, e1, e2, sp, sq, q0, e3, _⟩ := quo_ok su sv hu hv h0 hab
  unfold t_quotient_of
  walk_at "dl"
  refine ⟨_, _, _, rfl, rfl, su, sv, hu, hv, ?_⟩
  walk_at "dl"
  refine k2_ix (x := fr p) (.inr rfl) (atI_n (by rw [List.getElem?_map, e1]; rfl)) ?_
  walk_at "dl"
  refine k2_ix (x := fr q) (.inr rfl) (atI_n (by rw [List.getElem?_map, e2]; rfl)) ?_
  walk_at "dl"
  rw [e3] at h
  exact h
section
variable {P : Program} {w : World} {K : PySem.W.Frag} {mg : Str → Option Value} {base : Heap}
theorem ok_quotient_of {fd : FuncData} (F : FnP K "quotient_of" s_quotient_of fd) (T : Txt K mg) (c_divided : Cal P w K mg base 3 "divided" ["one", "other"] (fs_divided K)) (c_told_line : Cal P w K mg base 6 "told_line" ["pair", "line"] (fs_told_line K)) : FnOk P w K mg base (L2.CX P w) 7 (He.ga K "quotient_of") fd ["pair", "line", "later", "ahead"] (spF K (fs_quotient_of K)) := by
  refine fn_ok (k := 6) F sc_quotient_of len_D4 (by decide) (t_quotient_of K) (fun cdv A outer s H E hr => ?_) (body_quotient_of T)
  exact (pss_cons (ps_set (i := 4) sc_quotient_of.nd rfl (Or.inl rfl) (pe_cal c_told_line hr (by decide) rfl (pa_cons (pv 0) (pa_cons (pv 1) pa_nil))))
  (pss_one (ps_ret (pe_cal c_divided hr (by decide) rfl (pa_cons (pe_ix ix_seq (pv 4) (pv 2) (fun _ _ => rfl)) (pa_cons (pe_ix ix_seq (pv 4) (pv 3) (fun _ _ => rfl)) pa_nil))))))
end
/-- a corner of a cell with its line -/
structure Crn (u v : Rat) (l : Int) : Prop where
  su : Sz 200 u
  sv : Sz 200 v
  hu : 0 < u
  hv : 0 < v
  h0 : tf u v l ≠ 0
theorem Crn.sz {u v : Rat} {l : Int} (c : Crn u v l) {a b : Nat} (hab : (a, b) = (0, 1) ∨ (a, b) = (1, 2) ∨ (a, b) = (3, 0) ∨ (a, b) = (2, 3)) : Sz 820 (quo u v l a b) := by
  obtain ⟨_, _, _, _, _, _, _, _, h⟩ := quo_ok c.su c.sv c.hu c.hv c.h0 hab
  exact h
def linesD (l0 l1 l2 l3 : Int) : D := .tuple [.int l0, .int l1, .int l2, .int l3]
def quadD (u0 v0 u1 v1 u2 v2 u3 v3 : Rat) : D := .tuple [prD u0 v0, prD u1 v1, prD u2 v2, prD u3 v3]
def t_three_product (K : PySem.W.Frag) (E : XK) : TS :=
  (tSeq (tAsg (tCall (spF K (fs_quotient_of K)) [] E0 (tCons (tOp (rIx K) (tVar 0) (tC (.int 0))) (tCons (tOp (rIx K) (tVar 1) (tC (.int 0))) (tCons (tC (kv_EAST K)) (tCons (tC (kv_NORTH K)) tNil))))) (gName 2))
  (tSeq (tAsg (tCall (spF K (fs_product K)) [] E0 (tCons (tVar 2) (tCons (tCall (spF K (fs_quotient_of K)) [] E0 (tCons (tOp (rIx K) (tVar 0) (tC (.int 1))) (tCons (tOp (rIx K) (tVar 1) (tC (.int 1))) (tCons (tC (kv_NORTH K)) (tCons (tC (kv_WEST K)) tNil))))) tNil))) (gName 2))
  (tRet (tCall (spF K (fs_product K)) [] E0 (tCons (tVar 2) (tCons (tCall (spF K (fs_quotient_of K)) [] E0 (tCons (tOp (rIx K) (tVar 0) (tC (.int 3))) (tCons (tOp (rIx K) (tVar 1) (tC (.int 3))) (tCons (tC (kv_SOUTH K)) (tCons (tC (kv_EAST K)) tNil))))) tNil))))))
def fs_three_product (K : PySem.W.Frag) : FS := fsD2 fun x y P _ => ∃ u0 v0 u1 v1 u2 v2 u3 v3 l0 l1 l2 l3, x = quadD u0 v0 u1 v1 u2 v2 u3 v3 ∧ y = linesD l0 l1 l2 l3 ∧ Crn u0 v0 l0 ∧ Crn u1 v1 l1 ∧ Crn u3 v3 l3 ∧ P (fr (quo u0 v0 l0 0 1 * quo u1 v1 l1 1 2 * quo u3 v3 l3 3 0))
theorem body_three_product {K : PySem.W.Frag} {mg : Str → Option Value} (T : Txt K mg) (E : XK) : ∀ (as : List AV) (P : D → Prop) (PX : XD → Prop), fs_three_product K as P PX → SatS (cn K E PX) (t_three_product K E) (gin as 1) (den P) := bD2 fun x y P PX q => by
  obtain ⟨u0, v0, u1, v1, u2, v2, u3, v3, l0, l1, l2, l3, rfl, rfl, c0, c1, c3, h⟩ := q
  have s0 := c0.sz (a := 0) (b := 1) (.inl rfl)
  have s1 := c1.sz (a := 1) (b := 2) (.inr (.inl rfl))
  have s3 := c3.sz (a := 3) (b := 0) (.inr (.inr (.inl rfl)))
  unfold t_three_product quadD linesD
  walk_at "dl"
  refine ⟨_, _, _, 0, 1, rfl, rfl, rfl, rfl, c0.su, c0.sv, c0.hu, c0.hv, c0.h0, .inl rfl, ?_⟩
  walk_at "dl"
  refine ⟨_, _, _, 1, 2, rfl, rfl, rfl, rfl, c1.su, c1.sv, c1.hu, c1.hv, c1.h0, .inr (.inl rfl), ?_⟩
  walk_at "dl"
  refine ⟨_, _, _, 3, 0, rfl, rfl, rfl, rfl, c3.su, c3.sv, c3.hu, c3.hv, c3.h0, .inr (.inr (.inl rfl)), ?_⟩
  walk_at "dl"
  exact h
section
variable {P : Program} {w : World} {K : PySem.W.Frag} {mg : Str → Option Value} {base : Heap}
theorem ok_three_product {fd : FuncData} (F : FnP K "three_product" s_three_product fd) (T : Txt K mg) (c_product : Cal P w K mg base 3 "product" ["one", "other"] (fs_product K)) (c_quotient_of : Cal P w K mg base 7 "quotient_of" ["pair", "line", "later", "ahead"] (fs_quotient_of K)) : FnOk P w K mg base (L2.CX P w) 8 (He.ga K "three_product") fd ["corners", "lines"] (spF K (fs_three_product K)) := by
  refine fn_ok (k := 7) F sc_three_product len_D2 (by decide) (t_three_product K) (fun cdv A outer s H E hr => ?_) (body_three_product T)
  exact (pss_cons (ps_set (i := 2) sc_three_product.nd rfl (Or.inl rfl) (pe_cal c_quotient_of hr (by decide) rfl (pa_cons (pe_ix ix_seq (pv 0) pe_int (fun _ _ => rfl)) (pa_cons (pe_ix ix_seq (pv 1) pe_int (fun _ _ => rfl)) (pa_cons (C8.pe_gc rfl T.k_EAST) (pa_cons (C8.pe_gc rfl T.k_NORTH) pa_nil))))))
  (pss_cons (ps_set (i := 2) sc_three_product.nd rfl (Or.inl rfl) (pe_cal c_product hr (by decide) rfl (pa_cons (pv 2) (pa_cons (pe_cal c_quotient_of hr (by decide) rfl (pa_cons (pe_ix ix_seq (pv 0) pe_int (fun _ _ => rfl)) (pa_cons (pe_ix ix_seq (pv 1) pe_int (fun _ _ => rfl)) (pa_cons (C8.pe_gc rfl T.k_NORTH) (pa_cons (C8.pe_gc rfl T.k_WEST) pa_nil))))) pa_nil))))
  (pss_one (ps_ret (pe_cal c_product hr (by decide) rfl (pa_cons (pv 2) (pa_cons (pe_cal c_quotient_of hr (by decide) rfl (pa_cons (pe_ix ix_seq (pv 0) pe_int (fun _ _ => rfl)) (pa_cons (pe_ix ix_seq (pv 1) pe_int (fun _ _ => rfl)) (pa_cons (C8.pe_gc rfl T.k_SOUTH) (pa_cons (C8.pe_gc rfl T.k_EAST) pa_nil))))) pa_nil)))))))
end
def t_cell_comes_out (K : PySem.W.Frag) (E : XK) : TS :=
  (tSeq (tAsg (tCall (spF K (fs_product K)) [] E0 (tCons (tCall (spF K (fs_three_product K)) [] E0 (tCons (tVar 0) (tCons (tVar 1) tNil))) (tCons (tCall (spF K (fs_quotient_of K)) [] E0 (tCons (tOp (rIx K) (tVar 0) (tC (.int 2))) (tCons (tOp (rIx K) (tVar 1) (tC (.int 2))) (tCons (tC (kv_WEST K)) (tCons (tC (kv_SOUTH K)) tNil))))) tNil))) (gName 2))
  (tRet (tOp (rEqD K) (tVar 2) (tC (kv_ONE K)))))
def fs_cell_comes_out (K : PySem.W.Frag) : FS := fsD2 fun x y P _ => ∃ u0 v0 u1 v1 u2 v2 u3 v3 l0 l1 l2 l3, x = quadD u0 v0 u1 v1 u2 v2 u3 v3 ∧ y = linesD l0 l1 l2 l3 ∧ Crn u0 v0 l0 ∧ Crn u1 v1 l1 ∧ Crn u2 v2 l2 ∧ Crn u3 v3 l3 ∧
  P (.bool (decide (quo u0 v0 l0 0 1 * quo u1 v1 l1 1 2 * quo u3 v3 l3 3 0 * quo u2 v2 l2 2 3 = 1)))
theorem body_cell_comes_out {K : PySem.W.Frag} {mg : Str → Option Value} (T : Txt K mg) (E : XK) : ∀ (as : List AV) (P : D → Prop) (PX : XD → Prop), fs_cell_comes_out K as P PX → SatS (cn K E PX) (t_cell_comes_out K E) (gin as 1) (den P) := bD2 fun x y P PX q => by
  obtain ⟨u0, v0, u1, v1, u2, v2, u3, v3, l0, l1, l2, l3, rfl, rfl, c0, c1, c2, c3, h⟩ := q
  have s0 := c0.sz (a := 0) (b := 1) (.inl rfl)
  have s1 := c1.sz (a := 1) (b := 2) (.inr (.inl rfl))
  have s3 := c3.sz (a := 3) (b := 0) (.inr (.inr (.inl rfl)))
  have s2 := c2.sz (a := 2) (b := 3) (.inr (.inr (.inr rfl)))
  unfold t_cell_comes_out
  walk_at "dl"
  refine ⟨_, _, _, _, _, _, _, _, _, _, _, _, rfl, rfl, c0, c1, c3, ?_⟩
  unfold quadD linesD
  walk_at "dl"
  refine ⟨_, _, _, 2, 3, rfl, rfl, rfl, rfl, c2.su, c2.sv, c2.hu, c2.hv, c2.h0, .inr (.inr (.inr rfl)), ?_⟩
  walk_at "dl"
  exact h
section
variable {P : Program} {w : World} {K : PySem.W.Frag} {mg : Str → Option Value} {base : Heap}
theorem ok_cell_comes_out {fd : FuncData} (F : FnP K "cell_comes_out" s_cell_comes_out fd) (T : Txt K mg) (c_product : Cal P w K mg base 3 "product" ["one", "other"] (fs_product K)) (c_quotient_of : Cal P w K mg base 7 "quotient_of" ["pair", "line", "later", "ahead"] (fs_quotient_of K)) (c_three_product : Cal P w K mg base 8 "three_product" ["corners", "lines"] (fs_three_product K)) : FnOk P w K mg base (L2.CX P w) 9 (He.ga K "cell_comes_out") fd ["corners", "lines"] (spF K (fs_cell_comes_out K)) := by
  refine fn_ok (k := 8) F sc_cell_comes_out len_D2 (by decide) (t_cell_comes_out K) (fun cdv A outer s H E hr => ?_) (body_cell_comes_out T)
  exact (pss_cons (ps_set (i := 2) sc_cell_comes_out.nd rfl (Or.inl rfl) (pe_cal c_product hr (by decide) rfl (pa_cons (pe_cal c_three_product hr (by decide) rfl (pa_cons (pv 0) (pa_cons (pv 1) pa_nil))) (pa_cons (pe_cal c_quotient_of hr (by decide) rfl (pa_cons (pe_ix ix_seq (pv 0) pe_int (fun _ _ => rfl)) (pa_cons (pe_ix ix_seq (pv 1) pe_int (fun _ _ => rfl)) (pa_cons (C8.pe_gc rfl T.k_WEST) (pa_cons (C8.pe_gc rfl T.k_SOUTH) pa_nil))))) pa_nil))))
  (pss_one (ps_ret (pe_cmpR (op_eqD hr.units) (pv 2) (C8.pe_gc rfl T.k_ONE) (nomark _)))))
end
def t_cell_corners (K : PySem.W.Frag) (E : XK) : TS :=
  (tRet (tTup (tCons (tOp (rIx K) (tOp (rIx K) (tVar 0) (tVar 2)) (tVar 1)) (tCons (tOp (rIx K) (tOp (rIx K) (tVar 0) (tVar 2)) (tOp (rAddA K) (tVar 1) (tC (.int 1)))) (tCons (tOp (rIx K) (tOp (rIx K) (tVar 0) (tOp (rAddA K) (tVar 2) (tC (.int 1)))) (tOp (rAddA K) (tVar 1) (tC (.int 1)))) (tCons (tOp (rIx K) (tOp (rIx K) (tVar 0) (tOp (rAddA K) (tVar 2) (tC (.int 1)))) (tVar 1)) tNil))))))
def fs_cell_corners (K : PySem.W.Frag) : FS := fsD3 fun x y z P _ => ∃ rs r0 r1 xs ys a b c e, ∃ i j : Nat, rowD x = some rs ∧ y = .int i ∧ z = .int j ∧ rs[j]? = some r0 ∧ rs[j + 1]? = some r1 ∧ rowD r0 = some xs ∧ rowD r1 = some ys ∧
  xs[i]? = some a ∧ xs[i + 1]? = some b ∧ ys[i + 1]? = some c ∧ ys[i]? = some e ∧ P (.tuple [a, b, c, e])
theorem body_cell_corners {K : PySem.W.Frag} {mg : Str → Option Value} (T : Txt K mg) (E : XK) : ∀ (as : List AV) (P : D → Prop) (PX : XD → Prop), fs_cell_corners K as P PX → SatS (cn K E PX) (t_cell_corners K E) (gin as 0) (den P) := bD3 fun x y z P PX q => by
  obtain ⟨rs, r0, r1, xs, ys, a, b, c, e, i, j, h1, rfl, rfl, h2, h3, h4, h5, h6, h7, h8, h9, h⟩ := q
  unfold t_cell_corners
  walk_at "dl"
  refine ix_row h1 rfl h2 ?_
  walk_at "dl"
  refine ix_row h4 rfl h6 ?_
  walk_at "dl"
  refine ix_row h1 rfl h2 ?_
  walk_at "dl"
  refine ix_row h4 rfl h7 ?_
  walk_at "dl"
  refine ix_row h1 rfl h3 ?_
  walk_at "dl"
  refine ix_row h5 rfl h8 ?_
  walk_at "dl"
  refine ix_row h1 rfl h3 ?_
  walk_at "dl"
  refine ix_row h5 rfl h9 ?_
  walk_at "dl"
  exact h
section
variable {P : Program} {w : World} {K : PySem.W.Frag} {mg : Str → Option Value} {base : Heap}
theorem ok_cell_corners {fd : FuncData} (F : FnP K "cell_corners" s_cell_corners fd) (T : Txt K mg)  : FnOk P w K mg base (L2.CX P w) 1 (He.ga K "cell_corners") fd ["table", "i", "j"] (spF K (fs_cell_corners K)) := by
  refine fn_ok (k := 0) F sc_cell_corners len_D3 (by decide) (t_cell_corners K) (fun cdv A outer s H E hr => ?_) (body_cell_corners T)
  exact (pss_one (ps_ret (pe_tup (pa_cons (pe_ix ix_seq (pe_ix ix_seq (pv 0) (pv 2) (fun _ _ => rfl)) (pv 1) (fun _ _ => rfl)) (pa_cons (pe_ix ix_seq (pe_ix ix_seq (pv 0) (pv 2) (fun _ _ => rfl)) (pe_op op_addA (pv 1) pe_int) (fun _ _ => rfl)) (pa_cons (pe_ix ix_seq (pe_ix ix_seq (pv 0) (pe_op op_addA (pv 2) pe_int) (fun _ _ => rfl)) (pe_op op_addA (pv 1) pe_int) (fun _ _ => rfl)) (pa_cons (pe_ix ix_seq (pe_ix ix_seq (pv 0) (pe_op op_addA (pv 2) pe_int) (fun _ _ => rfl)) (pv 1) (fun _ _ => rfl)) pa_nil)))))))
end
def closes (a b c d : Rat) : Prop := (1 - a * b) * (c + d) = (1 - c * d) * (a + b)
instance {a b c d : Rat} : Decidable (closes a b c d) := by unfold closes; infer_instance
def t_cell_closes (K : PySem.W.Frag) (E : XK) : TS :=
  (tSeq (tAsg (tVar 0) (gTup K 4 (gCons (gName 1) (gCons (gName 2) (gCons (gName 3) (gCons (gName 4) gNil))))))
  (tSeq (tAsg (tCall (spF K (fs_minus K)) [] E0 (tCons (tC (kv_ONE K)) (tCons (tCall (spF K (fs_product K)) [] E0 (tCons (tOp (rIx K) (tVar 1) (tC (.int 0))) (tCons (tOp (rIx K) (tVar 2) (tC (.int 1))) tNil))) tNil))) (gName 5))
  (tSeq (tAsg (tCall (spF K (fs_minus K)) [] E0 (tCons (tC (kv_ONE K)) (tCons (tCall (spF K (fs_product K)) [] E0 (tCons (tOp (rIx K) (tVar 3) (tC (.int 0))) (tCons (tOp (rIx K) (tVar 4) (tC (.int 1))) tNil))) tNil))) (gName 6))
  (tSeq (tAsg (tCall (spF K (fs_plus K)) [] E0 (tCons (tOp (rIx K) (tVar 3) (tC (.int 0))) (tCons (tOp (rIx K) (tVar 4) (tC (.int 1))) tNil))) (gName 7))
  (tRet (tOp (rEqD K) (tCall (spF K (fs_product K)) [] E0 (tCons (tVar 5) (tCons (tVar 7) tNil))) (tCall (spF K (fs_product K)) [] E0 (tCons (tVar 6) (tCons (tCall (spF K (fs_plus K)) [] E0 (tCons (tOp (rIx K) (tVar 1) (tC (.int 0))) (tCons (tOp (rIx K) (tVar 2) (tC (.int 1))) tNil))) tNil)))))))))
def fs_cell_closes (K : PySem.W.Frag) : FS := fsD1 fun x P _ => ∃ u0 v0 u1 v1 u2 v2 u3 v3, x = quadD u0 v0 u1 v1 u2 v2 u3 v3 ∧ Sz 200 u0 ∧ Sz 200 v1 ∧ Sz 200 u2 ∧ Sz 200 v3 ∧ P (.bool (decide (closes u0 v1 u2 v3)))
theorem body_cell_closes {K : PySem.W.Frag} {mg : Str → Option Value} (T : Txt K mg) (E : XK) : ∀ (as : List AV) (P : D → Prop) (PX : XD → Prop), fs_cell_closes K as P PX → SatS (cn K E PX) (t_cell_closes K E) (gin as 7) (den P) := bD1 fun x P PX q => by
  obtain ⟨u0, v0, u1, v1, u2, v2, u3, v3, rfl, s0, s1, s2, s3, h⟩ := q
  unfold t_cell_closes quadD prD
  walk_at "dl"
  exact h
section
variable {P : Program} {w : World} {K : PySem.W.Frag} {mg : Str → Option Value} {base : Heap}
theorem ok_cell_closes {fd : FuncData} (F : FnP K "cell_closes" s_cell_closes fd) (T : Txt K mg) (c_minus : Cal P w K mg base 4 "minus" ["one", "other"] (fs_minus K)) (c_plus : Cal P w K mg base 3 "plus" ["one", "other"] (fs_plus K)) (c_product : Cal P w K mg base 3 "product" ["one", "other"] (fs_product K)) : FnOk P w K mg base (L2.CX P w) 5 (He.ga K "cell_closes") fd ["corners"] (spF K (fs_cell_closes K)) := by
  refine fn_ok (k := 4) F sc_cell_closes len_D1 (by decide) (t_cell_closes K) (fun cdv A outer s H E hr => ?_) (body_cell_closes T)
  exact (pss_cons (ps_asg (pv 0) (pg_tup (by rfl) (pgs_cons (pg_name (i := 1) sc_cell_closes.nd rfl (Or.inl rfl)) (pgs_cons (pg_name (i := 2) sc_cell_closes.nd rfl (Or.inl rfl)) (pgs_cons (pg_name (i := 3) sc_cell_closes.nd rfl (Or.inl rfl)) (pgs_cons (pg_name (i := 4) sc_cell_closes.nd rfl (Or.inl rfl)) pgs_nil))))))
  (pss_cons (ps_set (i := 5) sc_cell_closes.nd rfl (Or.inl rfl) (pe_cal c_minus hr (by decide) rfl (pa_cons (C8.pe_gc rfl T.k_ONE) (pa_cons (pe_cal c_product hr (by decide) rfl (pa_cons (pe_ix ix_seq (pv 1) pe_int (fun _ _ => rfl)) (pa_cons (pe_ix ix_seq (pv 2) pe_int (fun _ _ => rfl)) pa_nil))) pa_nil))))
  (pss_cons (ps_set (i := 6) sc_cell_closes.nd rfl (Or.inl rfl) (pe_cal c_minus hr (by decide) rfl (pa_cons (C8.pe_gc rfl T.k_ONE) (pa_cons (pe_cal c_product hr (by decide) rfl (pa_cons (pe_ix ix_seq (pv 3) pe_int (fun _ _ => rfl)) (pa_cons (pe_ix ix_seq (pv 4) pe_int (fun _ _ => rfl)) pa_nil))) pa_nil))))
  (pss_cons (ps_set (i := 7) sc_cell_closes.nd rfl (Or.inl rfl) (pe_cal c_plus hr (by decide) rfl (pa_cons (pe_ix ix_seq (pv 3) pe_int (fun _ _ => rfl)) (pa_cons (pe_ix ix_seq (pv 4) pe_int (fun _ _ => rfl)) pa_nil))))
  (pss_one (ps_ret (pe_cmpR (op_eqD hr.units) (pe_cal c_product hr (by decide) rfl (pa_cons (pv 5) (pa_cons (pv 7) pa_nil))) (pe_cal c_product hr (by decide) rfl (pa_cons (pv 6) (pa_cons (pe_cal c_plus hr (by decide) rfl (pa_cons (pe_ix ix_seq (pv 1) pe_int (fun _ _ => rfl)) (pa_cons (pe_ix ix_seq (pv 2) pe_int (fun _ _ => rfl)) pa_nil))) pa_nil))) (nomark _))))))))
end
end X85
end
section
namespace X85
open PySem L2 DL
local macro_rules | `(tactic| walk_at "bi") => `(tactic| first
  | assumption
  | exact Sz.nb (by assumption) (by decide) | exact Sz.db (by assumption) (by decide)
  | (unfold Bi; decide))
local macro_rules | `(tactic| walk_at "sz0") => `(tactic| first
  | assumption
  | exact Sz.one | exact Sz.zero
  | ((apply Sz.neg); (· walk_at "sz0"))
  | ((apply Sz.mul); (· walk_at "sz0"); (· walk_at "sz0"))
  | ((apply Sz.add); (· walk_at "sz0"); (· walk_at "sz0"))
  | ((apply Sz.sub); (· walk_at "sz0"); (· walk_at "sz0"))
  | ((apply Sz.div); (· walk_at "sz0"); (· walk_at "sz0"); (· assumption)))
local macro_rules | `(tactic| walk_at "sz") => `(tactic| first | assumption | ((apply Sz.mono); (· walk_at "sz0"); (· decide)))
local macro_rules | `(tactic| walk_at "d1") => `(tactic| first
  | with_reducible refine sat_seq ?_ | with_reducible refine sat_if ?_ | with_reducible refine sat_ret ?_ | with_reducible refine sat_retN ?_ | with_reducible refine sat_next ?_ | with_reducible refine sat_par ?_
  | with_reducible refine sat_asgHot (el_lst (ea_nil ⟨_, rfl, Nat.le_of_ble_eq_true rfl, ?_⟩))
  | with_reducible refine sat_asg ?_ | with_reducible refine sat_asgG ?_ | with_reducible refine eg_tup4 ?_ | with_reducible refine eg_tup2 ?_ | with_reducible refine eg_name ?_
  | with_reducible refine evt_of ?_ | with_reducible refine evt_B ?_ | with_reducible refine evt_and ?_ | with_reducible refine evt_or ?_ | with_reducible refine evt_not ?_ | with_reducible refine evt_yes ?_
  | ((with_reducible apply ev_var); · exact rfl)
  | with_reducible refine ev_int ?_ | with_reducible refine ev_str ?_ | with_reducible refine ev_bl ?_ | with_reducible refine ev_non ?_
  | refine ev_ixHot rfl rfl ?_ | refine ev_lenHot rfl rfl ?_
  | with_reducible refine ev_op ?_ | with_reducible refine ev_neg ?_ | with_reducible refine ev_and ?_ | with_reducible refine ev_or ?_ | with_reducible refine ev_not ?_ | with_reducible refine ev_if ?_ | with_reducible refine ev_chain ?_
  | with_reducible refine ev_tup ?_ | with_reducible refine ev_call ?_ | with_reducible refine ev_callS ?_ | with_reducible refine ev_callKS ?_
  | refine ev_isiT (ns := ["list", "tuple"]) (by decide) ?_
  | with_reducible refine ev_cb ?_
  | with_reducible refine ea_nil ?_ | refine ea_val (v := .ty _) ?_ | ((with_reducible apply ea_st); · exact rfl) | with_reducible refine ea_cons ?_
  | refine ev_int ?_
  | refine ix_fr0 ?_ | refine ix_fr1 ?_ | refine k2_ix (.inl rfl) rfl ?_ | refine k2_ix (.inr rfl) rfl ?_
  | refine k2_mul (bi_mulOk (n := 9000) (m := 9000) (by walk_at "bi") (by walk_at "bi") (by decide)) ?_
  | refine k2_add ?_
  | refine k2_eqI ?_ | refine k2_neI ?_ | refine k2_eqF ?_ | refine k2_eqF2 ?_ | refine k2_neB ?_ | refine k2_is ?_ | refine k2_isnot ?_ | refine k2_isB ?_
  | refine k2_IB ?_ | refine k2_II ?_
  | refine kc_abs ?_ | refine kc_intI ?_ | refine kc_isi rfl ?_ | refine kc_len rfl ?_ | refine kc_all ?_
  | refine tup_one ?_ | refine tup_zero ?_ | refine tup_m1 ?_ | refine tup_neg ?_ | refine tup_any rfl (Nat.le_of_ble_eq_true rfl) ?_
  | refine tt_split ?_ | refine ff_split ?_
  | refine bool_any ?_ | refine int_any ?_ | refine ⟨_, _, rfl, ?_⟩
  | ((refine cD1 ?_); (try dsimp only)) | ((refine cD2 ?_); (try dsimp only)) | ((refine cD3 ?_); (try dsimp only)) | ((refine cD4 ?_); (try dsimp only)) | ((refine cS0 ?_); (try dsimp only)) | ((refine cS1 ?_); (try dsimp only)) | ((refine cS2 ?_); (try dsimp only)) | ((refine cS3 ?_); (try dsimp only))
  | refine sz_and (by walk_at "sz") ?_
  | refine ne_and (by assumption) ?_
  | refine ev_c (rp_ONE (by assumption)) ?_ | refine ev_c (rp_ZERO (by assumption)) ?_
  | refine ⟨_, _, rfl, rfl, ?_⟩ | refine ⟨_, _, _, rfl, rfl, rfl, ?_⟩ | refine ⟨_, _, _, _, rfl, rfl, rfl, rfl, ?_⟩)
local macro_rules | `(tactic| walk_at "dl") => `(tactic| repeat (walk_at "d1"))

theorem frD_some {d : D} {q : Rat} (h : frD d = some q) : d = fr q := by
  unfold frD at h
  split at h
  · rename_i a b
    unfold fr2 at h
    split at h
    · rename_i a b
      split at h
      · rename_i hc
        cases h
        have b0 : b ≠ 0 := by omega
        have e1 := low_num (a := a) b0
        have e2 := low_den (a := a) b0
        have bn : ¬ b < 0 := by omega
        rw [if_neg bn, hc.2] at e1 e2
        unfold fr
        rw [← e1, ← e2]
        simp
      · cases h
    · cases h
  · cases h
def posF (d : D) : Bool := match frD d with
  | some q => decide (0 < q)
  | none => false
def angD : D → Bool
  | .tuple [a, b] => posF a && posF b
  | _ => false
theorem angD_len {xs : List D} (h : xs.length ≠ 2) : angD (.tuple xs) = false := by
  match xs with
  | [] => rfl
  | [_] => rfl
  | [_, _] => simp at h
  | _ :: _ :: _ :: _ => rfl
theorem posF_none {d : D} (h : frD d = none) : posF d = false := by unfold posF; rw [h]
theorem posF_some {d : D} {q : Rat} (h : frD d = some q) : posF d = decide (0 < q) := by unfold posF; rw [h]
theorem dec_pos {q : Rat} : decide (0 < q.num) = decide (0 < q) := by
  by_cases h : 0 < q
  · rw [decide_eq_true h, decide_eq_true (num_pos.mpr h)]
  · rw [decide_eq_false h, decide_eq_false fun z => h (num_pos.mp z)]
def t_is_angles (K : PySem.W.Frag) (E : XK) : TS :=
  (tSeq (tIfS (tOr (tNot (tB (tCB (rIsi K) (tCons (tVar 0) (tCons (tC (.ty "tuple")) tNil))))) (tOr (tTest (tOp (rNeD K) (tCB (rLenB K) (tCons (tVar 0) tNil)) (tC (.int 2)))) (tOr (tNot (tB (tCall (spF K (fs_is_fraction K)) [] E0 (tCons (tOp (rIx K) (tVar 0) (tC (.int 0))) tNil)))) (tNot (tB (tCall (spF K (fs_is_fraction K)) [] E0 (tCons (tOp (rIx K) (tVar 0) (tC (.int 1))) tNil))))))) (tRet (tC (.bl false))) tNext)
  (tRet (tAndV (tOp rGtI (tOp (rIx K) (tOp (rIx K) (tVar 0) (tC (.int 0))) (tC (.int 0))) (tC (.int 0))) (tOp rGtI (tOp (rIx K) (tOp (rIx K) (tVar 0) (tC (.int 1))) (tC (.int 0))) (tC (.int 0))))))
def fs_is_angles (K : PySem.W.Frag) : FS := fsD1 fun x P _ => P (.bool (angD x))
theorem body_is_angles {K : PySem.W.Frag} {mg : Str → Option Value} (T : Txt K mg) (E : XK) : ∀ (as : List AV) (P : D → Prop) (PX : XD → Prop), fs_is_angles K as P PX → SatS (cn K E PX) (t_is_angles K E) (gin as 0) (den P) := bD1 fun x P PX q => by
  unfold t_is_angles
  cases x with
  | tuple xs =>
    walk_at "dl"
    refine ⟨fun h => ?_, fun h => ?_⟩
    · walk_at "dl"
      rw [angD_len (by intro z; simp [z] at h)] at q
      exact q
    obtain ⟨a, b, rfl⟩ := len2 (xs := xs) (by simp at h; omega)
    walk_at "dl"
    cases ha : frD a with
    | none =>
      walk_at "dl"
      have : angD (.tuple [a, b]) = false := by show (posF a && posF b) = false; rw [posF_none ha]; rfl
      rw [this] at q
      exact q
    | some p =>
    walk_at "dl"
    cases hb : frD b with
    | none =>
      walk_at "dl"
      have : angD (.tuple [a, b]) = false := by show (posF a && posF b) = false; rw [posF_none hb]; simp
      rw [this] at q
      exact q
    | some r =>
      have e : angD (.tuple [a, b]) = (decide (0 < p) && decide (0 < r)) := by show (posF a && posF b) = _; rw [posF_some ha, posF_some hb]
      rw [e] at q
      have ea := frD_some ha
      have eb := frD_some hb
      subst ea eb
      walk_at "dl"
      rw [dec_pos]
      refine ⟨fun h1 => ?_, fun h1 => ?_⟩
      · walk_at "dl"
        rw [dec_pos]
        rw [h1] at q
        exact q
      · rw [h1] at q
        exact q
  | _ => walk_at "dl"; exact q
section
variable {P : Program} {w : World} {K : PySem.W.Frag} {mg : Str → Option Value} {base : Heap}
theorem ok_is_angles {fd : FuncData} (F : FnP K "is_angles" s_is_angles fd) (T : Txt K mg) (c_is_fraction : Cal P w K mg base 2 "is_fraction" ["thing"] (fs_is_fraction K)) : FnOk P w K mg base (L2.CX P w) 3 (He.ga K "is_angles") fd ["thing"] (spF K (fs_is_angles K)) := by
  refine fn_ok (k := 2) F sc_is_angles len_D1 (by decide) (t_is_angles K) (fun cdv A outer s H E hr => ?_) (body_is_angles T)
  exact (pss_cons (ps_if (PW.pt (pw_or (pt_not (pt_val (pe_callB call_isi (by rfl) T.n_isinstance (by decide +kernel) (pa_cons (pv 0) (pa_cons (pe_bltn (v := .ty "tuple") (u := .type "tuple") rfl T.n_tuple (by decide +kernel) rfl) pa_nil))))) (pw_or (pt_cmpR (op_neD hr.units) (pe_callB call_len (by rfl) T.n_len (by decide +kernel) (pa_cons (pv 0) pa_nil)) pe_int (nomark _)) (pw_or (pt_not (pt_val (pe_cal c_is_fraction hr (by decide) rfl (pa_cons (pe_ix ix_seq (pv 0) pe_int (fun _ _ => rfl)) pa_nil)))) (pw_or1 (pt_not (pt_val (pe_cal c_is_fraction hr (by decide) rfl (pa_cons (pe_ix ix_seq (pv 0) pe_int (fun _ _ => rfl)) pa_nil))))))))) (pss_one (ps_ret pe_bl)) pss_nil)
  (pss_one (ps_ret (pe_and (pe_cmpR op_gt (pe_ix ix_seq (pe_ix ix_seq (pv 0) pe_int (fun _ _ => rfl)) pe_int (fun _ _ => rfl)) pe_int (nomark _)) (pe_one (pe_cmpR op_gt (pe_ix ix_seq (pe_ix ix_seq (pv 0) pe_int (fun _ _ => rfl)) pe_int (fun _ _ => rfl)) pe_int (nomark _)))))))
end
def rowT (d : D) : Bool := match rowD d with
  | some xs => decide (1 ≤ xs.length) && (decide (xs.length ≤ 4) && xs.all angD)
  | none => false
theorem all_id {xs : List D} {f : D → Bool} : (xs.map f).all id = xs.all f := by simp
theorem map_at {xs : List D} {f : D → Bool} {n : Nat} {z y : D} (hz : xs[n]? = some z) (hy : ((xs.map f).map PyData.bool)[n]? = some y) : y = .bool (f z) := by
  rw [List.getElem?_map, List.getElem?_map, hz] at hy
  cases hy
  rfl
def t_is_angle_row (K : PySem.W.Frag) (E : XK) : TS :=
  (tRet (tAndV (tCall (spF K (fs_is_row K)) [] E0 (tCons (tVar 0) tNil)) (tAndV (tChain rLeI rLeI (tC (.int 1)) (tCB (rLenB K) (tCons (tVar 0) tNil)) (tC (kv_MOST_WIDE K))) (tCB (rAll K) (tCons (tLc (iAny K (tVar 0)) (gName 1) tYes (tCall (spF K (fs_is_angles K)) [] E0 (tCons (tVar 1) tNil)) [1]) tNil)))))
def fs_is_angle_row (K : PySem.W.Frag) : FS := fsD1 fun x P _ => P (.bool (rowT x))
theorem body_is_angle_row {K : PySem.W.Frag} {mg : Str → Option Value} (T : Txt K mg) (E : XK) : ∀ (as : List AV) (P : D → Prop) (PX : XD → Prop), fs_is_angle_row K as P PX → SatS (cn K E PX) (t_is_angle_row K E) (gin as 1) (den P) := bD1 fun x P PX q => by
  unfold t_is_angle_row
  walk_at "dl"
  unfold rowT at q
  cases hr : rowD x with
  | none => rw [hr] at q; walk_at "dl"; exact q
  | some xs =>
    rw [hr] at q
    dsimp only at q
    walk_at "dl"
    refine kc_lenR hr ?_
    walk_at "dl"
    refine ⟨fun h1 => ?_, fun h1 => ?_⟩
    · have l1 : 1 ≤ xs.length := by have := of_decide_eq_true h1; omega
      rw [decide_eq_true l1] at q
      walk_at "dl"
      refine ⟨fun h2 => ?_, fun h2 => ?_⟩
      · have l2 : xs.length ≤ 4 := by have := of_decide_eq_true h2; omega
        rw [decide_eq_true l2] at q
        walk_at "dl"
        refine ev_ofL (el_comp (ei_any (ev_var rfl ⟨xs, rowD_seq hr, compI_map (ys := (xs.map angD).map .bool) (by simp) (by omega) (fun n z y hz hy => egw_name (by simp) ?_) ?_⟩)))
        · walk_at "dl"
          exact (map_at hz hy).symm
        · walk_at "dl"
          rw [all_id]
          exact q
      · have l2 : ¬ xs.length ≤ 4 := by have := of_decide_eq_false h2; omega
        rw [decide_eq_false l2] at q
        exact q
    · have l1 : ¬ 1 ≤ xs.length := by have := of_decide_eq_false h1; omega
      rw [decide_eq_false l1] at q
      walk_at "dl"
      exact q
section
variable {P : Program} {w : World} {K : PySem.W.Frag} {mg : Str → Option Value} {base : Heap}
theorem ok_is_angle_row {fd : FuncData} (F : FnP K "is_angle_row" s_is_angle_row fd) (T : Txt K mg) (c_is_angles : Cal P w K mg base 3 "is_angles" ["thing"] (fs_is_angles K)) (c_is_row : Cal P w K mg base 1 "is_row" ["thing"] (fs_is_row K)) : FnOk P w K mg base (L2.CX P w) 4 (He.ga K "is_angle_row") fd ["thing"] (spF K (fs_is_angle_row K)) := by
  refine fn_ok (k := 3) F sc_is_angle_row len_D1 (by decide) (t_is_angle_row K) (fun cdv A outer s H E hr => ?_) (body_is_angle_row T)
  exact (pss_one (ps_ret (pe_and (pe_cal c_is_row hr (by decide) rfl (pa_cons (pv 0) pa_nil)) (pe_and (pe_chain op_le op_le pe_int (pe_callB call_len (by rfl) T.n_len (by decide +kernel) (pa_cons (pv 0) pa_nil)) (C8.pe_gc rfl T.k_MOST_WIDE)) (pe_one (pe_callB (cr_all rfl) (by rfl) T.n_all (by decide +kernel) (pa_cons (pe_lc (own := [("item", 1)]) (g := (gName 1)) (tt := tYes) rfl sc_is_angle_row.nd (pi_any (pv 0)) (blkOk_by (own := [("item", 1)]) (N := N_is_angle_row) (sc := defScope s_is_angle_row) (by decide +kernel)) (fun _ _ _ _ _ => (pg_name (i := 1) sc_is_angle_row.nd rfl (by first | exact Or.inl rfl | exact Or.inr rfl))) (fun _ _ _ _ _ => pts_nil) (fun _ _ _ _ _ => (pe_cal c_is_angles hr (by decide) rfl (pa_cons (pv 1) pa_nil)))) pa_nil)))))))
end
def rowLen (d : D) : Nat := match rowD d with
  | some xs => xs.length
  | none => 0
theorem rowLen_of {d : D} {xs : List D} (h : rowD d = some xs) : rowLen d = xs.length := by unfold rowLen; rw [h]
theorem rowT_row {d : D} (h : rowT d = true) : ∃ xs, rowD d = some xs ∧ 1 ≤ xs.length ∧ xs.length ≤ 4 ∧ xs.all angD = true := by
  unfold rowT at h
  cases hr : rowD d with
  | none => rw [hr] at h; cases h
  | some xs =>
    rw [hr] at h
    simp only [Bool.and_eq_true, decide_eq_true_eq] at h
    exact ⟨xs, rfl, h.1, h.2.1, h.2.2⟩
def isTabD (d : D) : Bool := match rowD d with
  | some rs => decide (1 ≤ rs.length) && (decide (rs.length ≤ 4) && (rs.all rowT && rs.all fun r => decide (rowLen r = rowLen (rs.getD 0 .none))))
  | none => false
def t_is_table (K : PySem.W.Frag) (E : XK) : TS :=
  (tSeq (tIfS (tOr (tNot (tB (tCall (spF K (fs_is_row K)) [] E0 (tCons (tVar 0) tNil)))) (tOr (tNot (tTest (tChain rLeI rLeI (tC (.int 1)) (tCB (rLenB K) (tCons (tVar 0) tNil)) (tC (kv_MOST_WIDE K))))) (tNot (tB (tCB (rAll K) (tCons (tLc (iAny K (tVar 0)) (gName 1) tYes (tCall (spF K (fs_is_angle_row K)) [] E0 (tCons (tVar 1) tNil)) [1]) tNil)))))) (tRet (tC (.bl false))) tNext)
  (tRet (tCB (rAll K) (tCons (tLc (iAny K (tVar 0)) (gName 1) tYes (tOp (rEqD K) (tCB (rLenB K) (tCons (tVar 1) tNil)) (tCB (rLenB K) (tCons (tOp (rIx K) (tVar 0) (tC (.int 0))) tNil))) [1]) tNil))))
def fs_is_table (K : PySem.W.Frag) : FS := fsD1 fun x P _ => P (.bool (isTabD x))
theorem body_is_table {K : PySem.W.Frag} {mg : Str → Option Value} (T : Txt K mg) (E : XK) : ∀ (as : List AV) (P : D → Prop) (PX : XD → Prop), fs_is_table K as P PX → SatS (cn K E PX) (t_is_table K E) (gin as 1) (den P) := bD1 fun x P PX q => by
  unfold t_is_table
  walk_at "dl"
  unfold isTabD at q
  cases hr : rowD x with
  | none => rw [hr] at q; walk_at "dl"; exact q
  | some xs =>
    rw [hr] at q
    dsimp only at q
    walk_at "dl"
    refine kc_lenR hr ?_
    walk_at "dl"
    by_cases l1 : 1 ≤ xs.length
    case neg =>
      have e1 : decide (1 ≤ (xs.length : Int)) = false := decide_eq_false (by omega)
      rw [e1]
      rw [decide_eq_false l1] at q
      walk_at "dl"
      exact q
    have e1 : decide (1 ≤ (xs.length : Int)) = true := decide_eq_true (by omega)
    rw [e1]
    rw [decide_eq_true l1] at q
    walk_at "dl"
    by_cases l2 : xs.length ≤ 4
    case neg =>
      have e2 : decide ((xs.length : Int) ≤ 4) = false := decide_eq_false (by omega)
      rw [e2]
      rw [decide_eq_false l2] at q
      walk_at "dl"
      exact q
    have e2 : decide ((xs.length : Int) ≤ 4) = true := decide_eq_true (by omega)
    rw [e2]
    rw [decide_eq_true l2] at q
    walk_at "dl"
    refine ev_ofL (el_comp (ei_any (ev_var rfl ⟨xs, rowD_seq hr, compI_map (ys := (xs.map rowT).map .bool) (by simp) (by omega) (fun n z y hz hy => egw_name (by simp) ?_) ?_⟩)))
    · walk_at "dl"
      exact (map_at hz hy).symm
    walk_at "dl"
    rw [all_id]
    cases ha : xs.all rowT with
    | false =>
      rw [ha] at q
      walk_at "dl"
      exact q
    | true =>
      rw [ha] at q
      have rows : ∀ (n : Nat) (z : D), xs[n]? = some z → ∃ ys, rowD z = some ys := fun n z hz => by
        obtain ⟨ys, h, _⟩ := rowT_row (List.all_eq_true.mp ha z (List.mem_of_getElem? hz))
        exact ⟨ys, h⟩
      have h0 : xs[0]? = some xs[0] := List.getElem?_eq_getElem l1
      have e0 : xs.getD 0 .none = xs[0] := by rw [List.getD_eq_getElem?_getD, h0]; rfl
      obtain ⟨r0, hr0⟩ := rows 0 _ h0
      walk_at "dl"
      refine ev_ofL (el_comp (ei_any (ev_var rfl ⟨xs, rowD_seq hr, compI_map (ys := (xs.map fun r => decide (rowLen r = rowLen (xs.getD 0 .none))).map .bool) (by simp) (by omega) (fun n z y hz hy => egw_name (by simp) ?_) ?_⟩)))
      · obtain ⟨ys, hys⟩ := rows n z hz
        walk_at "dl"
        refine kc_lenR hys ?_
        walk_at "dl"
        refine ix_row (n := 0) hr rfl h0 ?_
        walk_at "dl"
        refine kc_lenR hr0 ?_
        walk_at "dl"
        rw [map_at hz hy, e0, rowLen_of hys, rowLen_of hr0]
        simp
        omega
      · walk_at "dl"
        rw [all_id]
        exact q
section
variable {P : Program} {w : World} {K : PySem.W.Frag} {mg : Str → Option Value} {base : Heap}
theorem ok_is_table {fd : FuncData} (F : FnP K "is_table" s_is_table fd) (T : Txt K mg) (c_is_angle_row : Cal P w K mg base 4 "is_angle_row" ["thing"] (fs_is_angle_row K)) (c_is_row : Cal P w K mg base 1 "is_row" ["thing"] (fs_is_row K)) : FnOk P w K mg base (L2.CX P w) 5 (He.ga K "is_table") fd ["thing"] (spF K (fs_is_table K)) := by
  refine fn_ok (k := 4) F sc_is_table len_D1 (by decide) (t_is_table K) (fun cdv A outer s H E hr => ?_) (body_is_table T)
  exact (pss_cons (ps_if (PW.pt (pw_or (pt_not (pt_val (pe_cal c_is_row hr (by decide) rfl (pa_cons (pv 0) pa_nil)))) (pw_or (pt_not (pt_chain op_le op_le pe_int (pe_callB call_len (by rfl) T.n_len (by decide +kernel) (pa_cons (pv 0) pa_nil)) (C8.pe_gc rfl T.k_MOST_WIDE))) (pw_or1 (pt_not (pt_val (pe_callB (cr_all rfl) (by rfl) T.n_all (by decide +kernel) (pa_cons (pe_lc (own := [("row", 1)]) (g := (gName 1)) (tt := tYes) rfl sc_is_table.nd (pi_any (pv 0)) (blkOk_by (own := [("row", 1)]) (N := N_is_table) (sc := defScope s_is_table) (by decide +kernel)) (fun _ _ _ _ _ => (pg_name (i := 1) sc_is_table.nd rfl (by first | exact Or.inl rfl | exact Or.inr rfl))) (fun _ _ _ _ _ => pts_nil) (fun _ _ _ _ _ => (pe_cal c_is_angle_row hr (by decide) rfl (pa_cons (pv 1) pa_nil)))) pa_nil)))))))) (pss_one (ps_ret pe_bl)) pss_nil)
  (pss_one (ps_ret (pe_callB (cr_all rfl) (by rfl) T.n_all (by decide +kernel) (pa_cons (pe_lc (own := [("row", 1)]) (g := (gName 1)) (tt := tYes) rfl sc_is_table.nd (pi_any (pv 0)) (blkOk_by (own := [("row", 1)]) (N := N_is_table) (sc := defScope s_is_table) (by decide +kernel)) (fun _ _ _ _ _ => (pg_name (i := 1) sc_is_table.nd rfl (by first | exact Or.inl rfl | exact Or.inr rfl))) (fun _ _ _ _ _ => pts_nil) (fun _ _ _ _ _ => (pe_cmpR (op_eqD hr.units) (pe_callB call_len (by rfl) T.n_len (by decide +kernel) (pa_cons (pv 1) pa_nil)) (pe_callB call_len (by rfl) T.n_len (by decide +kernel) (pa_cons (pe_ix ix_seq (pv 0) pe_int (fun _ _ => rfl)) pa_nil)) (nomark _)))) pa_nil)))))
end
def t_check_table (K : PySem.W.Frag) (E : XK) : TS :=
  (tIfS (tNot (tB (tCall (spF K (fs_is_table K)) [] E0 (tCons (tVar 0) tNil)))) (fun _ σ H => (fun (_ : L2.St) (H : Hp) (Q : XK) => Q (.ref (He.ga K "BadTable")) none H) σ H fun cls d H' => (fun cls d (_ : L2.St) H => E cls d H) cls d σ H') tNext)
def fs_check_table (K : PySem.W.Frag) : FS := fsD1 fun x P PX => (isTabD x = true → P .none) ∧ (isTabD x = false → PX ⟨.ref (He.ga K "BadTable"), none⟩)
theorem body_check_table {K : PySem.W.Frag} {mg : Str → Option Value} (T : Txt K mg) (E : XK) : ∀ (as : List AV) (P : D → Prop) (PX : XD → Prop), fs_check_table K as P PX → SatS (cn K E PX) (t_check_table K E) (gin as 0) (den P) := bD1 fun x P PX q => by
  unfold t_check_table
  walk_at "dl"
  cases h : isTabD x with
  | true =>
    rw [h] at q
    walk_at "dl"
    exact q.1 rfl
  | false =>
    rw [h] at q
    walk_at "dl"
    exact sat_raise0 (c := cn K E PX) (q.2 rfl)
section
variable {P : Program} {w : World} {K : PySem.W.Frag} {mg : Str → Option Value} {base : Heap}
theorem ok_check_table {fd : FuncData} (F : FnP K "check_table" s_check_table fd) (T : Txt K mg) (c_is_table : Cal P w K mg base 5 "is_table" ["thing"] (fs_is_table K)) : FnOk P w K mg base (L2.CX P w) 6 (He.ga K "check_table") fd ["table"] (spF K (fs_check_table K)) := by
  refine fn_ok (k := 5) F sc_check_table len_D1 (by decide) (t_check_table K) (fun cdv A outer s H E hr => ?_) (body_check_table T)
  exact (pss_one (ps_if (pt_not (pt_val (pe_cal c_is_table hr (by decide) rfl (pa_cons (pv 0) pa_nil)))) (pss_one (ps_raise0 T.x_BadTable rfl (takes_of rfl rfl rfl rfl) rfl)) pss_nil))
end
def cellsD (n m : Nat) : List D := (List.range n).flatMap fun j => (List.range m).map fun i => .tuple [.int (i : Nat), .int (j : Nat)]
theorem flat_len {n m : Nat} : (cellsD n m).length = n * m := by
  unfold cellsD
  induction n with
  | zero => simp
  | succ n ih => rw [List.range_succ, List.flatMap_append, List.length_append, ih]; simp [Nat.succ_mul]
def t_cells_of (K : PySem.W.Frag) (E : XK) : TS :=
  (tRet (tLc2 (iRng1 (tCons (tOp rSubI (tCB (rLenB K) (tCons (tVar 0) tNil)) (tC (.int 1))) tNil)) (gName 1) tYes (iRng1 (tCons (tOp rSubI (tCB (rLenB K) (tCons (tOp (rIx K) (tVar 0) (tC (.int 0))) tNil)) (tC (.int 1))) tNil)) (gName 2) tYes (tTup (tCons (tVar 2) (tCons (tVar 1) tNil))) [1, 2] [2]))
def fs_cells_of (K : PySem.W.Frag) : FS := fsD1 fun x P _ => ∃ rs r0 xs, rowD x = some rs ∧ rs[0]? = some r0 ∧ rowD r0 = some xs ∧ rs.length ≤ 4 ∧ xs.length ≤ 4 ∧ P (.list (cellsD (rs.length - 1) (xs.length - 1)))
theorem body_cells_of {K : PySem.W.Frag} {mg : Str → Option Value} (T : Txt K mg) (E : XK) : ∀ (as : List AV) (P : D → Prop) (PX : XD → Prop), fs_cells_of K as P PX → SatS (cn K E PX) (t_cells_of K E) (gin as 2) (den P) := bD1 fun x P PX q => by
  obtain ⟨rs, r0, xs, h1, h2, h3, l1, l2, q⟩ := q
  have l0 : 0 < rs.length := (List.getElem?_eq_some_iff.mp h2).1
  unfold t_cells_of
  refine sat_ret (ev_ofL (el_comp2 (ei_rng1 ?_)))
  walk_at "dl"
  refine kc_lenR h1 ?_
  walk_at "dl"
  have en : ((rs.length : Int) - 1).toNat = rs.length - 1 := by omega
  have em : ((xs.length : Int) - 1).toNat = xs.length - 1 := by omega
  refine ⟨_, rfl, by omega, by omega, ?_⟩
  rw [en]
  refine ⟨fun n acc => n ≤ 4 ∧ acc = cellsD n (xs.length - 1), ⟨by omega, rfl⟩, ?_, ?_⟩
  · rintro n x acc hx ⟨hn, rfl⟩
    obtain ⟨hn2, rfl⟩ := rngD_of hx
    refine egw_name (by simp) (evt_yes ⟨fun _ => ei_rng1 ?_, fun z => by cases z⟩)
    walk_at "dl"
    refine ix_row (n := 0) h1 rfl h2 ?_
    walk_at "dl"
    refine kc_lenR h3 ?_
    walk_at "dl"
    refine ⟨_, rfl, by omega, by omega, ?_⟩
    rw [em]
    refine ⟨fun m acc => m ≤ 4 ∧ acc = cellsD n (xs.length - 1) ++ (List.range m).map fun (i : Nat) => .tuple [.int (i : Nat), .int (n : Nat)], ⟨by omega, by simp⟩, ?_, ?_⟩
    · rintro m y acc1 hy ⟨hm, rfl⟩
      obtain ⟨hm2, rfl⟩ := rngD_of hy
      refine ⟨?_, egw_name (by simp) (evt_yes ⟨fun _ => ?_, fun z => by cases z⟩)⟩
      · rw [List.length_append, flat_len]
        have : n * (xs.length - 1) ≤ 4 * 4 := Nat.mul_le_mul hn (by omega)
        simp; omega
      · walk_at "dl"
        refine ⟨by omega, ?_⟩
        rw [List.range_succ, List.map_append, List.append_assoc]
        simp
    · rintro acc1 ⟨_, rfl⟩
      rw [rngD_len]
      refine ⟨by omega, ?_⟩
      unfold cellsD
      rw [List.range_succ, List.flatMap_append]
      simp
  · rintro acc ⟨_, rfl⟩
    rw [rngD_len]
    exact q
section
variable {P : Program} {w : World} {K : PySem.W.Frag} {mg : Str → Option Value} {base : Heap}
theorem ok_cells_of {fd : FuncData} (F : FnP K "cells_of" s_cells_of fd) (T : Txt K mg)  : FnOk P w K mg base (L2.CX P w) 1 (He.ga K "cells_of") fd ["table"] (spF K (fs_cells_of K)) := by
  refine fn_ok (k := 0) F sc_cells_of len_D1 (by decide) (t_cells_of K) (fun cdv A outer s H E hr => ?_) (body_cells_of T)
  exact (pss_one (ps_ret (pe_lc2 (own := [("j", 1), ("i", 2)]) (g := (gName 1)) (tt := tYes) (vs1 := [2]) rfl sc_cells_of.nd (pi_range1 (by rfl) T.n_range (pa_cons (pe_op op_sub (pe_callB call_len (by rfl) T.n_len (by decide +kernel) (pa_cons (pv 0) pa_nil)) pe_int) pa_nil)) (blkOk_by (own := [("j", 1), ("i", 2)]) (N := N_cells_of) (sc := defScope s_cells_of) (by decide +kernel)) (by decide) (fun _ _ _ _ _ => (pg_name (i := 1) sc_cells_of.nd rfl (by first | exact Or.inl rfl | exact Or.inr rfl))) (fun _ _ _ _ _ => pts_nil) (fun _ _ _ _ _ => (pi_range1 (by rfl) T.n_range (pa_cons (pe_op op_sub (pe_callB call_len (by rfl) T.n_len (by decide +kernel) (pa_cons (pe_ix ix_seq (pv 0) pe_int (fun _ _ => rfl)) pa_nil)) pe_int) pa_nil))) (fun _ _ _ _ _ => (pg_name (i := 2) sc_cells_of.nd rfl (by first | exact Or.inl rfl | exact Or.inr rfl))) (fun _ _ _ _ _ => pts_nil) (fun _ _ _ _ _ => (pe_tup (pa_cons (pv 2) (pa_cons (pv 1) pa_nil)))))))
end
end X85
end
section
namespace X85
open PySem L2 DL
local macro_rules | `(tactic| walk_at "bi") => `(tactic| first
  | assumption
  | exact Sz.nb (by assumption) (by decide) | exact Sz.db (by assumption) (by decide)
  | (unfold Bi; decide))
local macro_rules | `(tactic| walk_at "sz0") => `(tactic| first
  | assumption
  | exact Sz.one | exact Sz.zero
  | ((apply Sz.neg); (· walk_at "sz0"))
  | ((apply Sz.mul); (· walk_at "sz0"); (· walk_at "sz0"))
  | ((apply Sz.add); (· walk_at "sz0"); (· walk_at "sz0"))
  | ((apply Sz.sub); (· walk_at "sz0"); (· walk_at "sz0"))
  | ((apply Sz.div); (· walk_at "sz0"); (· walk_at "sz0"); (· assumption)))
local macro_rules | `(tactic| walk_at "sz") => `(tactic| first | assumption | ((apply Sz.mono); (· walk_at "sz0"); (· decide)))
local macro_rules | `(tactic| walk_at "d1") => `(tactic| first
  | with_reducible refine sat_seq ?_ | with_reducible refine sat_drop ?_ | with_reducible refine sat_if ?_ | with_reducible refine sat_ret ?_ | with_reducible refine sat_retN ?_ | with_reducible refine sat_next ?_ | with_reducible refine sat_par ?_
  | with_reducible refine sat_asgHot (el_lst (ea_nil ⟨_, rfl, Nat.le_of_ble_eq_true rfl, ?_⟩))
  | with_reducible refine sat_asg ?_ | with_reducible refine sat_asgG ?_ | with_reducible refine eg_tup4 ?_ | with_reducible refine eg_tup2 ?_ | with_reducible refine eg_name ?_
  | with_reducible refine evt_of ?_ | with_reducible refine evt_B ?_ | with_reducible refine evt_and ?_ | with_reducible refine evt_or ?_ | with_reducible refine evt_not ?_ | with_reducible refine evt_yes ?_
  | ((with_reducible apply ev_var); · exact rfl)
  | with_reducible refine ev_int ?_ | with_reducible refine ev_str ?_ | with_reducible refine ev_bl ?_ | with_reducible refine ev_non ?_
  | refine ev_ixHot rfl rfl ?_ | refine ev_lenHot rfl rfl ?_
  | with_reducible refine ev_op ?_ | with_reducible refine ev_neg ?_ | with_reducible refine ev_and ?_ | with_reducible refine ev_or ?_ | with_reducible refine ev_not ?_ | with_reducible refine ev_if ?_ | with_reducible refine ev_chain ?_
  | with_reducible refine ev_tup ?_ | with_reducible refine ev_call ?_ | with_reducible refine ev_callS ?_ | with_reducible refine ev_callKS ?_
  | refine ev_isiT (ns := ["list", "tuple"]) (by decide) ?_
  | with_reducible refine ev_cb ?_
  | with_reducible refine ea_nil ?_ | refine ea_val (v := .ty _) ?_ | ((with_reducible apply ea_st); · exact rfl) | with_reducible refine ea_cons ?_
  | refine ev_int ?_
  | refine ix_fr0 ?_ | refine ix_fr1 ?_ | refine k2_ix (.inl rfl) rfl ?_ | refine k2_ix (.inr rfl) rfl ?_
  | refine k2_mul (bi_mulOk (n := 9000) (m := 9000) (by walk_at "bi") (by walk_at "bi") (by decide)) ?_
  | refine k2_add ?_
  | refine k2_eqI ?_ | refine k2_neI ?_ | refine k2_eqF ?_ | refine k2_eqF2 ?_ | refine k2_neB ?_ | refine k2_is ?_ | refine k2_isnot ?_ | refine k2_isB ?_
  | refine k2_IB ?_ | refine k2_II ?_
  | refine kc_abs ?_ | refine kc_intI ?_ | refine kc_isi rfl ?_ | refine kc_len rfl ?_ | refine kc_all ?_
  | refine tup_one ?_ | refine tup_zero ?_ | refine tup_m1 ?_ | refine tup_neg ?_ | refine tup_any rfl (Nat.le_of_ble_eq_true rfl) ?_
  | refine tt_split ?_ | refine ff_split ?_
  | refine bool_any ?_ | refine int_any ?_ | refine ⟨_, _, rfl, ?_⟩
  | ((refine cD1 ?_); (try dsimp only)) | ((refine cD2 ?_); (try dsimp only)) | ((refine cD3 ?_); (try dsimp only)) | ((refine cD4 ?_); (try dsimp only)) | ((refine cS0 ?_); (try dsimp only)) | ((refine cS1 ?_); (try dsimp only)) | ((refine cS2 ?_); (try dsimp only)) | ((refine cS3 ?_); (try dsimp only))
  | refine sz_and (by walk_at "sz") ?_
  | refine ne_and (by assumption) ?_
  | refine ev_c (rp_ONE (by assumption)) ?_ | refine ev_c (rp_ZERO (by assumption)) ?_
  | refine ⟨_, _, rfl, rfl, ?_⟩ | refine ⟨_, _, _, rfl, rfl, rfl, ?_⟩ | refine ⟨_, _, _, _, rfl, rfl, rfl, rfl, ?_⟩)
local macro_rules | `(tactic| walk_at "dl") => `(tactic| repeat (walk_at "d1"))

theorem Grid.cell {α : Type} {f : α → D} {d : D} {up ac : Nat} {T : Nat → Nat → α} (g : Grid f d up ac T) {j i : Nat} (hj : j + 1 < up) (hi : i + 1 < ac) :
    ∃ rs r0 r1 xs ys, rowD d = some rs ∧ rs[j]? = some r0 ∧ rs[j + 1]? = some r1 ∧ rowD r0 = some xs ∧ rowD r1 = some ys ∧ xs[i]? = some (f (T j i)) ∧ xs[i + 1]? = some (f (T j (i + 1))) ∧ ys[i + 1]? = some (f (T (j + 1) (i + 1))) ∧ ys[i]? = some (f (T (j + 1) i)) := by
  obtain ⟨rs, h1, h2, h3⟩ := g
  obtain ⟨r0, xs, a1, a2, a3, a4⟩ := h3 j (by omega)
  obtain ⟨r1, ys, b1, b2, b3, b4⟩ := h3 (j + 1) hj
  exact ⟨rs, r0, r1, xs, ys, h1, a1, b1, a2, b2, a4 i (by omega), a4 (i + 1) hi, b4 (i + 1) hi, b4 i (by omega)⟩
def prP (p : Rat × Rat) : D := prD p.1 p.2
structure OkP (p : Rat × Rat) : Prop where
  s1 : Sz 200 p.1
  s2 : Sz 200 p.2
  p1 : 0 < p.1
  p2 : 0 < p.2
structure Tab (d : D) (up ac : Nat) (T : Nat → Nat → Rat × Rat) : Prop where
  g : Grid prP d up ac T
  u1 : 1 ≤ up
  u4 : up ≤ 4
  a1 : 1 ≤ ac
  a4 : ac ≤ 4
  ok : ∀ j i, j < up → i < ac → OkP (T j i)
def clAt (T : Nat → Nat → Rat × Rat) (j i : Nat) : Bool := decide (closes (T j i).1 (T j (i + 1)).2 (T (j + 1) (i + 1)).1 (T (j + 1) i).2)
def clB (up ac : Nat) (T : Nat → Nat → Rat × Rat) : Bool := (List.range (up - 1)).all fun j => (List.range (ac - 1)).all fun i => clAt T j i
/-- what a cell's pair tells of a test -/
def atZ (f : Nat → Nat → Bool) : D → Bool
  | .tuple [.int i, .int j] => f j.toNat i.toNat
  | _ => true
theorem cells_at {n m k : Nat} {z : D} (h : (cellsD n m)[k]? = some z) : ∃ i j : Nat, i < m ∧ j < n ∧ z = .tuple [.int i, .int j] := by
  have hz := List.mem_of_getElem? h
  unfold cellsD at hz
  rw [List.mem_flatMap] at hz
  obtain ⟨j, hj, hz⟩ := hz
  rw [List.mem_map] at hz
  obtain ⟨i, hi, rfl⟩ := hz
  exact ⟨i, j, List.mem_range.mp hi, List.mem_range.mp hj, rfl⟩
theorem cells_all {n m : Nat} {f : Nat → Nat → Bool} : ((cellsD n m).map (atZ f)).all id = (List.range n).all fun j => (List.range m).all fun i => f j i := by
  rw [all_id]
  unfold cellsD
  rw [List.all_flatMap]
  congr 1
  funext j
  rw [List.all_map]
  congr 1
def t_all_close (K : PySem.W.Frag) (E : XK) : TS :=
  (tRet (tCB (rAll K) (tCons (tLc (iAny K (tCall (spF K (fs_cells_of K)) [] E0 (tCons (tVar 0) tNil))) (gTup K 2 (gCons (gName 1) (gCons (gName 2) gNil))) tYes (tCall (spF K (fs_cell_closes K)) [] E0 (tCons (tCall (spF K (fs_cell_corners K)) [] E0 (tCons (tVar 0) (tCons (tVar 1) (tCons (tVar 2) tNil)))) tNil)) [1, 2]) tNil)))
def fs_all_close (K : PySem.W.Frag) : FS := fsD1 fun x P _ => ∃ up ac T, Tab x up ac T ∧ P (.bool (clB up ac T))
theorem body_all_close {K : PySem.W.Frag} {mg : Str → Option Value} (T : Txt K mg) (E : XK) : ∀ (as : List AV) (P : D → Prop) (PX : XD → Prop), fs_all_close K as P PX → SatS (cn K E PX) (t_all_close K E) (gin as 2) (den P) := bD1 fun x P PX q => by
  obtain ⟨up, ac, T, tb, q⟩ := q
  obtain ⟨rs, h1, h2, h3⟩ := id tb.g
  obtain ⟨r0, xs, a1, a2, a3, _⟩ := h3 0 (by have := tb.u1; omega)
  have u4 := tb.u4
  have a4 := tb.a4
  have ql : (up - 1) * (ac - 1) ≤ 4 * 4 := Nat.mul_le_mul (by omega) (by omega)
  unfold t_all_close
  walk_at "dl"
  refine ev_ofL (el_comp (ei_any ?_))
  walk_at "dl"
  refine ⟨rs, r0, xs, h1, a1, a2, by omega, by omega, _, rfl, ?_⟩
  rw [h2, a3]
  refine compI_map (ys := ((cellsD (up - 1) (ac - 1)).map (atZ (clAt T))).map .bool) (by simp) (by rw [flat_len]; omega) (fun n z y hz hy => ?_) ?_
  · obtain ⟨i, j, hi, hj, rfl⟩ := cells_at hz
    obtain ⟨rs', r0', r1', xs', ys', b1, b2, b3, b4, b5, b6, b7, b8, b9⟩ := Grid.cell tb.g (j := j) (i := i) (by omega) (by omega)
    refine egw_tup2 (by simp) (by simp) ?_
    walk_at "dl"
    refine ⟨rs', r0', r1', xs', ys', _, _, _, _, i, j, b1, rfl, rfl, b2, b3, b4, b5, b6, b7, b8, b9, ?_⟩
    walk_at "dl"
    refine ⟨_, _, _, _, _, _, _, _, rfl, (tb.ok _ _ (by omega) (by omega)).s1, (tb.ok _ _ (by omega) (by omega)).s2, (tb.ok _ _ (by omega) (by omega)).s1, (tb.ok _ _ (by omega) (by omega)).s2, ?_⟩
    exact (map_at hz hy).symm
  · walk_at "dl"
    rw [cells_all]
    exact q
section
variable {P : Program} {w : World} {K : PySem.W.Frag} {mg : Str → Option Value} {base : Heap}
theorem ok_all_close {fd : FuncData} (F : FnP K "all_close" s_all_close fd) (T : Txt K mg) (c_cell_closes : Cal P w K mg base 5 "cell_closes" ["corners"] (fs_cell_closes K)) (c_cell_corners : Cal P w K mg base 1 "cell_corners" ["table", "i", "j"] (fs_cell_corners K)) (c_cells_of : Cal P w K mg base 1 "cells_of" ["table"] (fs_cells_of K)) : FnOk P w K mg base (L2.CX P w) 6 (He.ga K "all_close") fd ["table"] (spF K (fs_all_close K)) := by
  refine fn_ok (k := 5) F sc_all_close len_D1 (by decide) (t_all_close K) (fun cdv A outer s H E hr => ?_) (body_all_close T)
  exact (pss_one (ps_ret (pe_callB (cr_all rfl) (by rfl) T.n_all (by decide +kernel) (pa_cons (pe_lc (own := [("i", 1), ("j", 2)]) (g := (gTup K 2 (gCons (gName 1) (gCons (gName 2) gNil)))) (tt := tYes) rfl sc_all_close.nd (pi_any (pe_cal c_cells_of hr (by decide) rfl (pa_cons (pv 0) pa_nil))) (blkOk_by (own := [("i", 1), ("j", 2)]) (N := N_all_close) (sc := defScope s_all_close) (by decide +kernel)) (fun _ _ _ _ _ => (pg_tup (by rfl) (pgs_cons (pg_name (i := 1) sc_all_close.nd rfl (by first | exact Or.inl rfl | exact Or.inr rfl)) (pgs_cons (pg_name (i := 2) sc_all_close.nd rfl (by first | exact Or.inl rfl | exact Or.inr rfl)) pgs_nil)))) (fun _ _ _ _ _ => pts_nil) (fun _ _ _ _ _ => (pe_cal c_cell_closes hr (by decide) rfl (pa_cons (pe_cal c_cell_corners hr (by decide) rfl (pa_cons (pv 0) (pa_cons (pv 1) (pa_cons (pv 2) pa_nil)))) pa_nil)))) pa_nil))))
end
def t_fits_together (K : PySem.W.Frag) (E : XK) : TS :=
  (tSeq (tDrop (tCallS (spF K (fs_check_table K)) (WE (fun cls d (_ : L2.St) H => E cls d H)) (tCons (tVar 0) tNil)))
  (tRet (tCall (spF K (fs_all_close K)) [] E0 (tCons (tVar 0) tNil))))
def fs_fits_together (K : PySem.W.Frag) : FS := fsD1 fun x P PX => (isTabD x = false ∧ PX ⟨.ref (He.ga K "BadTable"), none⟩) ∨ ∃ up ac T, isTabD x = true ∧ Tab x up ac T ∧ P (.bool (clB up ac T))
theorem body_fits_together {K : PySem.W.Frag} {mg : Str → Option Value} (T : Txt K mg) (E : XK) : ∀ (as : List AV) (P : D → Prop) (PX : XD → Prop), fs_fits_together K as P PX → SatS (cn K E PX) (t_fits_together K E) (gin as 0) (den P) := bD1 fun x P PX q => by
  unfold t_fits_together
  rcases q with ⟨h, q⟩ | ⟨up, ac, T, h, tb, q⟩
  · walk_at "dl"
    exact ⟨fun z => absurd (h.symm.trans z) (by decide), fun _ => q⟩
  · walk_at "dl"
    refine ⟨fun _ => ?_, fun z => absurd (h.symm.trans z) (by decide)⟩
    walk_at "dl"
    exact ⟨up, ac, T, tb, q⟩
section
variable {P : Program} {w : World} {K : PySem.W.Frag} {mg : Str → Option Value} {base : Heap}
theorem ok_fits_together {fd : FuncData} (F : FnP K "fits_together" s_fits_together fd) (T : Txt K mg) (c_all_close : Cal P w K mg base 6 "all_close" ["table"] (fs_all_close K)) (c_check_table : Cal P w K mg base 6 "check_table" ["table"] (fs_check_table K)) : FnOk P w K mg base (L2.CX P w) 7 (He.ga K "fits_together") fd ["table"] (spF K (fs_fits_together K)) := by
  refine fn_ok (k := 6) F sc_fits_together len_D1 (by decide) (t_fits_together K) (fun cdv A outer s H E hr => ?_) (body_fits_together T)
  exact (pss_cons (ps_expr (pe_calS c_check_table hr (by decide) (takes_of rfl rfl rfl rfl) rfl (pa_cons (pv 0) pa_nil)))
  (pss_one (ps_ret (pe_cal c_all_close hr (by decide) rfl (pa_cons (pv 0) pa_nil)))))
end
def is12 : D → Bool
  | .int i => decide (i ∈ [1, 2])
  | _ => false
def wrow (ac : Int) (r : D) : Bool := match rowD r with
  | some xs => decide ((xs.length : Int) = ac) && xs.all is12
  | none => false
def isWishD (d : D) (ac up : Int) : Bool := match rowD d with
  | some rs => decide ((rs.length : Int) = up) && rs.all (wrow ac)
  | none => false
theorem rp_BOTH {K : PySem.W.Frag} {mg : Str → Option Value} (T : Txt K mg) (C : Hp) : Rp K C (kv_BOTH K) (.tuple ([1, 2].map .int)) := .tup (T.z_BOTH C) (.cons (.int 1) (.cons (.int 2) .nil))
theorem take_all {xs : List D} {f : D → Bool} {n : Nat} {x : D} (h : ∀ k, k < n → ∀ z, xs[k]? = some z → f z = true) (hx : xs[n]? = some x) (hf : f x = true) : ∀ k, k < n + 1 → ∀ z, xs[k]? = some z → f z = true := fun k hk z hz => by
  by_cases e : k = n
  · subst e; rw [hx] at hz; cases hz; exact hf
  · exact h k (by omega) z hz
theorem all_of_take {xs : List D} {f : D → Bool} (h : ∀ k, k < xs.length → ∀ z, xs[k]? = some z → f z = true) : xs.all f = true := by
  rw [List.all_eq_true]
  intro z hz
  obtain ⟨k, hk⟩ := List.mem_iff_getElem?.mp hz
  exact h k (List.getElem?_eq_some_iff.mp hk).1 z hk
theorem not_all {xs : List D} {f : D → Bool} {n : Nat} {x : D} (hx : xs[n]? = some x) (hf : f x = false) : xs.all f = false := by
  rw [List.all_eq_false]
  exact ⟨x, List.mem_of_getElem? hx, by rw [hf]; simp⟩
def t_is_wish (K : PySem.W.Frag) (E : XK) : TS :=
  (tSeq (tIfS (tOr (tNot (tB (tCall (spF K (fs_is_row K)) [] E0 (tCons (tVar 0) tNil)))) (tTest (tOp (rNeD K) (tCB (rLenB K) (tCons (tVar 0) tNil)) (tVar 2)))) (tRet (tC (.bl false))) tNext)
  (tSeq (tFor (iAny K (tVar 0)) (gName 3) (tIfS (tOr (tNot (tB (tCall (spF K (fs_is_row K)) [] E0 (tCons (tVar 3) tNil)))) (tOr (tTest (tOp (rNeD K) (tCB (rLenB K) (tCons (tVar 3) tNil)) (tVar 1))) (tNot (tB (tCB (rAll K) (tCons (tLc (iAny K (tVar 3)) (gName 4) tYes (tAndV (tCall (spF K (fs_is_integer K)) [] E0 (tCons (tVar 4) tNil)) (tOp (rInA K) (tVar 4) (tC (kv_BOTH K)))) [4]) tNil)))))) (tRet (tC (.bl false))) tNext))
  (tRet (tC (.bl true)))))
def fs_is_wish (K : PySem.W.Frag) : FS := fsD3 fun x y z P _ => ∃ ac up : Int, y = .int ac ∧ z = .int up ∧ ac ≤ 1000 ∧ P (.bool (isWishD x ac up))
theorem body_is_wish {K : PySem.W.Frag} {mg : Str → Option Value} (T : Txt K mg) (E : XK) : ∀ (as : List AV) (P : D → Prop) (PX : XD → Prop), fs_is_wish K as P PX → SatS (cn K E PX) (t_is_wish K E) (gin as 2) (den P) := bD3 fun x y z P PX q => by
  obtain ⟨ac, up, rfl, rfl, hac, q⟩ := q
  unfold t_is_wish
  walk_at "dl"
  unfold isWishD at q
  cases hr : rowD x with
  | none => rw [hr] at q; walk_at "dl"; exact q
  | some rs =>
  rw [hr] at q
  dsimp only at q
  walk_at "dl"
  refine kc_lenR hr ?_
  walk_at "dl"
  by_cases hl : (rs.length : Int) = up
  case neg =>
    rw [decide_eq_false hl] at q
    rw [decide_eq_false hl]
    walk_at "dl"
    exact q
  rw [decide_eq_true hl] at q
  rw [decide_eq_true hl]
  walk_at "dl"
  refine sat_for (ei_any (ev_var rfl ⟨rs, rowD_seq hr, fun n G' => (∀ k, k < n → ∀ z, rs[k]? = some z → wrow ac z = true) ∧ ∃ s, G' = ⟨[.d x, .d (.int ac), .d (.int up), s, .any], []⟩, ⟨fun k hk => by omega, .any, rfl⟩, ?_, ?_⟩))
  · rintro n r G' hn ⟨hk, s, rfl⟩
    have fail : wrow ac r = false → P (.bool false) := fun h => by
      rw [not_all hn h] at q
      exact q
    walk_at "dl"
    cases hrr : rowD r with
    | none =>
      walk_at "dl"
      exact fail (by unfold wrow; rw [hrr])
    | some xs =>
    walk_at "dl"
    refine kc_lenR hrr ?_
    walk_at "dl"
    by_cases hl2 : (xs.length : Int) = ac
    case neg =>
      rw [decide_eq_false hl2]
      walk_at "dl"
      exact fail (by unfold wrow; rw [hrr]; dsimp only; rw [decide_eq_false hl2]; rfl)
    rw [decide_eq_true hl2]
    walk_at "dl"
    refine ev_ofL (el_comp (ei_any (ev_var rfl ⟨xs, rowD_seq hrr, compI_map (ys := (xs.map is12).map .bool) (by simp) (by omega) (fun n z y hz hy => egw_name (by simp) ?_) ?_⟩)))
    · rw [map_at hz hy]
      walk_at "dl"
      rcases isInt_cases z with h | ⟨i, rfl⟩
      · rw [h]
        walk_at "dl"
        cases z <;> first | rfl | cases h
      · walk_at "dl"
        refine ev_c (rp_BOTH T) ?_
        refine k2_inI (.inr rfl) ?_
        rfl
    · walk_at "dl"
      rw [all_id]
      cases ha : xs.all is12 with
      | false =>
        walk_at "dl"
        exact fail (by unfold wrow; rw [hrr]; dsimp only; rw [ha]; simp)
      | true =>
        walk_at "dl"
        exact ⟨take_all hk hn (by unfold wrow; rw [hrr]; dsimp only; rw [ha, decide_eq_true hl2]; rfl), _, rfl⟩
  · rintro G' ⟨hk, s, rfl⟩
    walk_at "dl"
    rw [all_of_take hk] at q
    exact q
section
variable {P : Program} {w : World} {K : PySem.W.Frag} {mg : Str → Option Value} {base : Heap}
theorem ok_is_wish {fd : FuncData} (F : FnP K "is_wish" s_is_wish fd) (T : Txt K mg) (c_is_integer : Cal P w K mg base 1 "is_integer" ["thing"] (fs_is_integer K)) (c_is_row : Cal P w K mg base 1 "is_row" ["thing"] (fs_is_row K)) : FnOk P w K mg base (L2.CX P w) 2 (He.ga K "is_wish") fd ["thing", "columns", "rows"] (spF K (fs_is_wish K)) := by
  refine fn_ok (k := 1) F sc_is_wish len_D3 (by decide) (t_is_wish K) (fun cdv A outer s H E hr => ?_) (body_is_wish T)
  exact (pss_cons (ps_if (PW.pt (pw_or (pt_not (pt_val (pe_cal c_is_row hr (by decide) rfl (pa_cons (pv 0) pa_nil)))) (pw_or1 (pt_cmpR (op_neD hr.units) (pe_callB call_len (by rfl) T.n_len (by decide +kernel) (pa_cons (pv 0) pa_nil)) (pv 2) (nomark _))))) (pss_one (ps_ret pe_bl)) pss_nil)
  (pss_cons (ps_for (passes_of rfl) rfl (pi_any (pv 0)) (pg_name (i := 3) sc_is_wish.nd rfl (Or.inl rfl)) (pss_one (ps_if (PW.pt (pw_or (pt_not (pt_val (pe_cal c_is_row hr (by decide) rfl (pa_cons (pv 3) pa_nil)))) (pw_or (pt_cmpR (op_neD hr.units) (pe_callB call_len (by rfl) T.n_len (by decide +kernel) (pa_cons (pv 3) pa_nil)) (pv 1) (nomark _)) (pw_or1 (pt_not (pt_val (pe_callB (cr_all rfl) (by rfl) T.n_all (by decide +kernel) (pa_cons (pe_lc (own := [("item", 4)]) (g := (gName 4)) (tt := tYes) rfl sc_is_wish.nd (pi_any (pv 3)) (blkOk_by (own := [("item", 4)]) (N := N_is_wish) (sc := defScope s_is_wish) (by decide +kernel)) (fun _ _ _ _ _ => (pg_name (i := 4) sc_is_wish.nd rfl (by first | exact Or.inl rfl | exact Or.inr rfl))) (fun _ _ _ _ _ => pts_nil) (fun _ _ _ _ _ => (pe_and (pe_cal c_is_integer hr (by decide) rfl (pa_cons (pv 4) pa_nil)) (pe_one (pe_cmpR (op_inA (room65 hr)) (pv 4) (C8.pe_gc rfl T.k_BOTH) (by rfl)))))) pa_nil)))))))) (pss_one (ps_ret pe_bl)) pss_nil)))
  (pss_one (ps_ret pe_bl))))
end

def crnB (T : Nat → Nat → Rat × Rat) (W : Nat → Nat → Int) (j i : Nat) : Bool := decide (tf (T j i).1 (T j i).2 (W j i) ≠ 0)
def qAt (T : Nat → Nat → Rat × Rat) (W : Nat → Nat → Int) (j i a b : Nat) : Rat := quo (T j i).1 (T j i).2 (W j i) a b
def outB (T : Nat → Nat → Rat × Rat) (W : Nat → Nat → Int) (j i : Nat) : Bool := decide (qAt T W j i 0 1 * qAt T W j (i + 1) 1 2 * qAt T W (j + 1) i 3 0 * qAt T W (j + 1) (i + 1) 2 3 = 1)
def nzB (up ac : Nat) (T : Nat → Nat → Rat × Rat) (W : Nat → Nat → Int) : Bool := (List.range up).all fun j => (List.range ac).all fun i => crnB T W j i
def outAll (up ac : Nat) (T : Nat → Nat → Rat × Rat) (W : Nat → Nat → Int) : Bool := (List.range (up - 1)).all fun j => (List.range (ac - 1)).all fun i => outB T W j i
def fulB (up ac : Nat) (T : Nat → Nat → Rat × Rat) (W : Nat → Nat → Int) : Bool := clB up ac T && (nzB up ac T W && outAll up ac T W)
structure Wsh (d : D) (up ac : Nat) (W : Nat → Nat → Int) : Prop where
  g : Grid PyData.int d up ac W
  ok : ∀ j i, j < up → i < ac → W j i = 1 ∨ W j i = 2
theorem zip_at {xs ys : List D} {n : Nat} {z : D} (h : (zipD xs ys)[n]? = some z) : ∃ x y, xs[n]? = some x ∧ ys[n]? = some y ∧ z = .tuple [x, y] := by
  unfold zipD at h
  rw [List.getElem?_map] at h
  obtain ⟨⟨x, y⟩, e, rfl⟩ := Option.map_eq_some_iff.mp h
  rw [List.getElem?_zip_eq_some] at e
  exact ⟨x, y, e.1, e.2, rfl⟩
theorem zip_len {xs ys : List D} (h : xs.length = ys.length) : (zipD xs ys).length = xs.length := by simp [zipD, h]
theorem nz_false {up ac : Nat} {T : Nat → Nat → Rat × Rat} {W : Nat → Nat → Int} {j i : Nat} (hj : j < up) (hi : i < ac) (h : crnB T W j i = false) : nzB up ac T W = false := by
  unfold nzB
  rw [List.all_eq_false]
  refine ⟨j, List.mem_range.mpr hj, ?_⟩
  have : ((List.range ac).all fun i => crnB T W j i) = false := by
    rw [List.all_eq_false]
    exact ⟨i, List.mem_range.mpr hi, by rw [h]; simp⟩
  rw [this]
  simp
theorem nz_true {up ac : Nat} {T : Nat → Nat → Rat × Rat} {W : Nat → Nat → Int} (h : ∀ j, j < up → ∀ i, i < ac → crnB T W j i = true) : nzB up ac T W = true := by
  unfold nzB
  rw [List.all_eq_true]
  intro j hj
  rw [List.all_eq_true]
  intro i hi
  exact h j (List.mem_range.mp hj) i (List.mem_range.mp hi)
def t_is_fulfilled (K : PySem.W.Frag) (E : XK) : TS :=
  (tSeq (tIfS (tNot (tB (tCall (spF K (fs_all_close K)) [] E0 (tCons (tVar 0) tNil)))) (tRet (tC (.bl false))) tNext)
  (tSeq (tFor (iZipX K (tCons (tVar 0) (tCons (tVar 1) tNil))) (gTup K 2 (gCons (gName 2) (gCons (gName 3) gNil))) (tFor (iZipX K (tCons (tVar 2) (tCons (tVar 3) tNil))) (gTup K 2 (gCons (gName 4) (gCons (gName 5) gNil))) (tIfS (tTest (tOp (rEqD K) (tCall (spF K (fs_told_fraction K)) [] E0 (tCons (tVar 4) (tCons (tVar 5) tNil))) (tC (kv_ZERO K)))) (tRet (tC (.bl false))) tNext)))
  (tRet (tCB (rAll K) (tCons (tLc (iAny K (tCall (spF K (fs_cells_of K)) [] E0 (tCons (tVar 0) tNil))) (gTup K 2 (gCons (gName 6) (gCons (gName 7) gNil))) tYes (tCall (spF K (fs_cell_comes_out K)) [] E0 (tCons (tCall (spF K (fs_cell_corners K)) [] E0 (tCons (tVar 0) (tCons (tVar 6) (tCons (tVar 7) tNil)))) (tCons (tCall (spF K (fs_cell_corners K)) [] E0 (tCons (tVar 1) (tCons (tVar 6) (tCons (tVar 7) tNil)))) tNil))) [6, 7]) tNil)))))
def fs_is_fulfilled (K : PySem.W.Frag) : FS := fsD2 fun x y P _ => ∃ up ac T W, Tab x up ac T ∧ Wsh y up ac W ∧ P (.bool (fulB up ac T W))
theorem body_is_fulfilled {K : PySem.W.Frag} {mg : Str → Option Value} (T : Txt K mg) (E : XK) : ∀ (as : List AV) (P : D → Prop) (PX : XD → Prop), fs_is_fulfilled K as P PX → SatS (cn K E PX) (t_is_fulfilled K E) (gin as 6) (den P) := bD2 fun x y P PX q => by
  obtain ⟨up, ac, T, W, tb, wb, q⟩ := q
  obtain ⟨rs, h1, h2, h3⟩ := id tb.g
  obtain ⟨ws, k1, k2, k3⟩ := id wb.g
  have u4 := tb.u4
  have a4 := tb.a4
  have ql : (up - 1) * (ac - 1) ≤ 4 * 4 := Nat.mul_le_mul (by omega) (by omega)
  unfold t_is_fulfilled
  walk_at "dl"
  refine ⟨up, ac, T, tb, ?_⟩
  walk_at "dl"
  unfold fulB at q
  cases hc : clB up ac T with
  | false => rw [hc] at q; walk_at "dl"; exact q
  | true =>
  rw [hc] at q
  walk_at "dl"
  refine sat_for (ei_zip ?_)
  walk_at "dl"
  refine ⟨x, y, rs, ws, rfl, h1, k1, ?_⟩
  refine ⟨fun n G' => (∀ j, j < n → ∀ i, i < ac → crnB T W j i = true) ∧ ∃ s2 s3 s4 s5, G' = ⟨[.d x, .d y, s2, s3, s4, s5, .any, .any], []⟩, ⟨fun j hj => by omega, .any, .any, .any, .any, rfl⟩, ?_, ?_⟩
  · rintro n z G' hz ⟨hk, s2, s3, s4, s5, rfl⟩
    obtain ⟨r, w, e1, e2, rfl⟩ := zip_at hz
    have hn : n < up := by rw [← h2]; exact (List.getElem?_eq_some_iff.mp e1).1
    obtain ⟨r', xs, a1, a2, a3, a4'⟩ := h3 n hn
    obtain ⟨w', ys, b1, b2, b3, b4'⟩ := k3 n hn
    rw [e1] at a1
    rw [e2] at b1
    cases a1; cases b1
    walk_at "dl"
    refine sat_for (ei_zip ?_)
    walk_at "dl"
    refine ⟨r, w, xs, ys, rfl, a2, b2, ?_⟩
    refine ⟨fun m G' => (∀ i, i < m → crnB T W n i = true) ∧ ∃ s4 s5, G' = ⟨[.d x, .d y, .d r, .d w, s4, s5, .any, .any], []⟩, ⟨fun j hj => by omega, s4, s5, rfl⟩, ?_, ?_⟩
    · rintro m z G' hz ⟨hkm, s4, s5, rfl⟩
      obtain ⟨p, l, f1, f2, rfl⟩ := zip_at hz
      have hm : m < ac := by rw [← a3]; exact (List.getElem?_eq_some_iff.mp f1).1
      rw [a4' m hm] at f1
      rw [b4' m hm] at f2
      cases f1; cases f2
      have o := tb.ok n m hn hm
      walk_at "dl"
      refine ⟨_, _, _, rfl, rfl, o.s1, o.s2, o.p1, o.p2, wb.ok n m hn hm, ?_⟩
      walk_at "dl"
      refine ⟨fun h => ?_, fun h => ?_⟩
      · walk_at "dl"
        have : crnB T W n m = false := by
          unfold crnB
          have := of_decide_eq_true h
          simp [this]
        rw [nz_false hn hm this] at q
        exact q
      · walk_at "dl"
        have hf : crnB T W n m = true := by
          unfold crnB
          have := of_decide_eq_false h
          simp [this]
        refine ⟨fun i hi => ?_, _, _, rfl⟩
        by_cases e : i = m
        · subst e; exact hf
        · exact hkm i (by omega)
    · rintro G' ⟨hkm, s4, s5, rfl⟩
      rw [zip_len (by omega), a3] at hkm
      refine ⟨fun j hj => ?_, _, _, _, _, rfl⟩
      by_cases e : j = n
      · subst e; exact hkm
      · exact hk j (by omega)
  · rintro G' ⟨hk, s2, s3, s4, s5, rfl⟩
    rw [zip_len (by omega), h2] at hk
    rw [nz_true hk] at q
    have nz : ∀ j i, j < up → i < ac → Crn (T j i).1 (T j i).2 (W j i) := fun j i hj hi => by
      have o := tb.ok j i hj hi
      have := hk j hj i hi
      exact ⟨o.s1, o.s2, o.p1, o.p2, of_decide_eq_true this⟩
    obtain ⟨r0, xs, a1, a2, a3, _⟩ := h3 0 (by have := tb.u1; omega)
    walk_at "dl"
    refine ev_ofL (el_comp (ei_any ?_))
    walk_at "dl"
    refine ⟨rs, r0, xs, h1, a1, a2, by omega, by omega, _, rfl, ?_⟩
    rw [h2, a3]
    refine compI_map (ys := ((cellsD (up - 1) (ac - 1)).map (atZ (outB T W))).map .bool) (by simp) (by rw [flat_len]; omega) (fun n z y hz hy => ?_) ?_
    · obtain ⟨i, j, hi, hj, rfl⟩ := cells_at hz
      obtain ⟨rs', r0', r1', xs', ys', b1, b2, b3, b4, b5, b6, b7, b8, b9⟩ := Grid.cell tb.g (j := j) (i := i) (by omega) (by omega)
      obtain ⟨ws', w0', w1', xw', yw', c1, c2, c3, c4, c5, c6, c7, c8, c9⟩ := Grid.cell wb.g (j := j) (i := i) (by omega) (by omega)
      refine egw_tup2 (by simp) (by simp) ?_
      walk_at "dl"
      refine ⟨rs', r0', r1', xs', ys', _, _, _, _, i, j, b1, rfl, rfl, b2, b3, b4, b5, b6, b7, b8, b9, ?_⟩
      walk_at "dl"
      refine ⟨ws', w0', w1', xw', yw', _, _, _, _, i, j, c1, rfl, rfl, c2, c3, c4, c5, c6, c7, c8, c9, ?_⟩
      walk_at "dl"
      refine ⟨_, _, _, _, _, _, _, _, _, _, _, _, rfl, rfl, nz _ _ (by omega) (by omega), nz _ _ (by omega) (by omega), nz _ _ (by omega) (by omega), nz _ _ (by omega) (by omega), ?_⟩
      exact (map_at hz hy).symm
    · walk_at "dl"
      rw [cells_all]
      exact q
section
variable {P : Program} {w : World} {K : PySem.W.Frag} {mg : Str → Option Value} {base : Heap}
theorem ok_is_fulfilled {fd : FuncData} (F : FnP K "is_fulfilled" s_is_fulfilled fd) (T : Txt K mg) (c_all_close : Cal P w K mg base 6 "all_close" ["table"] (fs_all_close K)) (c_cell_comes_out : Cal P w K mg base 9 "cell_comes_out" ["corners", "lines"] (fs_cell_comes_out K)) (c_cell_corners : Cal P w K mg base 1 "cell_corners" ["table", "i", "j"] (fs_cell_corners K)) (c_cells_of : Cal P w K mg base 1 "cells_of" ["table"] (fs_cells_of K)) (c_told_fraction : Cal P w K mg base 6 "told_fraction" ["pair", "line"] (fs_told_fraction K)) : FnOk P w K mg base (L2.CX P w) 10 (He.ga K "is_fulfilled") fd ["table", "wish"] (spF K (fs_is_fulfilled K)) := by
  refine fn_ok (k := 9) F sc_is_fulfilled len_D2 (by decide) (t_is_fulfilled K) (fun cdv A outer s H E hr => ?_) (body_is_fulfilled T)
  exact (pss_cons (ps_if (pt_not (pt_val (pe_cal c_all_close hr (by decide) rfl (pa_cons (pv 0) pa_nil)))) (pss_one (ps_ret pe_bl)) pss_nil)
  (pss_cons (ps_for (passes_of rfl) rfl (pi_zipX (by rfl) T.n_zip (pa_cons (pv 0) (pa_cons (pv 1) pa_nil))) (pg_tup (by rfl) (pgs_cons (pg_name (i := 2) sc_is_fulfilled.nd rfl (Or.inl rfl)) (pgs_cons (pg_name (i := 3) sc_is_fulfilled.nd rfl (Or.inl rfl)) pgs_nil))) (pss_one (ps_for (passes_of rfl) rfl (pi_zipX (by rfl) T.n_zip (pa_cons (pv 2) (pa_cons (pv 3) pa_nil))) (pg_tup (by rfl) (pgs_cons (pg_name (i := 4) sc_is_fulfilled.nd rfl (Or.inl rfl)) (pgs_cons (pg_name (i := 5) sc_is_fulfilled.nd rfl (Or.inl rfl)) pgs_nil))) (pss_one (ps_if (pt_cmpR (op_eqD hr.units) (pe_cal c_told_fraction hr (by decide) rfl (pa_cons (pv 4) (pa_cons (pv 5) pa_nil))) (C8.pe_gc rfl T.k_ZERO) (nomark _)) (pss_one (ps_ret pe_bl)) pss_nil)))))
  (pss_one (ps_ret (pe_callB (cr_all rfl) (by rfl) T.n_all (by decide +kernel) (pa_cons (pe_lc (own := [("i", 6), ("j", 7)]) (g := (gTup K 2 (gCons (gName 6) (gCons (gName 7) gNil)))) (tt := tYes) rfl sc_is_fulfilled.nd (pi_any (pe_cal c_cells_of hr (by decide) rfl (pa_cons (pv 0) pa_nil))) (blkOk_by (own := [("i", 6), ("j", 7)]) (N := N_is_fulfilled) (sc := defScope s_is_fulfilled) (by decide +kernel)) (fun _ _ _ _ _ => (pg_tup (by rfl) (pgs_cons (pg_name (i := 6) sc_is_fulfilled.nd rfl (by first | exact Or.inl rfl | exact Or.inr rfl)) (pgs_cons (pg_name (i := 7) sc_is_fulfilled.nd rfl (by first | exact Or.inl rfl | exact Or.inr rfl)) pgs_nil)))) (fun _ _ _ _ _ => pts_nil) (fun _ _ _ _ _ => (pe_cal c_cell_comes_out hr (by decide) rfl (pa_cons (pe_cal c_cell_corners hr (by decide) rfl (pa_cons (pv 0) (pa_cons (pv 6) (pa_cons (pv 7) pa_nil)))) (pa_cons (pe_cal c_cell_corners hr (by decide) rfl (pa_cons (pv 1) (pa_cons (pv 6) (pa_cons (pv 7) pa_nil)))) pa_nil))))) pa_nil))))))
end
def t_fulfils (K : PySem.W.Frag) (E : XK) : TS :=
  (tSeq (tDrop (tCallS (spF K (fs_check_table K)) (WE (fun cls d (_ : L2.St) H => E cls d H)) (tCons (tVar 0) tNil)))
  (tSeq (tIfS (tNot (tB (tCall (spF K (fs_is_wish K)) [] E0 (tCons (tVar 1) (tCons (tCB (rLenB K) (tCons (tOp (rIx K) (tVar 0) (tC (.int 0))) tNil)) (tCons (tCB (rLenB K) (tCons (tVar 0) tNil)) tNil)))))) (fun _ σ H => (fun (_ : L2.St) (H : Hp) (Q : XK) => Q (.ref (He.ga K "BadWish")) none H) σ H fun cls d H' => (fun cls d (_ : L2.St) H => E cls d H) cls d σ H') tNext)
  (tRet (tCall (spF K (fs_is_fulfilled K)) [] E0 (tCons (tVar 0) (tCons (tVar 1) tNil))))))
def fs_fulfils (K : PySem.W.Frag) : FS := fsD2 fun x y P PX => (isTabD x = false ∧ PX ⟨.ref (He.ga K "BadTable"), none⟩) ∨ ∃ up ac T, isTabD x = true ∧ Tab x up ac T ∧
  ((isWishD y ac up = false ∧ PX ⟨.ref (He.ga K "BadWish"), none⟩) ∨ ∃ W, isWishD y ac up = true ∧ Wsh y up ac W ∧ P (.bool (fulB up ac T W)))
theorem body_fulfils {K : PySem.W.Frag} {mg : Str → Option Value} (T : Txt K mg) (E : XK) : ∀ (as : List AV) (P : D → Prop) (PX : XD → Prop), fs_fulfils K as P PX → SatS (cn K E PX) (t_fulfils K E) (gin as 0) (den P) := bD2 fun x y P PX q => by
  unfold t_fulfils
  rcases q with ⟨h, q⟩ | ⟨up, ac, T, h, tb, q⟩
  · walk_at "dl"
    exact ⟨fun z => absurd (h.symm.trans z) (by decide), fun _ => q⟩
  · obtain ⟨rs, h1, h2, h3⟩ := id tb.g
    obtain ⟨r0, xs, a1, a2, a3, _⟩ := h3 0 (by have := tb.u1; omega)
    have a4 := tb.a4
    walk_at "dl"
    refine ⟨fun _ => ?_, fun z => absurd (h.symm.trans z) (by decide)⟩
    walk_at "dl"
    refine ix_row (n := 0) h1 rfl a1 ?_
    walk_at "dl"
    refine kc_lenR a2 ?_
    walk_at "dl"
    refine kc_lenR h1 ?_
    walk_at "dl"
    rw [a3, h2]
    refine ⟨by omega, ?_⟩
    walk_at "dl"
    rcases q with ⟨hw, q⟩ | ⟨W, hw, wb, q⟩
    · rw [hw]
      walk_at "dl"
      exact sat_raise0 (c := cn K E PX) q
    · rw [hw]
      walk_at "dl"
      exact ⟨up, ac, T, W, tb, wb, q⟩
section
variable {P : Program} {w : World} {K : PySem.W.Frag} {mg : Str → Option Value} {base : Heap}
theorem ok_fulfils {fd : FuncData} (F : FnP K "fulfils" s_fulfils fd) (T : Txt K mg) (c_check_table : Cal P w K mg base 6 "check_table" ["table"] (fs_check_table K)) (c_is_fulfilled : Cal P w K mg base 10 "is_fulfilled" ["table", "wish"] (fs_is_fulfilled K)) (c_is_wish : Cal P w K mg base 2 "is_wish" ["thing", "columns", "rows"] (fs_is_wish K)) : FnOk P w K mg base (L2.CX P w) 11 (He.ga K "fulfils") fd ["table", "wish"] (spF K (fs_fulfils K)) := by
  refine fn_ok (k := 10) F sc_fulfils len_D2 (by decide) (t_fulfils K) (fun cdv A outer s H E hr => ?_) (body_fulfils T)
  exact (pss_cons (ps_expr (pe_calS c_check_table hr (by decide) (takes_of rfl rfl rfl rfl) rfl (pa_cons (pv 0) pa_nil)))
  (pss_cons (ps_if (pt_not (pt_val (pe_cal c_is_wish hr (by decide) rfl (pa_cons (pv 1) (pa_cons (pe_callB call_len (by rfl) T.n_len (by decide +kernel) (pa_cons (pe_ix ix_seq (pv 0) pe_int (fun _ _ => rfl)) pa_nil)) (pa_cons (pe_callB call_len (by rfl) T.n_len (by decide +kernel) (pa_cons (pv 0) pa_nil)) pa_nil)))))) (pss_one (ps_raise0 T.x_BadWish rfl (takes_of rfl rfl rfl rfl) rfl)) pss_nil)
  (pss_one (ps_ret (pe_cal c_is_fulfilled hr (by decide) rfl (pa_cons (pv 0) (pa_cons (pv 1) pa_nil)))))))
end
end X85
end
section
namespace X85
open PySem L2 DL
local macro_rules | `(tactic| walk_at "bi") => `(tactic| first
  | assumption
  | exact Sz.nb (by assumption) (by decide) | exact Sz.db (by assumption) (by decide)
  | (unfold Bi; decide))
local macro_rules | `(tactic| walk_at "sz0") => `(tactic| first
  | assumption
  | exact Sz.one | exact Sz.zero
  | ((apply Sz.neg); (· walk_at "sz0"))
  | ((apply Sz.mul); (· walk_at "sz0"); (· walk_at "sz0"))
  | ((apply Sz.add); (· walk_at "sz0"); (· walk_at "sz0"))
  | ((apply Sz.sub); (· walk_at "sz0"); (· walk_at "sz0"))
  | ((apply Sz.div); (· walk_at "sz0"); (· walk_at "sz0"); (· assumption)))
local macro_rules | `(tactic| walk_at "sz") => `(tactic| first | assumption | ((apply Sz.mono); (· walk_at "sz0"); (· decide)))
local macro_rules | `(tactic| walk_at "d1") => `(tactic| first
  | with_reducible refine sat_seq ?_ | with_reducible refine sat_drop ?_ | with_reducible refine sat_if ?_ | with_reducible refine sat_ret ?_ | with_reducible refine sat_retN ?_ | with_reducible refine sat_next ?_ | with_reducible refine sat_par ?_
  | with_reducible refine sat_asgHot (el_lst (ea_nil ⟨_, rfl, Nat.le_of_ble_eq_true rfl, ?_⟩))
  | refine sat_setSt _ rfl (by decide) ?_
  | with_reducible refine sat_asg ?_ | with_reducible refine sat_asgG ?_ | with_reducible refine eg_tup4 ?_ | with_reducible refine eg_tup2 ?_ | with_reducible refine eg_name ?_
  | with_reducible refine evt_of ?_ | with_reducible refine evt_B ?_ | with_reducible refine evt_and ?_ | with_reducible refine evt_or ?_ | with_reducible refine evt_not ?_ | with_reducible refine evt_yes ?_
  | ((with_reducible apply ev_var); · exact rfl)
  | with_reducible refine ev_int ?_ | with_reducible refine ev_str ?_ | with_reducible refine ev_bl ?_ | with_reducible refine ev_non ?_
  | refine ev_stI _ rfl (by decide) ?_ | refine ev_stL rfl ?_
  | refine ev_ixHot rfl rfl ?_ | refine ev_lenHot rfl rfl ?_
  | with_reducible refine ev_op ?_ | with_reducible refine ev_neg ?_ | with_reducible refine ev_and ?_ | with_reducible refine ev_or ?_ | with_reducible refine ev_not ?_ | with_reducible refine ev_if ?_ | with_reducible refine ev_chain ?_
  | with_reducible refine ev_tup ?_ | with_reducible refine ev_call ?_ | with_reducible refine ev_callS ?_ | with_reducible refine ev_callKS ?_
  | refine ev_isiT (ns := ["list", "tuple"]) (by decide) ?_
  | with_reducible refine ev_cb ?_
  | with_reducible refine ea_nil ?_ | refine ea_val (v := .ty _) ?_ | ((with_reducible apply ea_st); · exact rfl) | with_reducible refine ea_cons ?_
  | refine ev_int ?_
  | refine ix_fr0 ?_ | refine ix_fr1 ?_ | refine k2_ix (.inl rfl) rfl ?_ | refine k2_ix (.inr rfl) rfl ?_
  | refine k2_mul (bi_mulOk (n := 9000) (m := 9000) (by walk_at "bi") (by walk_at "bi") (by decide)) ?_
  | refine k2_add ?_
  | refine k2_eqI ?_ | refine k2_neI ?_ | refine k2_eqF ?_ | refine k2_eqF2 ?_ | refine k2_neB ?_ | refine k2_is ?_ | refine k2_isnot ?_ | refine k2_isB ?_
  | refine k2_IB ?_ | refine k2_II ?_
  | refine kc_abs ?_ | refine kc_intI ?_ | refine kc_isi rfl ?_ | refine kc_len rfl ?_ | refine kc_all ?_
  | refine tup_one ?_ | refine tup_zero ?_ | refine tup_m1 ?_ | refine tup_neg ?_ | refine tup_any rfl (Nat.le_of_ble_eq_true rfl) ?_
  | refine tt_split ?_ | refine ff_split ?_
  | refine bool_any ?_ | refine int_any ?_ | refine ⟨_, _, rfl, ?_⟩
  | ((refine cD1 ?_); (try dsimp only)) | ((refine cD2 ?_); (try dsimp only)) | ((refine cD3 ?_); (try dsimp only)) | ((refine cD4 ?_); (try dsimp only)) | ((refine cS0 ?_); (try dsimp only)) | ((refine cS1 ?_); (try dsimp only)) | ((refine cS2 ?_); (try dsimp only)) | ((refine cS3 ?_); (try dsimp only))
  | refine sz_and (by walk_at "sz") ?_
  | refine take_and (by first | decide | omega) (by first | decide | omega) ?_
  | refine ne_and (by assumption) ?_
  | refine ev_c (rp_ONE (by assumption)) ?_ | refine ev_c (rp_ZERO (by assumption)) ?_
  | refine ⟨_, _, rfl, rfl, ?_⟩ | refine ⟨_, _, _, rfl, rfl, rfl, ?_⟩ | refine ⟨_, _, _, _, rfl, rfl, rfl, rfl, ?_⟩)
local macro_rules | `(tactic| walk_at "dl") => `(tactic| repeat (walk_at "d1"))

theorem take_and {m : Int} {R : Prop} (h : 0 < m) (h2 : m ≤ 1000000) (r : R) : 0 < m ∧ m ≤ 1000000 ∧ R := ⟨h, h2, r⟩
theorem small_mulL {i j : Int} (h1 : -(2 ^ 64) < i) (h2 : i < 2 ^ 64) : IntMulOk i j := IntMulOk.of_left (intBits_le_64 h1 h2)
theorem small_mulR {i j : Int} (h1 : -(2 ^ 64) < j) (h2 : j < 2 ^ 64) : IntMulOk i j := IntMulOk.of_right (intBits_le_64 h1 h2)
theorem small_div {i j : Int} (h0 : 0 < j) (h : j ≤ 1000000) : CDivI i j := bi_divOk (n := 64) (by unfold Bi; omega) (by decide) (by omega)
def t__law_mixed (K : PySem.W.Frag) (E : XK) : TS :=
  (tSeq (tAsg (tOp rModI (tCB rIntB (tCons (tOp rMulA (tOp (rAddA K) (tOp (rAddA K) (tOp rModI (tCB rIntB (tCons (tVar 0) tNil)) (tC (.int 2147483647))) (tOp rMulA (tC (.int 7919)) (tVar 1))) (tC (.int 1))) (tC (.int 48271))) tNil)) (tC (.int 2147483647))) (gName 2))
  (tSeq (tAsg (tOp rModI (tCB rIntB (tCons (tOp rMulA (tVar 2) (tOp (rAddA K) (tOp rDivI (tVar 2) (tC (.int 1009))) (tC (.int 69621)))) tNil)) (tC (.int 2147483647))) (gName 2))
  (tRet (tOp rModI (tCB rIntB (tCons (tOp rMulA (tVar 2) (tOp (rAddA K) (tOp rDivI (tVar 2) (tC (.int 2003))) (tC (.int 40692)))) tNil)) (tC (.int 2147483399))))))
def fs__law_mixed (K : PySem.W.Frag) : FS := fsD2 fun x y P _ => ∃ a b : Int, x = .int a ∧ y = .int b ∧ ∀ n : Int, 0 ≤ n → P (.int n)
theorem body__law_mixed {K : PySem.W.Frag} {mg : Str → Option Value} (T : Txt K mg) (E : XK) : ∀ (as : List AV) (P : D → Prop) (PX : XD → Prop), fs__law_mixed K as P PX → SatS (cn K E PX) (t__law_mixed K E) (gin as 1) (den P) := bD2 fun x y P PX q => by
  obtain ⟨a, b, rfl, rfl, q⟩ := q
  unfold t__law_mixed
  walk_at "dl"
  refine k2_C (R := fun _ j => j ≠ 0) (by decide) ?_
  walk_at "dl"
  refine k2_mul (small_mulL (by decide) (by decide)) ?_
  walk_at "dl"
  refine k2_mul (small_mulR (by decide) (by decide)) ?_
  walk_at "dl"
  refine k2_C (R := fun _ j => j ≠ 0) (by decide) ?_
  have b1 := fmod_le (a := (a.fmod 2147483647 + 7919 * b + 1) * 48271) (b := 2147483647) (by decide)
  generalize ((a.fmod 2147483647 + 7919 * b + 1) * 48271).fmod 2147483647 = n at b1
  walk_at "dl"
  refine k2_C (small_div (by decide) (by decide)) ?_
  walk_at "dl"
  refine k2_mul (small_mulL (by omega) (by omega)) ?_
  walk_at "dl"
  refine k2_C (R := fun _ j => j ≠ 0) (by decide) ?_
  have b2 := fmod_le (a := n * (n.fdiv 1009 + 69621)) (b := 2147483647) (by decide)
  generalize (n * (n.fdiv 1009 + 69621)).fmod 2147483647 = m at b2
  walk_at "dl"
  refine k2_C (small_div (by decide) (by decide)) ?_
  walk_at "dl"
  refine k2_mul (small_mulL (by omega) (by omega)) ?_
  walk_at "dl"
  refine k2_C (R := fun _ j => j ≠ 0) (by decide) ?_
  exact q _ (fmod_le (by decide)).1
section
variable {P : Program} {w : World} {K : PySem.W.Frag} {mg : Str → Option Value} {base : Heap}
theorem ok__law_mixed {fd : FuncData} (F : FnP K "_law_mixed" s__law_mixed fd) (T : Txt K mg)  : FnOk P w K mg base (L2.CX P w) 1 (He.ga K "_law_mixed") fd ["cell", "k"] (spF K (fs__law_mixed K)) := by
  refine fn_ok (k := 0) F sc__law_mixed len_D2 (by decide) (t__law_mixed K) (fun cdv A outer s H E hr => ?_) (body__law_mixed T)
  exact (pss_cons (ps_set (i := 2) sc__law_mixed.nd rfl (Or.inl rfl) (pe_op op_modN (pe_callTy call_intA (by rfl) T.n_int (by decide +kernel) (pa_cons (pe_op op_mulA (pe_op op_addA (pe_op op_addA (pe_op op_modN (pe_callTy call_intA (by rfl) T.n_int (by decide +kernel) (pa_cons (pv 0) pa_nil)) pe_int) (pe_op op_mulA pe_int (pv 1))) pe_int) pe_int) pa_nil)) pe_int))
  (pss_cons (ps_set (i := 2) sc__law_mixed.nd rfl (Or.inl rfl) (pe_op op_modN (pe_callTy call_intA (by rfl) T.n_int (by decide +kernel) (pa_cons (pe_op op_mulA (pv 2) (pe_op op_addA (pe_op op_fdivI (pv 2) pe_int) pe_int)) pa_nil)) pe_int))
  (pss_one (ps_ret (pe_op op_modN (pe_callTy call_intA (by rfl) T.n_int (by decide +kernel) (pa_cons (pe_op op_mulA (pv 2) (pe_op op_addA (pe_op op_fdivI (pv 2) pe_int) pe_int)) pa_nil)) pe_int)))))
end
def t__law_great (K : PySem.W.Frag) (E : XK) : TS :=
  (tSeq (tIfS (tAnd (tTest (tOp rLtI (tVar 1) (tCB (rLenB K) (tCons (tVar 0) tNil)))) (tTest (tOp rGeI (tCB rAbsB (tCons (tOp (rIx K) (tVar 0) (tVar 1)) tNil)) (tOp rPowI (tC (.int 10)) (tC (.int 18)))))) (tRet (tCB rAbsB (tCons (tOp (rIx K) (tVar 0) (tVar 1)) tNil))) tNext)
  (tRet (tC (.int 0))))
def fs__law_great (K : PySem.W.Frag) : FS := fsD2 fun x y P _ => ∃ (ns : List Int) (p : Int), x = .list (ns.map .int) ∧ y = .int p ∧ 0 ≤ p ∧ ∀ n : Int, P (.int n)
theorem body__law_great {K : PySem.W.Frag} {mg : Str → Option Value} (T : Txt K mg) (E : XK) : ∀ (as : List AV) (P : D → Prop) (PX : XD → Prop), fs__law_great K as P PX → SatS (cn K E PX) (t__law_great K E) (gin as 0) (den P) := bD2 fun x y P PX q => by
  obtain ⟨ns, p, rfl, rfl, hp, q⟩ := q
  unfold t__law_great
  walk_at "dl"
  refine ⟨fun h => ?_, fun h => ?_⟩
  · have hlt := of_decide_eq_true h
    rw [List.length_map] at hlt
    have hl : p.toNat < ns.length := by omega
    have hx : (ns.map PyData.int)[p.toNat]? = some (.int ns[p.toNat]) := by rw [List.getElem?_map, List.getElem?_eq_getElem hl]; rfl
    walk_at "dl"
    refine ix_row (n := p.toNat) rfl (by omega) hx ?_
    walk_at "dl"
    refine k2_C (R := CPow) ⟨by decide, by decide, by decide⟩ ?_
    walk_at "dl"
    refine ⟨fun h2 => ?_, fun h2 => ?_⟩
    · walk_at "dl"
      refine ix_row (n := p.toNat) rfl (by omega) hx ?_
      walk_at "dl"
      exact q _
    · walk_at "dl"
      exact q _
  · walk_at "dl"
    exact q _
section
variable {P : Program} {w : World} {K : PySem.W.Frag} {mg : Str → Option Value} {base : Heap}
theorem ok__law_great {fd : FuncData} (F : FnP K "_law_great" s__law_great fd) (T : Txt K mg)  : FnOk P w K mg base (L2.CX P w) 1 (He.ga K "_law_great") fd ["cells", "place"] (spF K (fs__law_great K)) := by
  refine fn_ok (k := 0) F sc__law_great len_D2 (by decide) (t__law_great K) (fun cdv A outer s H E hr => ?_) (body__law_great T)
  exact (pss_cons (ps_if (PW.pt (pw_and (pt_cmpR op_lt (pv 1) (pe_callB call_len (by rfl) T.n_len (by decide +kernel) (pa_cons (pv 0) pa_nil)) (nomark _)) (pw_and1 (pt_cmpR op_ge (pe_callB call_abs (by rfl) T.n_abs (by decide +kernel) (pa_cons (pe_ix ix_seq (pv 0) (pv 1) (fun _ _ => rfl)) pa_nil)) (pe_op op_pow pe_int pe_int) (nomark _))))) (pss_one (ps_ret (pe_callB call_abs (by rfl) T.n_abs (by decide +kernel) (pa_cons (pe_ix ix_seq (pv 0) (pv 1) (fun _ _ => rfl)) pa_nil)))) pss_nil)
  (pss_one (ps_ret pe_int)))
end
def t__law_take (K : PySem.W.Frag) (E : XK) : TS :=
  (tSeq (tAsg (tOp (rIx K) (tVar 0) (tC (.int 0))) (gName 2))
  (tSeq (tAsg (tOp (rIx K) (tVar 0) (tC (.int 1))) (gName 3))
  (tSeq (tAsg (tOp (rAddA K) (tOp (rIx K) (tVar 0) (tC (.int 3))) (tC (.int 1))) (gSub (tVar 0) (tC (.int 3)) rSetL))
  (tSeq (tIfS (tTest (tOp rGtI (tOp (rIx K) (tVar 0) (tC (.int 2))) (tC (.int 0)))) (tSeq (tAsg (tOp rModI (tCB rIntB (tCons (tOp (rIx K) (tVar 0) (tC (.int 2))) tNil)) (tVar 1)) (gName 4))
  (tSeq (tAsg (tOp rDivI (tOp (rIx K) (tVar 0) (tC (.int 2))) (tVar 1)) (gSub (tVar 0) (tC (.int 2)) rSetL))
  (tIfS (tTest (tOp rGtI (tOp (rIx K) (tVar 0) (tC (.int 2))) (tC (.int 0)))) (tRet (tVar 4)) tNext))) (tAsg (tOp rModI (tCall (spF K (fs__law_mixed K)) [] E0 (tCons (tOp (rIx K) (tVar 2) (tOp rModI (tCB rIntB (tCons (tVar 3) tNil)) (tCB (rLenB K) (tCons (tVar 2) tNil)))) (tCons (tOp (rIx K) (tVar 0) (tC (.int 3))) tNil))) (tVar 1)) (gName 4)))
  (tSeq (tAsg (tOp (rAddA K) (tVar 3) (tC (.int 1))) (gSub (tVar 0) (tC (.int 1)) rSetL))
  (tSeq (tAsg (tCall (spF K (fs__law_great K)) [] E0 (tCons (tVar 2) (tCons (tOp (rAddA K) (tVar 3) (tC (.int 1))) tNil))) (gSub (tVar 0) (tC (.int 2)) rSetL))
  (tRet (tVar 4))))))))
def fs__law_take (K : PySem.W.Frag) : FS := fsS1 fun x P _ => ∃ m : Int, x = .int m ∧ 0 < m ∧ m ≤ 1000000 ∧ ∀ d : Int, 0 ≤ d → d < m → P (.int d)
theorem body__law_take {K : PySem.W.Frag} {mg : Str → Option Value} (T : Txt K mg) (E : XK) : ∀ (as : List AV) (P : D → Prop) (PX : XD → Prop), fs__law_take K as P PX → SatS (cn K E PX) (t__law_take K E) (gin as 3) (den P) := bS1 fun k x P PX q => by
  obtain ⟨m, rfl, m0, m1, q⟩ := q
  unfold t__law_take
  walk_at "dl"
  intro ns hns
  walk_at "dl"
  intro p hp
  have p0 : 0 ≤ p := hp rfl
  walk_at "dl"
  intro n3 _
  walk_at "dl"
  walk_at "dl"
  refine ⟨fun z => (by cases z), ?_⟩
  have fin : ∀ d : Int, 0 ≤ d → d < m → SatS (cn K E PX) (tSeq (tAsg (tOp (rAddA K) (tVar 3) (tC (.int 1))) (gSub (tVar 0) (tC (.int 1)) rSetL))
      (tSeq (tAsg (tCall (spF K (fs__law_great K)) [] E0 (tCons (tVar 2) (tCons (tOp (rAddA K) (tVar 3) (tC (.int 1))) tNil))) (gSub (tVar 0) (tC (.int 2)) rSetL)) (tRet (tVar 4))))
      ⟨[.st k, .d (.int m), .d (.list (ns.map .int)), .d (.int p), .d (.int d)], []⟩ (den P) := by
    intro d d0 d1
    walk_at "dl"
    refine ⟨fun _ => (by omega), ?_⟩
    walk_at "dl"
    refine ⟨by omega, fun n => ?_⟩
    walk_at "dl"
    refine ⟨fun z => (by cases z), ?_⟩
    walk_at "dl"
    exact q d d0 d1
  walk_at "dl"
  intro g _
  walk_at "dl"
  refine ⟨fun h => ?_, fun h => ?_⟩
  · walk_at "dl"
    intro g2 _
    walk_at "dl"
    refine k2_C (R := fun _ j => j ≠ 0) (by omega) ?_
    walk_at "dl"
    intro g3 _
    walk_at "dl"
    refine k2_C (small_div (by omega) (by omega)) ?_
    walk_at "dl"
    refine ⟨fun z => (by cases z), ?_⟩
    walk_at "dl"
    intro g4 _
    walk_at "dl"
    refine ⟨fun h => ?_, fun h => ?_⟩
    · walk_at "dl"
      exact q _ (fmod_le m0).1 (fmod_le m0).2
    · have f := fin (g2.fmod m) (fmod_le m0).1 (fmod_le m0).2
      refine sat_next ?_
      exact f
  · walk_at "dl"
    refine k2_C (R := fun _ j => j ≠ 0) (by rw [List.length_map]; omega) ?_
    have b := fmod_le (a := p) (b := ((ns.map PyData.int).length : Int)) (by rw [List.length_map]; omega)
    have hl : (p.fmod ((ns.map PyData.int).length : Int)).toNat < ns.length := by rw [List.length_map] at b ⊢; omega
    refine ix_row (n := (p.fmod ((ns.map PyData.int).length : Int)).toNat) rfl (by omega) (x := .int ns[(p.fmod ((ns.map PyData.int).length : Int)).toNat]) (by rw [List.getElem?_map, List.getElem?_eq_getElem hl]; rfl) ?_
    walk_at "dl"
    intro g2 _
    walk_at "dl"
    intro n hn
    walk_at "dl"
    refine k2_C (R := fun _ j => j ≠ 0) (by omega) ?_
    have f := fin (n.fmod m) (fmod_le m0).1 (fmod_le m0).2
    exact f
section
variable {P : Program} {w : World} {K : PySem.W.Frag} {mg : Str → Option Value} {base : Heap}
theorem ok__law_take {fd : FuncData} (F : FnP K "_law_take" s__law_take fd) (T : Txt K mg) (c__law_great : Cal P w K mg base 1 "_law_great" ["cells", "place"] (fs__law_great K)) (c__law_mixed : Cal P w K mg base 1 "_law_mixed" ["cell", "k"] (fs__law_mixed K)) : FnOk P w K mg base (L2.CX P w) 2 (He.ga K "_law_take") fd ["stream", "many"] (spF K (fs__law_take K)) := by
  refine fn_ok (k := 1) F sc__law_take len_S1 (by decide) (t__law_take K) (fun cdv A outer s H E hr => ?_) (body__law_take T)
  exact (pss_cons (ps_set (i := 2) sc__law_take.nd rfl (Or.inl rfl) (pe_ix ix_seq (pv 0) pe_int (fun _ _ => rfl)))
  (pss_cons (ps_set (i := 3) sc__law_take.nd rfl (Or.inl rfl) (pe_ix ix_seq (pv 0) pe_int (fun _ _ => rfl)))
  (pss_cons (ps_asg (pe_op op_addA (pe_ix ix_seq (pv 0) pe_int (fun _ _ => rfl)) pe_int) (pg_sub (pv 0) pe_int set_list))
  (pss_cons (ps_if (pt_cmpR op_gt (pe_ix ix_seq (pv 0) pe_int (fun _ _ => rfl)) pe_int (nomark _)) (pss_cons (ps_set (i := 4) sc__law_take.nd rfl (Or.inl rfl) (pe_op op_modN (pe_callTy call_intA (by rfl) T.n_int (by decide +kernel) (pa_cons (pe_ix ix_seq (pv 0) pe_int (fun _ _ => rfl)) pa_nil)) (pv 1)))
  (pss_cons (ps_asg (pe_op op_fdivI (pe_ix ix_seq (pv 0) pe_int (fun _ _ => rfl)) (pv 1)) (pg_sub (pv 0) pe_int set_list))
  (pss_one (ps_if (pt_cmpR op_gt (pe_ix ix_seq (pv 0) pe_int (fun _ _ => rfl)) pe_int (nomark _)) (pss_one (ps_ret (pv 4))) pss_nil)))) (pss_one (ps_set (i := 4) sc__law_take.nd rfl (Or.inl rfl) (pe_op op_modN (pe_cal c__law_mixed hr (by decide) rfl (pa_cons (pe_ix ix_seq (pv 2) (pe_op op_modN (pe_callTy call_intA (by rfl) T.n_int (by decide +kernel) (pa_cons (pv 3) pa_nil)) (pe_callB call_len (by rfl) T.n_len (by decide +kernel) (pa_cons (pv 2) pa_nil))) (fun _ _ => rfl)) (pa_cons (pe_ix ix_seq (pv 0) pe_int (fun _ _ => rfl)) pa_nil))) (pv 1)))))
  (pss_cons (ps_asg (pe_op op_addA (pv 3) pe_int) (pg_sub (pv 0) pe_int set_list))
  (pss_cons (ps_asg (pe_cal c__law_great hr (by decide) rfl (pa_cons (pv 2) (pa_cons (pe_op op_addA (pv 3) pe_int) pa_nil))) (pg_sub (pv 0) pe_int set_list))
  (pss_one (ps_ret (pv 4)))))))))
end
def t__law_low (K : PySem.W.Frag) (E : XK) : TS :=
  (tSeq (tAsg (tCB rAbsB (tCons (tVar 0) tNil)) (gName 2))
  (tSeq (tAsg (tCB rAbsB (tCons (tVar 1) tNil)) (gName 3))
  (tSeq (tWhile (tTest (tOp rGtI (tVar 3) (tC (.int 0)))) (tPar 2 3 (tCons (tVar 3) (tCons (tOp rModI (tCB rIntB (tCons (tVar 2) tNil)) (tVar 3)) tNil))))
  (tSeq (tIfS (tTest (tOp rLtI (tVar 1) (tC (.int 0)))) (tAsg (tUn uNeg (tVar 2)) (gName 2)) tNext)
  (tRet (tTup (tCons (tOp rDivI (tVar 0) (tVar 2)) (tCons (tOp rDivI (tVar 1) (tVar 2)) tNil))))))))
def fs__law_low (K : PySem.W.Frag) : FS := fsD2 fun x y P _ => ∃ a b : Int, x = .int a ∧ y = .int b ∧ b ≠ 0 ∧ Bi 9000 b ∧ P (fr (Rat.divInt a b))
theorem body__law_low {K : PySem.W.Frag} {mg : Str → Option Value} (T : Txt K mg) (E : XK) : ∀ (as : List AV) (P : D → Prop) (PX : XD → Prop), fs__law_low K as P PX → SatS (cn K E PX) (t__law_low K E) (gin as 2) (den P) := bD2 fun x y P PX q => by
  obtain ⟨a, b, rfl, rfl, h0, hb, p⟩ := q
  have g0 := gcdI_pos (a := a) (b := b) (.inr h0)
  have gb : Bi 9000 (gcdI a b) := by
    unfold Bi gcdI at *
    have := Int.gcd_le_natAbs_right a h0
    omega
  unfold t__law_low
  walk_at "dl"
  refine sat_while (I := fun m G' => ∃ u v : Int, 0 ≤ u ∧ 0 ≤ v ∧ v.toNat = m ∧ gcdI u v = gcdI a b ∧ G' = ⟨[.d (.int a), .d (.int b), .d (.int u), .d (.int v)], []⟩) ⟨_, _, ?_, ?_, rfl, ?_, rfl⟩ ?_
  · split <;> omega
  · split <;> omega
  · unfold gcdI; split <;> split <;> simp
  · rintro m G' ⟨u, v, hu, hv, hm, hg, rfl⟩
    walk_at "dl"
    refine ⟨fun h => ?_, fun h => ?_⟩
    · have hv0 : 0 < v := by simpa using h
      walk_at "dl"
      refine k2_C (R := fun _ j => j ≠ 0) (by omega) ?_
      walk_at "dl"
      refine ⟨_, ?_, _, _, hv, (fmod_le hv0).1, rfl, ?_, rfl⟩
      · have := fmod_le (a := u) hv0; omega
      · rw [gcd_fmod hu hv0]; exact hg
    · have hv0 : v = 0 := by
        have : ¬ 0 < v := by simpa using h
        omega
      subst hv0
      have e : u = gcdI a b := by rw [← hg]; unfold gcdI; simp; omega
      subst e
      walk_at "dl"
      refine ⟨fun h => ?_, fun h => ?_⟩
      · have hb0 : b < 0 := by simpa using h
        walk_at "dl"
        refine k2_C (bi_divOk gb.neg (by decide) (by omega)) ?_
        walk_at "dl"
        refine k2_C (bi_divOk gb.neg (by decide) (by omega)) ?_
        walk_at "dl"
        have e1 := low_num (a := a) h0
        have e2 := low_den (a := a) h0
        rw [if_pos hb0] at e1 e2
        rw [e1, e2]
        exact p
      · have hb0 : ¬ b < 0 := by simpa using h
        walk_at "dl"
        refine k2_C (bi_divOk gb (by decide) (by omega)) ?_
        walk_at "dl"
        refine k2_C (bi_divOk gb (by decide) (by omega)) ?_
        walk_at "dl"
        have e1 := low_num (a := a) h0
        have e2 := low_den (a := a) h0
        rw [if_neg hb0] at e1 e2
        rw [e1, e2]
        exact p
section
variable {P : Program} {w : World} {K : PySem.W.Frag} {mg : Str → Option Value} {base : Heap}
theorem ok__law_low {fd : FuncData} (F : FnP K "_law_low" s__law_low fd) (T : Txt K mg)  : FnOk P w K mg base (L2.CX P w) 1 (He.ga K "_law_low") fd ["top", "bottom"] (spF K (fs__law_low K)) := by
  refine fn_ok (k := 0) F sc__law_low len_D2 (by decide) (t__law_low K) (fun cdv A outer s H E hr => ?_) (body__law_low T)
  exact (pss_cons (ps_set (i := 2) sc__law_low.nd rfl (Or.inl rfl) (pe_callB call_abs (by rfl) T.n_abs (by decide +kernel) (pa_cons (pv 0) pa_nil)))
  (pss_cons (ps_set (i := 3) sc__law_low.nd rfl (Or.inl rfl) (pe_callB call_abs (by rfl) T.n_abs (by decide +kernel) (pa_cons (pv 1) pa_nil)))
  (pss_cons (ps_while (passes_of rfl) (pt_cmpR op_gt (pv 3) pe_int (nomark _)) (pss_one (ps_par (by rfl) sc__law_low.nd rfl rfl (by decide) rfl rfl (pa_cons (pv 3) (pa_cons (pe_op op_modN (pe_callTy call_intA (by rfl) T.n_int (by decide +kernel) (pa_cons (pv 2) pa_nil)) (pv 3)) pa_nil)) (by rfl))))
  (pss_cons (ps_if (pt_cmpR op_lt (pv 1) pe_int (nomark _)) (pss_one (ps_set (i := 2) sc__law_low.nd rfl (Or.inl rfl) (pe_un un_neg (pv 2)))) pss_nil)
  (pss_one (ps_ret (pe_tup (pa_cons (pe_op op_fdivI (pv 0) (pv 2)) (pa_cons (pe_op op_fdivI (pv 1) (pv 2)) pa_nil)))))))))
end
def t__law_neg (K : PySem.W.Frag) (E : XK) : TS :=
  (tRet (tTup (tCons (tUn uNeg (tOp (rIx K) (tVar 0) (tC (.int 0)))) (tCons (tOp (rIx K) (tVar 0) (tC (.int 1))) tNil))))
def fs__law_neg (K : PySem.W.Frag) : FS := fsD1 fun x P _ => ∃ p, x = fr p ∧ P (fr (-p))
theorem body__law_neg {K : PySem.W.Frag} {mg : Str → Option Value} (T : Txt K mg) (E : XK) : ∀ (as : List AV) (P : D → Prop) (PX : XD → Prop), fs__law_neg K as P PX → SatS (cn K E PX) (t__law_neg K E) (gin as 0) (den P) := bD1 fun x P PX q => by
  obtain ⟨p, rfl, h⟩ := q
  unfold t__law_neg
  walk_at "dl"
  exact h
section
variable {P : Program} {w : World} {K : PySem.W.Frag} {mg : Str → Option Value} {base : Heap}
theorem ok__law_neg {fd : FuncData} (F : FnP K "_law_neg" s__law_neg fd) (T : Txt K mg)  : FnOk P w K mg base (L2.CX P w) 1 (He.ga K "_law_neg") fd ["one"] (spF K (fs__law_neg K)) := by
  refine fn_ok (k := 0) F sc__law_neg len_D1 (by decide) (t__law_neg K) (fun cdv A outer s H E hr => ?_) (body__law_neg T)
  exact (pss_one (ps_ret (pe_tup (pa_cons (pe_un un_neg (pe_ix ix_seq (pv 0) pe_int (fun _ _ => rfl))) (pa_cons (pe_ix ix_seq (pv 0) pe_int (fun _ _ => rfl)) pa_nil)))))
end
def t__law_add (K : PySem.W.Frag) (E : XK) : TS :=
  (tRet (tCall (spF K (fs__law_low K)) [] E0 (tCons (tOp (rAddA K) (tOp rMulA (tOp (rIx K) (tVar 0) (tC (.int 0))) (tOp (rIx K) (tVar 1) (tC (.int 1)))) (tOp rMulA (tOp (rIx K) (tVar 1) (tC (.int 0))) (tOp (rIx K) (tVar 0) (tC (.int 1))))) (tCons (tOp rMulA (tOp (rIx K) (tVar 0) (tC (.int 1))) (tOp (rIx K) (tVar 1) (tC (.int 1)))) tNil))))
def fs__law_add (K : PySem.W.Frag) : FS := fsD2 fun x y P _ => ∃ p q, x = fr p ∧ y = fr q ∧ Sz 4000 p ∧ Sz 4000 q ∧ P (fr (p + q))
theorem body__law_add {K : PySem.W.Frag} {mg : Str → Option Value} (T : Txt K mg) (E : XK) : ∀ (as : List AV) (P : D → Prop) (PX : XD → Prop), fs__law_add K as P PX → SatS (cn K E PX) (t__law_add K E) (gin as 0) (den P) := bD2 fun x y P PX q => by
  obtain ⟨p, q, rfl, rfl, sp, sq, h⟩ := q
  unfold t__law_add
  walk_at "dl"
  refine ⟨den_mul_ne, (sp.2.mul sq.2).mono (by decide), ?_⟩
  rw [divInt_add]
  exact h
section
variable {P : Program} {w : World} {K : PySem.W.Frag} {mg : Str → Option Value} {base : Heap}
theorem ok__law_add {fd : FuncData} (F : FnP K "_law_add" s__law_add fd) (T : Txt K mg) (c__law_low : Cal P w K mg base 1 "_law_low" ["top", "bottom"] (fs__law_low K)) : FnOk P w K mg base (L2.CX P w) 2 (He.ga K "_law_add") fd ["one", "other"] (spF K (fs__law_add K)) := by
  refine fn_ok (k := 1) F sc__law_add len_D2 (by decide) (t__law_add K) (fun cdv A outer s H E hr => ?_) (body__law_add T)
  exact (pss_one (ps_ret (pe_cal c__law_low hr (by decide) rfl (pa_cons (pe_op op_addA (pe_op op_mulA (pe_ix ix_seq (pv 0) pe_int (fun _ _ => rfl)) (pe_ix ix_seq (pv 1) pe_int (fun _ _ => rfl))) (pe_op op_mulA (pe_ix ix_seq (pv 1) pe_int (fun _ _ => rfl)) (pe_ix ix_seq (pv 0) pe_int (fun _ _ => rfl)))) (pa_cons (pe_op op_mulA (pe_ix ix_seq (pv 0) pe_int (fun _ _ => rfl)) (pe_ix ix_seq (pv 1) pe_int (fun _ _ => rfl))) pa_nil)))))
end
def t__law_sub (K : PySem.W.Frag) (E : XK) : TS :=
  (tRet (tCall (spF K (fs__law_low K)) [] E0 (tCons (tOp rSubI (tOp rMulA (tOp (rIx K) (tVar 0) (tC (.int 0))) (tOp (rIx K) (tVar 1) (tC (.int 1)))) (tOp rMulA (tOp (rIx K) (tVar 1) (tC (.int 0))) (tOp (rIx K) (tVar 0) (tC (.int 1))))) (tCons (tOp rMulA (tOp (rIx K) (tVar 0) (tC (.int 1))) (tOp (rIx K) (tVar 1) (tC (.int 1)))) tNil))))
def fs__law_sub (K : PySem.W.Frag) : FS := fsD2 fun x y P _ => ∃ p q, x = fr p ∧ y = fr q ∧ Sz 4000 p ∧ Sz 4000 q ∧ P (fr (p - q))
theorem body__law_sub {K : PySem.W.Frag} {mg : Str → Option Value} (T : Txt K mg) (E : XK) : ∀ (as : List AV) (P : D → Prop) (PX : XD → Prop), fs__law_sub K as P PX → SatS (cn K E PX) (t__law_sub K E) (gin as 0) (den P) := bD2 fun x y P PX q => by
  obtain ⟨p, q, rfl, rfl, sp, sq, h⟩ := q
  unfold t__law_sub
  walk_at "dl"
  refine ⟨den_mul_ne, (sp.2.mul sq.2).mono (by decide), ?_⟩
  rw [divInt_sub]
  exact h
section
variable {P : Program} {w : World} {K : PySem.W.Frag} {mg : Str → Option Value} {base : Heap}
theorem ok__law_sub {fd : FuncData} (F : FnP K "_law_sub" s__law_sub fd) (T : Txt K mg) (c__law_low : Cal P w K mg base 1 "_law_low" ["top", "bottom"] (fs__law_low K)) : FnOk P w K mg base (L2.CX P w) 2 (He.ga K "_law_sub") fd ["one", "other"] (spF K (fs__law_sub K)) := by
  refine fn_ok (k := 1) F sc__law_sub len_D2 (by decide) (t__law_sub K) (fun cdv A outer s H E hr => ?_) (body__law_sub T)
  exact (pss_one (ps_ret (pe_cal c__law_low hr (by decide) rfl (pa_cons (pe_op op_sub (pe_op op_mulA (pe_ix ix_seq (pv 0) pe_int (fun _ _ => rfl)) (pe_ix ix_seq (pv 1) pe_int (fun _ _ => rfl))) (pe_op op_mulA (pe_ix ix_seq (pv 1) pe_int (fun _ _ => rfl)) (pe_ix ix_seq (pv 0) pe_int (fun _ _ => rfl)))) (pa_cons (pe_op op_mulA (pe_ix ix_seq (pv 0) pe_int (fun _ _ => rfl)) (pe_ix ix_seq (pv 1) pe_int (fun _ _ => rfl))) pa_nil)))))
end
def t__law_mul (K : PySem.W.Frag) (E : XK) : TS :=
  (tRet (tCall (spF K (fs__law_low K)) [] E0 (tCons (tOp rMulA (tOp (rIx K) (tVar 0) (tC (.int 0))) (tOp (rIx K) (tVar 1) (tC (.int 0)))) (tCons (tOp rMulA (tOp (rIx K) (tVar 0) (tC (.int 1))) (tOp (rIx K) (tVar 1) (tC (.int 1)))) tNil))))
def fs__law_mul (K : PySem.W.Frag) : FS := fsD2 fun x y P _ => ∃ p q, x = fr p ∧ y = fr q ∧ Sz 4000 p ∧ Sz 4000 q ∧ P (fr (p * q))
theorem body__law_mul {K : PySem.W.Frag} {mg : Str → Option Value} (T : Txt K mg) (E : XK) : ∀ (as : List AV) (P : D → Prop) (PX : XD → Prop), fs__law_mul K as P PX → SatS (cn K E PX) (t__law_mul K E) (gin as 0) (den P) := bD2 fun x y P PX q => by
  obtain ⟨p, q, rfl, rfl, sp, sq, h⟩ := q
  unfold t__law_mul
  walk_at "dl"
  refine ⟨den_mul_ne, (sp.2.mul sq.2).mono (by decide), ?_⟩
  rw [divInt_mul]
  exact h
section
variable {P : Program} {w : World} {K : PySem.W.Frag} {mg : Str → Option Value} {base : Heap}
theorem ok__law_mul {fd : FuncData} (F : FnP K "_law_mul" s__law_mul fd) (T : Txt K mg) (c__law_low : Cal P w K mg base 1 "_law_low" ["top", "bottom"] (fs__law_low K)) : FnOk P w K mg base (L2.CX P w) 2 (He.ga K "_law_mul") fd ["one", "other"] (spF K (fs__law_mul K)) := by
  refine fn_ok (k := 1) F sc__law_mul len_D2 (by decide) (t__law_mul K) (fun cdv A outer s H E hr => ?_) (body__law_mul T)
  exact (pss_one (ps_ret (pe_cal c__law_low hr (by decide) rfl (pa_cons (pe_op op_mulA (pe_ix ix_seq (pv 0) pe_int (fun _ _ => rfl)) (pe_ix ix_seq (pv 1) pe_int (fun _ _ => rfl))) (pa_cons (pe_op op_mulA (pe_ix ix_seq (pv 0) pe_int (fun _ _ => rfl)) (pe_ix ix_seq (pv 1) pe_int (fun _ _ => rfl))) pa_nil)))))
end
def t__law_div (K : PySem.W.Frag) (E : XK) : TS :=
  (tRet (tCall (spF K (fs__law_low K)) [] E0 (tCons (tOp rMulA (tOp (rIx K) (tVar 0) (tC (.int 0))) (tOp (rIx K) (tVar 1) (tC (.int 1)))) (tCons (tOp rMulA (tOp (rIx K) (tVar 0) (tC (.int 1))) (tOp (rIx K) (tVar 1) (tC (.int 0)))) tNil))))
def fs__law_div (K : PySem.W.Frag) : FS := fsD2 fun x y P _ => ∃ p q, x = fr p ∧ y = fr q ∧ Sz 4000 p ∧ Sz 4000 q ∧ q ≠ 0 ∧ P (fr (p / q))
theorem body__law_div {K : PySem.W.Frag} {mg : Str → Option Value} (T : Txt K mg) (E : XK) : ∀ (as : List AV) (P : D → Prop) (PX : XD → Prop), fs__law_div K as P PX → SatS (cn K E PX) (t__law_div K E) (gin as 0) (den P) := bD2 fun x y P PX q => by
  obtain ⟨p, q, rfl, rfl, sp, sq, q0, h⟩ := q
  unfold t__law_div
  walk_at "dl"
  refine ⟨(Int.mul_ne_zero (den_ne p) (num_ne q0)), (sp.2.mul sq.1).mono (by decide), ?_⟩
  rw [divInt_div]
  exact h
section
variable {P : Program} {w : World} {K : PySem.W.Frag} {mg : Str → Option Value} {base : Heap}
theorem ok__law_div {fd : FuncData} (F : FnP K "_law_div" s__law_div fd) (T : Txt K mg) (c__law_low : Cal P w K mg base 1 "_law_low" ["top", "bottom"] (fs__law_low K)) : FnOk P w K mg base (L2.CX P w) 2 (He.ga K "_law_div") fd ["one", "other"] (spF K (fs__law_div K)) := by
  refine fn_ok (k := 1) F sc__law_div len_D2 (by decide) (t__law_div K) (fun cdv A outer s H E hr => ?_) (body__law_div T)
  exact (pss_one (ps_ret (pe_cal c__law_low hr (by decide) rfl (pa_cons (pe_op op_mulA (pe_ix ix_seq (pv 0) pe_int (fun _ _ => rfl)) (pe_ix ix_seq (pv 1) pe_int (fun _ _ => rfl))) (pa_cons (pe_op op_mulA (pe_ix ix_seq (pv 0) pe_int (fun _ _ => rfl)) (pe_ix ix_seq (pv 1) pe_int (fun _ _ => rfl))) pa_nil)))))
end
def t__law_times (K : PySem.W.Frag) (E : XK) : TS :=
  (tRet (tTup (tCons (tCall (spF K (fs__law_mul K)) [] E0 (tCons (tOp (rIx K) (tVar 0) (tC (.int 0))) (tCons (tVar 1) tNil))) (tCons (tCall (spF K (fs__law_mul K)) [] E0 (tCons (tOp (rIx K) (tVar 0) (tC (.int 1))) (tCons (tVar 1) tNil))) tNil))))
def fs__law_times (K : PySem.W.Frag) : FS := fsD2 fun x y P _ => ∃ a b q, x = prD a b ∧ y = fr q ∧ Sz 4000 a ∧ Sz 4000 b ∧ Sz 4000 q ∧ P (prD (a * q) (b * q))
theorem body__law_times {K : PySem.W.Frag} {mg : Str → Option Value} (T : Txt K mg) (E : XK) : ∀ (as : List AV) (P : D → Prop) (PX : XD → Prop), fs__law_times K as P PX → SatS (cn K E PX) (t__law_times K E) (gin as 0) (den P) := bD2 fun x y P PX q => by
  obtain ⟨a, b, q, rfl, rfl, sa, sb, sq, h⟩ := q
  unfold t__law_times prD
  walk_at "dl"
  exact h
section
variable {P : Program} {w : World} {K : PySem.W.Frag} {mg : Str → Option Value} {base : Heap}
theorem ok__law_times {fd : FuncData} (F : FnP K "_law_times" s__law_times fd) (T : Txt K mg) (c__law_mul : Cal P w K mg base 2 "_law_mul" ["one", "other"] (fs__law_mul K)) : FnOk P w K mg base (L2.CX P w) 3 (He.ga K "_law_times") fd ["step", "factor"] (spF K (fs__law_times K)) := by
  refine fn_ok (k := 2) F sc__law_times len_D2 (by decide) (t__law_times K) (fun cdv A outer s H E hr => ?_) (body__law_times T)
  exact (pss_one (ps_ret (pe_tup (pa_cons (pe_cal c__law_mul hr (by decide) rfl (pa_cons (pe_ix ix_seq (pv 0) pe_int (fun _ _ => rfl)) (pa_cons (pv 1) pa_nil))) (pa_cons (pe_cal c__law_mul hr (by decide) rfl (pa_cons (pe_ix ix_seq (pv 0) pe_int (fun _ _ => rfl)) (pa_cons (pv 1) pa_nil))) pa_nil)))))
end
def t__law_cross (K : PySem.W.Frag) (E : XK) : TS :=
  (tRet (tCall (spF K (fs__law_sub K)) [] E0 (tCons (tCall (spF K (fs__law_mul K)) [] E0 (tCons (tOp (rIx K) (tVar 0) (tC (.int 0))) (tCons (tOp (rIx K) (tVar 1) (tC (.int 1))) tNil))) (tCons (tCall (spF K (fs__law_mul K)) [] E0 (tCons (tOp (rIx K) (tVar 0) (tC (.int 1))) (tCons (tOp (rIx K) (tVar 1) (tC (.int 0))) tNil))) tNil))))
def fs__law_cross (K : PySem.W.Frag) : FS := fsD2 fun x y P _ => ∃ a b c d, x = prD a b ∧ y = prD c d ∧ Sz 900 a ∧ Sz 900 b ∧ Sz 900 c ∧ Sz 900 d ∧ P (fr (a * d - b * c))
theorem body__law_cross {K : PySem.W.Frag} {mg : Str → Option Value} (T : Txt K mg) (E : XK) : ∀ (as : List AV) (P : D → Prop) (PX : XD → Prop), fs__law_cross K as P PX → SatS (cn K E PX) (t__law_cross K E) (gin as 0) (den P) := bD2 fun x y P PX q => by
  obtain ⟨a, b, c, d, rfl, rfl, sa, sb, sc, sd, h⟩ := q
  unfold t__law_cross prD
  walk_at "dl"
  exact h
section
variable {P : Program} {w : World} {K : PySem.W.Frag} {mg : Str → Option Value} {base : Heap}
theorem ok__law_cross {fd : FuncData} (F : FnP K "_law_cross" s__law_cross fd) (T : Txt K mg) (c__law_mul : Cal P w K mg base 2 "_law_mul" ["one", "other"] (fs__law_mul K)) (c__law_sub : Cal P w K mg base 2 "_law_sub" ["one", "other"] (fs__law_sub K)) : FnOk P w K mg base (L2.CX P w) 3 (He.ga K "_law_cross") fd ["one", "other"] (spF K (fs__law_cross K)) := by
  refine fn_ok (k := 2) F sc__law_cross len_D2 (by decide) (t__law_cross K) (fun cdv A outer s H E hr => ?_) (body__law_cross T)
  exact (pss_one (ps_ret (pe_cal c__law_sub hr (by decide) rfl (pa_cons (pe_cal c__law_mul hr (by decide) rfl (pa_cons (pe_ix ix_seq (pv 0) pe_int (fun _ _ => rfl)) (pa_cons (pe_ix ix_seq (pv 1) pe_int (fun _ _ => rfl)) pa_nil))) (pa_cons (pe_cal c__law_mul hr (by decide) rfl (pa_cons (pe_ix ix_seq (pv 0) pe_int (fun _ _ => rfl)) (pa_cons (pe_ix ix_seq (pv 1) pe_int (fun _ _ => rfl)) pa_nil))) pa_nil)))))
end
def t__law_dot (K : PySem.W.Frag) (E : XK) : TS :=
  (tRet (tCall (spF K (fs__law_add K)) [] E0 (tCons (tCall (spF K (fs__law_mul K)) [] E0 (tCons (tOp (rIx K) (tVar 0) (tC (.int 0))) (tCons (tOp (rIx K) (tVar 1) (tC (.int 0))) tNil))) (tCons (tCall (spF K (fs__law_mul K)) [] E0 (tCons (tOp (rIx K) (tVar 0) (tC (.int 1))) (tCons (tOp (rIx K) (tVar 1) (tC (.int 1))) tNil))) tNil))))
def fs__law_dot (K : PySem.W.Frag) : FS := fsD2 fun x y P _ => ∃ a b c d, x = prD a b ∧ y = prD c d ∧ Sz 900 a ∧ Sz 900 b ∧ Sz 900 c ∧ Sz 900 d ∧ P (fr (a * c + b * d))
theorem body__law_dot {K : PySem.W.Frag} {mg : Str → Option Value} (T : Txt K mg) (E : XK) : ∀ (as : List AV) (P : D → Prop) (PX : XD → Prop), fs__law_dot K as P PX → SatS (cn K E PX) (t__law_dot K E) (gin as 0) (den P) := bD2 fun x y P PX q => by
  obtain ⟨a, b, c, d, rfl, rfl, sa, sb, sc, sd, h⟩ := q
  unfold t__law_dot prD
  walk_at "dl"
  exact h
section
variable {P : Program} {w : World} {K : PySem.W.Frag} {mg : Str → Option Value} {base : Heap}
theorem ok__law_dot {fd : FuncData} (F : FnP K "_law_dot" s__law_dot fd) (T : Txt K mg) (c__law_add : Cal P w K mg base 2 "_law_add" ["one", "other"] (fs__law_add K)) (c__law_mul : Cal P w K mg base 2 "_law_mul" ["one", "other"] (fs__law_mul K)) : FnOk P w K mg base (L2.CX P w) 3 (He.ga K "_law_dot") fd ["one", "other"] (spF K (fs__law_dot K)) := by
  refine fn_ok (k := 2) F sc__law_dot len_D2 (by decide) (t__law_dot K) (fun cdv A outer s H E hr => ?_) (body__law_dot T)
  exact (pss_one (ps_ret (pe_cal c__law_add hr (by decide) rfl (pa_cons (pe_cal c__law_mul hr (by decide) rfl (pa_cons (pe_ix ix_seq (pv 0) pe_int (fun _ _ => rfl)) (pa_cons (pe_ix ix_seq (pv 1) pe_int (fun _ _ => rfl)) pa_nil))) (pa_cons (pe_cal c__law_mul hr (by decide) rfl (pa_cons (pe_ix ix_seq (pv 0) pe_int (fun _ _ => rfl)) (pa_cons (pe_ix ix_seq (pv 1) pe_int (fun _ _ => rfl)) pa_nil))) pa_nil)))))
end
def t__law_turn (K : PySem.W.Frag) (E : XK) : TS :=
  (tSeq (tAsg (tCall (spF K (fs__law_sub K)) [] E0 (tCons (tCall (spF K (fs__law_mul K)) [] E0 (tCons (tOp (rIx K) (tVar 0) (tC (.int 0))) (tCons (tOp (rIx K) (tVar 1) (tC (.int 0))) tNil))) (tCons (tCall (spF K (fs__law_mul K)) [] E0 (tCons (tOp (rIx K) (tVar 0) (tC (.int 1))) (tCons (tOp (rIx K) (tVar 1) (tC (.int 1))) tNil))) tNil))) (gName 2))
  (tRet (tTup (tCons (tVar 2) (tCons (tCall (spF K (fs__law_add K)) [] E0 (tCons (tCall (spF K (fs__law_mul K)) [] E0 (tCons (tOp (rIx K) (tVar 0) (tC (.int 0))) (tCons (tOp (rIx K) (tVar 1) (tC (.int 1))) tNil))) (tCons (tCall (spF K (fs__law_mul K)) [] E0 (tCons (tOp (rIx K) (tVar 0) (tC (.int 1))) (tCons (tOp (rIx K) (tVar 1) (tC (.int 0))) tNil))) tNil))) tNil)))))
def fs__law_turn (K : PySem.W.Frag) : FS := fsD2 fun x y P _ => ∃ a b c d, x = prD a b ∧ y = prD c d ∧ Sz 900 a ∧ Sz 900 b ∧ Sz 900 c ∧ Sz 900 d ∧ P (prD (a * c - b * d) (a * d + b * c))
theorem body__law_turn {K : PySem.W.Frag} {mg : Str → Option Value} (T : Txt K mg) (E : XK) : ∀ (as : List AV) (P : D → Prop) (PX : XD → Prop), fs__law_turn K as P PX → SatS (cn K E PX) (t__law_turn K E) (gin as 1) (den P) := bD2 fun x y P PX q => by
  obtain ⟨a, b, c, d, rfl, rfl, sa, sb, sc, sd, h⟩ := q
  unfold t__law_turn prD
  walk_at "dl"
  exact h
section
variable {P : Program} {w : World} {K : PySem.W.Frag} {mg : Str → Option Value} {base : Heap}
theorem ok__law_turn {fd : FuncData} (F : FnP K "_law_turn" s__law_turn fd) (T : Txt K mg) (c__law_add : Cal P w K mg base 2 "_law_add" ["one", "other"] (fs__law_add K)) (c__law_mul : Cal P w K mg base 2 "_law_mul" ["one", "other"] (fs__law_mul K)) (c__law_sub : Cal P w K mg base 2 "_law_sub" ["one", "other"] (fs__law_sub K)) : FnOk P w K mg base (L2.CX P w) 3 (He.ga K "_law_turn") fd ["one", "other"] (spF K (fs__law_turn K)) := by
  refine fn_ok (k := 2) F sc__law_turn len_D2 (by decide) (t__law_turn K) (fun cdv A outer s H E hr => ?_) (body__law_turn T)
  exact (pss_cons (ps_set (i := 2) sc__law_turn.nd rfl (Or.inl rfl) (pe_cal c__law_sub hr (by decide) rfl (pa_cons (pe_cal c__law_mul hr (by decide) rfl (pa_cons (pe_ix ix_seq (pv 0) pe_int (fun _ _ => rfl)) (pa_cons (pe_ix ix_seq (pv 1) pe_int (fun _ _ => rfl)) pa_nil))) (pa_cons (pe_cal c__law_mul hr (by decide) rfl (pa_cons (pe_ix ix_seq (pv 0) pe_int (fun _ _ => rfl)) (pa_cons (pe_ix ix_seq (pv 1) pe_int (fun _ _ => rfl)) pa_nil))) pa_nil))))
  (pss_one (ps_ret (pe_tup (pa_cons (pv 2) (pa_cons (pe_cal c__law_add hr (by decide) rfl (pa_cons (pe_cal c__law_mul hr (by decide) rfl (pa_cons (pe_ix ix_seq (pv 0) pe_int (fun _ _ => rfl)) (pa_cons (pe_ix ix_seq (pv 1) pe_int (fun _ _ => rfl)) pa_nil))) (pa_cons (pe_cal c__law_mul hr (by decide) rfl (pa_cons (pe_ix ix_seq (pv 0) pe_int (fun _ _ => rfl)) (pa_cons (pe_ix ix_seq (pv 1) pe_int (fun _ _ => rfl)) pa_nil))) pa_nil))) pa_nil))))))
end
def t__law_back (K : PySem.W.Frag) (E : XK) : TS :=
  (tRet (tCall (spF K (fs__law_times K)) [] E0 (tCons (tVar 0) (tCons (tTup (tCons (tUn uNeg (tC (.int 1))) (tCons (tC (.int 1)) tNil))) tNil))))
def fs__law_back (K : PySem.W.Frag) : FS := fsD1 fun x P _ => ∃ a b, x = prD a b ∧ Sz 4000 a ∧ Sz 4000 b ∧ P (prD (-a) (-b))
theorem body__law_back {K : PySem.W.Frag} {mg : Str → Option Value} (T : Txt K mg) (E : XK) : ∀ (as : List AV) (P : D → Prop) (PX : XD → Prop), fs__law_back K as P PX → SatS (cn K E PX) (t__law_back K E) (gin as 0) (den P) := bD1 fun x P PX q => by
  obtain ⟨a, b, rfl, sa, sb, h⟩ := q
  unfold t__law_back
  walk_at "dl"
  refine ⟨_, _, _, rfl, rfl, sa, sb, (Sz.one.neg).mono (by decide), ?_⟩
  have e : ∀ x : Rat, x * -1 = -x := fun x => by grind
  rw [e, e]
  exact h
section
variable {P : Program} {w : World} {K : PySem.W.Frag} {mg : Str → Option Value} {base : Heap}
theorem ok__law_back {fd : FuncData} (F : FnP K "_law_back" s__law_back fd) (T : Txt K mg) (c__law_times : Cal P w K mg base 3 "_law_times" ["step", "factor"] (fs__law_times K)) : FnOk P w K mg base (L2.CX P w) 4 (He.ga K "_law_back") fd ["step"] (spF K (fs__law_back K)) := by
  refine fn_ok (k := 3) F sc__law_back len_D1 (by decide) (t__law_back K) (fun cdv A outer s H E hr => ?_) (body__law_back T)
  exact (pss_one (ps_ret (pe_cal c__law_times hr (by decide) rfl (pa_cons (pv 0) (pa_cons (pe_tup (pa_cons (pe_un un_neg pe_int) (pa_cons pe_int pa_nil))) pa_nil)))))
end
end X85
end
section
namespace X85
open PySem L2 DL
local macro_rules | `(tactic| walk_at "bi") => `(tactic| first
  | assumption
  | exact Sz.nb (by assumption) (by decide) | exact Sz.db (by assumption) (by decide)
  | (unfold Bi; decide))
local macro_rules | `(tactic| walk_at "sz0") => `(tactic| first
  | assumption
  | exact Sz.one | exact Sz.zero
  | ((apply Sz.neg); (· walk_at "sz0"))
  | ((apply Sz.mul); (· walk_at "sz0"); (· walk_at "sz0"))
  | ((apply Sz.add); (· walk_at "sz0"); (· walk_at "sz0"))
  | ((apply Sz.sub); (· walk_at "sz0"); (· walk_at "sz0"))
  | ((apply Sz.div); (· walk_at "sz0"); (· walk_at "sz0"); (· assumption)))
local macro_rules | `(tactic| walk_at "sz") => `(tactic| first | assumption | ((apply Sz.mono); (· walk_at "sz0"); (· decide)))
local macro_rules | `(tactic| walk_at "d1") => `(tactic| first
  | refine sat_retHot rfl rfl ?_
  | with_reducible refine sat_seq ?_ | with_reducible refine sat_drop ?_ | with_reducible refine sat_if ?_ | with_reducible refine sat_ret ?_ | with_reducible refine sat_retN ?_ | with_reducible refine sat_next ?_ | with_reducible refine sat_par ?_
  | with_reducible refine sat_asgHot (el_lst (ea_nil ⟨_, rfl, Nat.le_of_ble_eq_true rfl, ?_⟩))
  | refine sat_setSt _ rfl (by decide) ?_ | refine sat_append rfl rfl (by simp) ?_
  | with_reducible refine sat_asg ?_ | with_reducible refine sat_asgG ?_ | with_reducible refine eg_tup4 ?_ | with_reducible refine eg_tup2 ?_ | with_reducible refine eg_name ?_
  | with_reducible refine evt_of ?_ | with_reducible refine evt_B ?_ | with_reducible refine evt_and ?_ | with_reducible refine evt_or ?_ | with_reducible refine evt_not ?_ | with_reducible refine evt_yes ?_
  | ((with_reducible apply ev_var); · exact rfl)
  | with_reducible refine ev_int ?_ | with_reducible refine ev_str ?_ | with_reducible refine ev_bl ?_ | with_reducible refine ev_non ?_
  | refine ev_stI _ rfl (by decide) ?_ | refine ev_stL rfl ?_
  | refine ev_ixHot rfl rfl ?_ | refine ev_lenHot rfl rfl ?_
  | with_reducible refine ev_op ?_ | with_reducible refine ev_neg ?_ | with_reducible refine ev_and ?_ | with_reducible refine ev_or ?_ | with_reducible refine ev_not ?_ | with_reducible refine ev_if ?_ | with_reducible refine ev_chain ?_
  | with_reducible refine ev_tup ?_ | with_reducible refine ev_call ?_ | with_reducible refine ev_callS ?_ | with_reducible refine ev_callKS ?_
  | refine ev_isiT (ns := ["list", "tuple"]) (by decide) ?_
  | with_reducible refine ev_cb ?_
  | with_reducible refine ea_nil ?_ | refine ea_val (v := .ty _) ?_ | ((with_reducible apply ea_st); · exact rfl) | with_reducible refine ea_cons ?_
  | refine ev_int ?_
  | refine ix_fr0 ?_ | refine ix_fr1 ?_ | refine k2_ix (.inl rfl) rfl ?_ | refine k2_ix (.inr rfl) rfl ?_
  | refine k2_mul (bi_mulOk (n := 9000) (m := 9000) (by walk_at "bi") (by walk_at "bi") (by decide)) ?_
  | refine k2_add ?_
  | refine k2_eqI ?_ | refine k2_neI ?_ | refine k2_eqF ?_ | refine k2_eqF2 ?_ | refine k2_neB ?_ | refine k2_is ?_ | refine k2_isnot ?_ | refine k2_isB ?_
  | refine k2_IB ?_ | refine k2_II ?_
  | refine kc_abs ?_ | refine kc_intI ?_ | refine kc_isi rfl ?_ | refine kc_len rfl ?_ | refine kc_all ?_
  | refine tup_one ?_ | refine tup_zero ?_ | refine tup_m1 ?_ | refine tup_neg ?_ | refine tup_any rfl (Nat.le_of_ble_eq_true rfl) ?_
  | refine tt_split ?_ | refine ff_split ?_
  | refine bool_any ?_ | refine int_any ?_ | refine ⟨_, _, rfl, ?_⟩
  | ((refine cD1 ?_); (try dsimp only)) | ((refine cD2 ?_); (try dsimp only)) | ((refine cD3 ?_); (try dsimp only)) | ((refine cD4 ?_); (try dsimp only)) | ((refine cS0 ?_); (try dsimp only)) | ((refine cS1 ?_); (try dsimp only)) | ((refine cS2 ?_); (try dsimp only)) | ((refine cS3 ?_); (try dsimp only))
  | refine sz_and (by walk_at "sz") ?_
  | refine take_and (by first | decide | omega) (by first | decide | omega) ?_
  | refine ne_and (by assumption) ?_
  | refine ev_c (rp_ONE (by assumption)) ?_ | refine ev_c (rp_ZERO (by assumption)) ?_
  | refine ⟨_, _, rfl, rfl, ?_⟩ | refine ⟨_, _, _, rfl, rfl, rfl, ?_⟩ | refine ⟨_, _, _, _, rfl, rfl, rfl, rfl, ?_⟩)
local macro_rules | `(tactic| walk_at "dl") => `(tactic| repeat (walk_at "d1"))

def rc (s : Rat) : Rat := (1 - s * s) / (1 + s * s)
def rn (s : Rat) : Rat := (2 * s) / (1 + s * s)
theorem sq_nn (a : Rat) : 0 ≤ a * a := by
  rcases Rat.nonneg_total a with h | h
  · exact Rat.mul_nonneg h h
  · have := Rat.mul_nonneg h h
    grind
theorem sq1_ne (a : Rat) : 1 + a * a ≠ 0 := by have := sq_nn a; grind
theorem nd_eq (s : Rat) : ((s.num : Int) : Rat) = s * ((s.den : Int) : Rat) ∧ ((s.den : Int) : Rat) ≠ 0 := by
  have d0 : ((s.den : Int) : Rat) ≠ 0 := by
    have := Rat.intCast_pos.mpr (den_pos' s)
    exact (Rat.ne_of_lt this).symm
  refine ⟨?_, d0⟩
  have e := divInt_nd s
  rw [Rat.divInt_eq_div] at e
  have := Rat.div_mul_cancel (a := ((s.num : Int) : Rat)) d0
  rw [e] at this
  exact this.symm
theorem ray_c (s : Rat) : Rat.divInt ((s.den : Int) * s.den - s.num * s.num) ((s.den : Int) * s.den + s.num * s.num) = rc s := by
  obtain ⟨e, d0⟩ := nd_eq s
  have h1 := sq1_ne s
  rw [Rat.divInt_eq_div, Rat.intCast_sub, Rat.intCast_add, Rat.intCast_mul, Rat.intCast_mul, e]
  generalize ((s.den : Int) : Rat) = d at *
  unfold rc
  have h2 : d * d + s * d * (s * d) ≠ 0 := by
    have : d * d + s * d * (s * d) = (d * d) * (1 + s * s) := by grind
    rw [this]
    intro z
    rcases Rat.mul_eq_zero.mp z with z | z
    · rcases Rat.mul_eq_zero.mp z with z | z <;> exact d0 z
    · exact h1 z
  grind
theorem ray_n (s : Rat) : Rat.divInt (2 * s.num * (s.den : Int)) ((s.den : Int) * s.den + s.num * s.num) = rn s := by
  obtain ⟨e, d0⟩ := nd_eq s
  have h1 := sq1_ne s
  rw [Rat.divInt_eq_div, Rat.intCast_add, Rat.intCast_mul, Rat.intCast_mul, Rat.intCast_mul, Rat.intCast_mul, e]
  generalize ((s.den : Int) : Rat) = d at *
  have e2 : ((2 : Int) : Rat) = 2 := rfl
  rw [e2]
  unfold rn
  have h2 : d * d + s * d * (s * d) ≠ 0 := by
    have : d * d + s * d * (s * d) = (d * d) * (1 + s * s) := by grind
    rw [this]
    intro z
    rcases Rat.mul_eq_zero.mp z with z | z
    · rcases Rat.mul_eq_zero.mp z with z | z <;> exact d0 z
    · exact h1 z
  grind
theorem ray_den (s : Rat) : (s.den : Int) * s.den + s.num * s.num ≠ 0 := by
  have h1 : 0 < (s.den : Int) * s.den := Int.mul_pos (den_pos' s) (den_pos' s)
  have h2 : 0 ≤ s.num * s.num := by
    rcases Int.le_total 0 s.num with h | h
    · exact Int.mul_nonneg h h
    · exact Int.mul_nonneg_of_nonpos_of_nonpos h h
  omega
theorem sz_rc {n : Nat} {s : Rat} (h : Sz n s) : Sz (n + n + 1) (rc s) := by
  rw [← ray_c]
  exact sz_divInt ((h.2.mul h.2).sub1 (h.1.mul h.1)) ((h.2.mul h.2).add1 (h.1.mul h.1)) (ray_den s)
theorem sz_rn {n : Nat} {s : Rat} (h : Sz n s) : Sz (n + n + 2) (rn s) := by
  rw [← ray_n]
  refine sz_divInt ?_ (((h.2.mul h.2).add1 (h.1.mul h.1)).mono (by omega)) (ray_den s)
  have b2 : Bi 2 2 := by unfold Bi; decide
  exact ((b2.mul h.1).mul h.2).mono (by omega)
def t__law_ray (K : PySem.W.Frag) (E : XK) : TS :=
  (tSeq (tAsg (tOp rMulA (tOp (rIx K) (tVar 0) (tC (.int 0))) (tOp (rIx K) (tVar 0) (tC (.int 0)))) (gName 1))
  (tSeq (tAsg (tOp rMulA (tOp (rIx K) (tVar 0) (tC (.int 1))) (tOp (rIx K) (tVar 0) (tC (.int 1)))) (gName 2))
  (tRet (tTup (tCons (tCall (spF K (fs__law_low K)) [] E0 (tCons (tOp rSubI (tVar 2) (tVar 1)) (tCons (tOp (rAddA K) (tVar 2) (tVar 1)) tNil))) (tCons (tCall (spF K (fs__law_low K)) [] E0 (tCons (tOp rMulA (tOp rMulA (tC (.int 2)) (tOp (rIx K) (tVar 0) (tC (.int 0)))) (tOp (rIx K) (tVar 0) (tC (.int 1)))) (tCons (tOp (rAddA K) (tVar 2) (tVar 1)) tNil))) tNil))))))
def fs__law_ray (K : PySem.W.Frag) : FS := fsD1 fun x P _ => ∃ s, x = fr s ∧ Sz 200 s ∧ P (prD (rc s) (rn s))
theorem body__law_ray {K : PySem.W.Frag} {mg : Str → Option Value} (T : Txt K mg) (E : XK) : ∀ (as : List AV) (P : D → Prop) (PX : XD → Prop), fs__law_ray K as P PX → SatS (cn K E PX) (t__law_ray K E) (gin as 2) (den P) := bD1 fun x P PX q => by
  obtain ⟨s, rfl, hs, h⟩ := q
  have bb : Bi 9000 ((s.den : Int) * s.den + s.num * s.num) := ((hs.2.mul hs.2).add1 (hs.1.mul hs.1)).mono (by decide)
  have b2 : Bi 9000 (2 * s.num) := (Bi.mul (n := 2) (by unfold Bi; decide) hs.1).mono (by decide)
  unfold t__law_ray
  walk_at "dl"
  refine ⟨ray_den s, bb, ?_⟩
  rw [ray_c]
  walk_at "dl"
  refine ⟨ray_den s, bb, ?_⟩
  rw [ray_n]
  walk_at "dl"
  exact h
section
variable {P : Program} {w : World} {K : PySem.W.Frag} {mg : Str → Option Value} {base : Heap}
theorem ok__law_ray {fd : FuncData} (F : FnP K "_law_ray" s__law_ray fd) (T : Txt K mg) (c__law_low : Cal P w K mg base 1 "_law_low" ["top", "bottom"] (fs__law_low K)) : FnOk P w K mg base (L2.CX P w) 2 (He.ga K "_law_ray") fd ["slope"] (spF K (fs__law_ray K)) := by
  refine fn_ok (k := 1) F sc__law_ray len_D1 (by decide) (t__law_ray K) (fun cdv A outer s H E hr => ?_) (body__law_ray T)
  exact (pss_cons (ps_set (i := 1) sc__law_ray.nd rfl (Or.inl rfl) (pe_op op_mulA (pe_ix ix_seq (pv 0) pe_int (fun _ _ => rfl)) (pe_ix ix_seq (pv 0) pe_int (fun _ _ => rfl))))
  (pss_cons (ps_set (i := 2) sc__law_ray.nd rfl (Or.inl rfl) (pe_op op_mulA (pe_ix ix_seq (pv 0) pe_int (fun _ _ => rfl)) (pe_ix ix_seq (pv 0) pe_int (fun _ _ => rfl))))
  (pss_one (ps_ret (pe_tup (pa_cons (pe_cal c__law_low hr (by decide) rfl (pa_cons (pe_op op_sub (pv 2) (pv 1)) (pa_cons (pe_op op_addA (pv 2) (pv 1)) pa_nil))) (pa_cons (pe_cal c__law_low hr (by decide) rfl (pa_cons (pe_op op_mulA (pe_op op_mulA pe_int (pe_ix ix_seq (pv 0) pe_int (fun _ _ => rfl))) (pe_ix ix_seq (pv 0) pe_int (fun _ _ => rfl))) (pa_cons (pe_op op_addA (pv 2) (pv 1)) pa_nil))) pa_nil)))))))
end
def t__law_half (K : PySem.W.Frag) (E : XK) : TS :=
  (tRet (tCall (spF K (fs__law_div K)) [] E0 (tCons (tCall (spF K (fs__law_cross K)) [] E0 (tCons (tVar 0) (tCons (tVar 1) tNil))) (tCons (tCall (spF K (fs__law_add K)) [] E0 (tCons (tTup (tCons (tC (.int 1)) (tCons (tC (.int 1)) tNil))) (tCons (tCall (spF K (fs__law_dot K)) [] E0 (tCons (tVar 0) (tCons (tVar 1) tNil))) tNil))) tNil))))
def fs__law_half (K : PySem.W.Frag) : FS := fsD2 fun x y P _ => ∃ a b c d, x = prD a b ∧ y = prD c d ∧ Sz 900 a ∧ Sz 900 b ∧ Sz 900 c ∧ Sz 900 d ∧ 1 + (a * c + b * d) ≠ 0 ∧ P (fr ((a * d - b * c) / (1 + (a * c + b * d))))
theorem body__law_half {K : PySem.W.Frag} {mg : Str → Option Value} (T : Txt K mg) (E : XK) : ∀ (as : List AV) (P : D → Prop) (PX : XD → Prop), fs__law_half K as P PX → SatS (cn K E PX) (t__law_half K E) (gin as 0) (den P) := bD2 fun x y P PX q => by
  obtain ⟨a, b, c, d, rfl, rfl, sa, sb, sc, sd, n0, h⟩ := q
  unfold t__law_half
  walk_at "dl"
  refine ⟨_, _, _, _, rfl, rfl, sa, sb, sc, sd, ?_⟩
  walk_at "dl"
  refine ⟨_, _, _, _, rfl, rfl, sa, sb, sc, sd, ?_⟩
  walk_at "dl"
  exact h
section
variable {P : Program} {w : World} {K : PySem.W.Frag} {mg : Str → Option Value} {base : Heap}
theorem ok__law_half {fd : FuncData} (F : FnP K "_law_half" s__law_half fd) (T : Txt K mg) (c__law_add : Cal P w K mg base 2 "_law_add" ["one", "other"] (fs__law_add K)) (c__law_cross : Cal P w K mg base 3 "_law_cross" ["one", "other"] (fs__law_cross K)) (c__law_div : Cal P w K mg base 2 "_law_div" ["one", "other"] (fs__law_div K)) (c__law_dot : Cal P w K mg base 3 "_law_dot" ["one", "other"] (fs__law_dot K)) : FnOk P w K mg base (L2.CX P w) 4 (He.ga K "_law_half") fd ["one", "other"] (spF K (fs__law_half K)) := by
  refine fn_ok (k := 3) F sc__law_half len_D2 (by decide) (t__law_half K) (fun cdv A outer s H E hr => ?_) (body__law_half T)
  exact (pss_one (ps_ret (pe_cal c__law_div hr (by decide) rfl (pa_cons (pe_cal c__law_cross hr (by decide) rfl (pa_cons (pv 0) (pa_cons (pv 1) pa_nil))) (pa_cons (pe_cal c__law_add hr (by decide) rfl (pa_cons (pe_tup (pa_cons pe_int (pa_cons pe_int pa_nil))) (pa_cons (pe_cal c__law_dot hr (by decide) rfl (pa_cons (pv 0) (pa_cons (pv 1) pa_nil))) pa_nil))) pa_nil)))))
end
/-- a slope drawn: above 0, of few bits -/
def t__law_slope (K : PySem.W.Frag) (E : XK) : TS :=
  (tSeq (tAsg (tOp (rAddA K) (tC (.int 1)) (tCall (spF K (fs__law_take K)) [] E0 (tCons (tVar 0) (tCons (tVar 1) tNil)))) (gName 2))
  (tRet (tCall (spF K (fs__law_low K)) [] E0 (tCons (tVar 2) (tCons (tOp (rAddA K) (tC (.int 1)) (tCall (spF K (fs__law_take K)) [] E0 (tCons (tVar 0) (tCons (tVar 1) tNil)))) tNil)))))
def fs__law_slope (K : PySem.W.Frag) : FS := fsS1 fun x P _ => ∃ m : Int, x = .int m ∧ 0 < m ∧ m ≤ 1000 ∧ ∀ q : Rat, 0 < q → Sz 10 q → P (fr q)
theorem slope_ok {a b : Int} (ha : 0 ≤ a) (hb : 0 ≤ b) (ha2 : a < 1000) (hb2 : b < 1000) : 0 < Rat.divInt (1 + a) (1 + b) ∧ Sz 10 (Rat.divInt (1 + a) (1 + b)) := by
  refine ⟨?_, sz_divInt (by unfold Bi; omega) (by unfold Bi; omega) (by omega)⟩
  rw [← num_pos, Rat.num_divInt, Int.sign_eq_one_of_pos (by omega), Int.one_mul]
  have g : ((1 + b).gcd (1 + a) : Int) ∣ (1 + a) := Int.gcd_dvd_right ..
  have gp : 0 < ((1 + b).gcd (1 + a) : Int) := by
    have := Int.gcd_pos_iff.mpr (.inl (by omega : (1 + b) ≠ 0) : (1 + b) ≠ 0 ∨ (1 + a) ≠ 0)
    omega
  exact Int.ediv_pos_of_pos_of_dvd (by omega) (by omega) g
theorem body__law_slope {K : PySem.W.Frag} {mg : Str → Option Value} (T : Txt K mg) (E : XK) : ∀ (as : List AV) (P : D → Prop) (PX : XD → Prop), fs__law_slope K as P PX → SatS (cn K E PX) (t__law_slope K E) (gin as 1) (den P) := bS1 fun k x P PX q => by
  obtain ⟨m, rfl, m0, m1, q⟩ := q
  unfold t__law_slope
  walk_at "dl"
  intro a a0 a1
  walk_at "dl"
  intro b b0 b1
  walk_at "dl"
  obtain ⟨h1, h2⟩ := slope_ok a0 b0 (by omega) (by omega)
  refine ⟨by omega, by unfold Bi; omega, ?_⟩
  exact q _ h1 h2
section
variable {P : Program} {w : World} {K : PySem.W.Frag} {mg : Str → Option Value} {base : Heap}
theorem ok__law_slope {fd : FuncData} (F : FnP K "_law_slope" s__law_slope fd) (T : Txt K mg) (c__law_low : Cal P w K mg base 1 "_law_low" ["top", "bottom"] (fs__law_low K)) (c__law_take : Cal P w K mg base 2 "_law_take" ["stream", "many"] (fs__law_take K)) : FnOk P w K mg base (L2.CX P w) 3 (He.ga K "_law_slope") fd ["stream", "most"] (spF K (fs__law_slope K)) := by
  refine fn_ok (k := 2) F sc__law_slope len_S1 (by decide) (t__law_slope K) (fun cdv A outer s H E hr => ?_) (body__law_slope T)
  exact (pss_cons (ps_set (i := 2) sc__law_slope.nd rfl (Or.inl rfl) (pe_op op_addA pe_int (pe_cal c__law_take hr (by decide) rfl (pa_cons (pv 0) (pa_cons (pv 1) pa_nil)))))
  (pss_one (ps_ret (pe_cal c__law_low hr (by decide) rfl (pa_cons (pv 2) (pa_cons (pe_op op_addA pe_int (pe_cal c__law_take hr (by decide) rfl (pa_cons (pv 0) (pa_cons (pv 1) pa_nil)))) pa_nil))))))
end
def t__law_fraction_pair (K : PySem.W.Frag) (E : XK) : TS :=
  (tSeq (tAsg (tCall (spF K (fs__law_mul K)) [] E0 (tCons (tVar 0) (tCons (tVar 1) tNil))) (gName 2))
  (tSeq (tAsg (tCall (spF K (fs__law_div K)) [] E0 (tCons (tCall (spF K (fs__law_sub K)) [] E0 (tCons (tTup (tCons (tC (.int 1)) (tCons (tC (.int 1)) tNil))) (tCons (tVar 2) tNil))) (tCons (tCall (spF K (fs__law_add K)) [] E0 (tCons (tTup (tCons (tC (.int 1)) (tCons (tC (.int 1)) tNil))) (tCons (tVar 2) tNil))) tNil))) (gName 3))
  (tRet (tTup (tCons (tVar 3) (tCons (tCall (spF K (fs__law_div K)) [] E0 (tCons (tCall (spF K (fs__law_sub K)) [] E0 (tCons (tVar 1) (tCons (tVar 0) tNil))) (tCons (tCall (spF K (fs__law_add K)) [] E0 (tCons (tVar 1) (tCons (tVar 0) tNil))) tNil))) tNil))))))
def fs__law_fraction_pair (K : PySem.W.Frag) : FS := fsD2 fun x y P _ => ∃ u v, x = fr u ∧ y = fr v ∧ Sz 200 u ∧ Sz 200 v ∧ 0 < u ∧ 0 < v ∧ P (.tuple [fr (f1 u v), fr (f2 u v)])
theorem body__law_fraction_pair {K : PySem.W.Frag} {mg : Str → Option Value} (T : Txt K mg) (E : XK) : ∀ (as : List AV) (P : D → Prop) (PX : XD → Prop), fs__law_fraction_pair K as P PX → SatS (cn K E PX) (t__law_fraction_pair K E) (gin as 2) (den P) := bD2 fun x y P PX q => by
  obtain ⟨u, v, rfl, rfl, su, sv, hu, hv, h⟩ := q
  have n1 := pos_add1 hu hv
  have n2 := pos_add2 hu hv
  unfold t__law_fraction_pair
  walk_at "dl"
  exact h
section
variable {P : Program} {w : World} {K : PySem.W.Frag} {mg : Str → Option Value} {base : Heap}
theorem ok__law_fraction_pair {fd : FuncData} (F : FnP K "_law_fraction_pair" s__law_fraction_pair fd) (T : Txt K mg) (c__law_add : Cal P w K mg base 2 "_law_add" ["one", "other"] (fs__law_add K)) (c__law_div : Cal P w K mg base 2 "_law_div" ["one", "other"] (fs__law_div K)) (c__law_mul : Cal P w K mg base 2 "_law_mul" ["one", "other"] (fs__law_mul K)) (c__law_sub : Cal P w K mg base 2 "_law_sub" ["one", "other"] (fs__law_sub K)) : FnOk P w K mg base (L2.CX P w) 3 (He.ga K "_law_fraction_pair") fd ["first", "second"] (spF K (fs__law_fraction_pair K)) := by
  refine fn_ok (k := 2) F sc__law_fraction_pair len_D2 (by decide) (t__law_fraction_pair K) (fun cdv A outer s H E hr => ?_) (body__law_fraction_pair T)
  exact (pss_cons (ps_set (i := 2) sc__law_fraction_pair.nd rfl (Or.inl rfl) (pe_cal c__law_mul hr (by decide) rfl (pa_cons (pv 0) (pa_cons (pv 1) pa_nil))))
  (pss_cons (ps_set (i := 3) sc__law_fraction_pair.nd rfl (Or.inl rfl) (pe_cal c__law_div hr (by decide) rfl (pa_cons (pe_cal c__law_sub hr (by decide) rfl (pa_cons (pe_tup (pa_cons pe_int (pa_cons pe_int pa_nil))) (pa_cons (pv 2) pa_nil))) (pa_cons (pe_cal c__law_add hr (by decide) rfl (pa_cons (pe_tup (pa_cons pe_int (pa_cons pe_int pa_nil))) (pa_cons (pv 2) pa_nil))) pa_nil))))
  (pss_one (ps_ret (pe_tup (pa_cons (pv 3) (pa_cons (pe_cal c__law_div hr (by decide) rfl (pa_cons (pe_cal c__law_sub hr (by decide) rfl (pa_cons (pv 1) (pa_cons (pv 0) pa_nil))) (pa_cons (pe_cal c__law_add hr (by decide) rfl (pa_cons (pv 1) (pa_cons (pv 0) pa_nil))) pa_nil))) pa_nil)))))))
end
def t__law_pair (K : PySem.W.Frag) (E : XK) : TS :=
  (tSeq (tAsg (tC (.int 5)) (gName 1))
  (tSeq (tIfS (tTest (tOp (rEqD K) (tCall (spF K (fs__law_take K)) [] E0 (tCons (tVar 0) (tCons (tC (.int 9)) tNil))) (tC (.int 0)))) (tAsg (tC (.int 1000)) (gName 1)) tNext)
  (tRet (tTup (tCons (tCall (spF K (fs__law_slope K)) [] E0 (tCons (tVar 0) (tCons (tVar 1) tNil))) (tCons (tCall (spF K (fs__law_slope K)) [] E0 (tCons (tVar 0) (tCons (tVar 1) tNil))) tNil))))))
def fs__law_pair (K : PySem.W.Frag) : FS := fsS0 fun P _ => ∀ u v : Rat, 0 < u → 0 < v → Sz 10 u → Sz 10 v → P (prD u v)
theorem body__law_pair {K : PySem.W.Frag} {mg : Str → Option Value} (T : Txt K mg) (E : XK) : ∀ (as : List AV) (P : D → Prop) (PX : XD → Prop), fs__law_pair K as P PX → SatS (cn K E PX) (t__law_pair K E) (gin as 1) (den P) := bS0 fun k P PX q => by
  have fin : ∀ m : Int, 0 < m → m ≤ 1000 → SatS (cn K E PX) (tRet (tTup (tCons (tCall (spF K (fs__law_slope K)) [] E0 (tCons (tVar 0) (tCons (tVar 1) tNil))) (tCons (tCall (spF K (fs__law_slope K)) [] E0 (tCons (tVar 0) (tCons (tVar 1) tNil))) tNil)))) ⟨[.st k, .d (.int m)], []⟩ (den P) := by
    intro m m0 m1
    walk_at "dl"
    refine ⟨m0, m1, fun u u0 su => ?_⟩
    walk_at "dl"
    refine ⟨m0, m1, fun v v0 sv => ?_⟩
    walk_at "dl"
    exact q u v u0 v0 su sv
  unfold t__law_pair
  walk_at "dl"
  intro d _ _
  walk_at "dl"
  refine ⟨fun h => ?_, fun h => ?_⟩
  · refine sat_asg (ev_int ?_)
    exact fin 1000 (by decide) (by decide)
  · refine sat_next ?_
    exact fin 5 (by decide) (by decide)
section
variable {P : Program} {w : World} {K : PySem.W.Frag} {mg : Str → Option Value} {base : Heap}
theorem ok__law_pair {fd : FuncData} (F : FnP K "_law_pair" s__law_pair fd) (T : Txt K mg) (c__law_slope : Cal P w K mg base 3 "_law_slope" ["stream", "most"] (fs__law_slope K)) (c__law_take : Cal P w K mg base 2 "_law_take" ["stream", "many"] (fs__law_take K)) : FnOk P w K mg base (L2.CX P w) 4 (He.ga K "_law_pair") fd ["stream"] (spF K (fs__law_pair K)) := by
  refine fn_ok (k := 3) F sc__law_pair len_S0 (by decide) (t__law_pair K) (fun cdv A outer s H E hr => ?_) (body__law_pair T)
  exact (pss_cons (ps_set (i := 1) sc__law_pair.nd rfl (Or.inl rfl) pe_int)
  (pss_cons (ps_if (pt_cmpR (op_eqD hr.units) (pe_cal c__law_take hr (by decide) rfl (pa_cons (pv 0) (pa_cons pe_int pa_nil))) pe_int (nomark _)) (pss_one (ps_set (i := 1) sc__law_pair.nd rfl (Or.inl rfl) pe_int)) pss_nil)
  (pss_one (ps_ret (pe_tup (pa_cons (pe_cal c__law_slope hr (by decide) rfl (pa_cons (pv 0) (pa_cons (pv 1) pa_nil))) (pa_cons (pe_cal c__law_slope hr (by decide) rfl (pa_cons (pv 0) (pa_cons (pv 1) pa_nil))) pa_nil)))))))
end
end X85
end
section
namespace X85
open PySem L2 DL
local macro_rules | `(tactic| walk_at "bi") => `(tactic| first
  | assumption
  | exact Sz.nb (by assumption) (by decide) | exact Sz.db (by assumption) (by decide)
  | (unfold Bi; decide))
local macro_rules | `(tactic| walk_at "sz0") => `(tactic| first
  | assumption
  | exact Sz.one | exact Sz.zero
  | ((apply Sz.neg); (· walk_at "sz0"))
  | ((apply Sz.mul); (· walk_at "sz0"); (· walk_at "sz0"))
  | ((apply Sz.add); (· walk_at "sz0"); (· walk_at "sz0"))
  | ((apply Sz.sub); (· walk_at "sz0"); (· walk_at "sz0"))
  | ((apply Sz.div); (· walk_at "sz0"); (· walk_at "sz0"); (· assumption)))
local macro_rules | `(tactic| walk_at "sz") => `(tactic| first | assumption | ((apply Sz.mono); (· walk_at "sz0"); (· decide)))
local macro_rules | `(tactic| walk_at "d1") => `(tactic| first
  | refine sat_retHot rfl rfl ?_
  | with_reducible refine sat_seq ?_ | with_reducible refine sat_drop ?_ | with_reducible refine sat_if ?_ | with_reducible refine sat_ret ?_ | with_reducible refine sat_retN ?_ | with_reducible refine sat_next ?_ | with_reducible refine sat_par ?_
  | with_reducible refine sat_asgHot (el_lst (ea_nil ⟨_, rfl, Nat.le_of_ble_eq_true rfl, ?_⟩))
  | refine sat_setSt _ rfl (by decide) ?_ | refine sat_append rfl rfl (by simp) ?_
  | with_reducible refine sat_asg ?_ | with_reducible refine sat_asgG ?_ | with_reducible refine eg_tup4 ?_ | with_reducible refine eg_tup2 ?_ | with_reducible refine eg_name ?_
  | with_reducible refine evt_of ?_ | with_reducible refine evt_B ?_ | with_reducible refine evt_and ?_ | with_reducible refine evt_or ?_ | with_reducible refine evt_not ?_ | with_reducible refine evt_yes ?_
  | ((with_reducible apply ev_var); · exact rfl)
  | with_reducible refine ev_int ?_ | with_reducible refine ev_str ?_ | with_reducible refine ev_bl ?_ | with_reducible refine ev_non ?_
  | refine ev_stI _ rfl (by decide) ?_ | refine ev_stL rfl ?_
  | refine ev_ixHot rfl rfl ?_ | refine ev_lenHot rfl rfl ?_
  | with_reducible refine ev_op ?_ | with_reducible refine ev_neg ?_ | with_reducible refine ev_and ?_ | with_reducible refine ev_or ?_ | with_reducible refine ev_not ?_ | with_reducible refine ev_if ?_ | with_reducible refine ev_chain ?_
  | with_reducible refine ev_tup ?_ | with_reducible refine ev_call ?_ | with_reducible refine ev_callS ?_ | with_reducible refine ev_callKS ?_
  | refine ev_isiT (ns := ["list", "tuple"]) (by decide) ?_
  | with_reducible refine ev_cb ?_
  | with_reducible refine ea_nil ?_ | refine ea_val (v := .ty _) ?_ | ((with_reducible apply ea_st); · exact rfl) | with_reducible refine ea_cons ?_
  | refine ev_int ?_
  | refine ix_fr0 ?_ | refine ix_fr1 ?_ | refine k2_ix (.inl rfl) rfl ?_ | refine k2_ix (.inr rfl) rfl ?_
  | refine k2_mul (bi_mulOk (n := 9000) (m := 9000) (by walk_at "bi") (by walk_at "bi") (by decide)) ?_
  | refine k2_add ?_
  | refine k2_eqI ?_ | refine k2_neI ?_ | refine k2_eqF ?_ | refine k2_eqF2 ?_ | refine k2_neB ?_ | refine k2_is ?_ | refine k2_isnot ?_ | refine k2_isB ?_
  | refine k2_IB ?_ | refine k2_II ?_
  | refine kc_abs ?_ | refine kc_intI ?_ | refine kc_isi rfl ?_ | refine kc_len rfl ?_ | refine kc_all ?_
  | refine tup_one ?_ | refine tup_zero ?_ | refine tup_m1 ?_ | refine tup_neg ?_ | refine tup_any rfl (Nat.le_of_ble_eq_true rfl) ?_
  | refine tt_split ?_ | refine ff_split ?_
  | refine bool_any ?_ | refine int_any ?_ | refine fr_any ?_ | refine ⟨_, _, rfl, ?_⟩
  | ((refine cD1 ?_); (try dsimp only)) | ((refine cD2 ?_); (try dsimp only)) | ((refine cD3 ?_); (try dsimp only)) | ((refine cD4 ?_); (try dsimp only)) | ((refine cS0 ?_); (try dsimp only)) | ((refine cS1 ?_); (try dsimp only)) | ((refine cS2 ?_); (try dsimp only)) | ((refine cS3 ?_); (try dsimp only))
  | refine sz_and (by walk_at "sz") ?_
  | refine take_and (by first | decide | omega) (by first | decide | omega) ?_
  | refine ne_and (by assumption) ?_
  | refine ev_c (rp_ONE (by assumption)) ?_ | refine ev_c (rp_ZERO (by assumption)) ?_
  | refine ⟨_, _, rfl, rfl, ?_⟩ | refine ⟨_, _, _, rfl, rfl, rfl, ?_⟩ | refine ⟨_, _, _, _, rfl, rfl, rfl, rfl, ?_⟩)
local macro_rules | `(tactic| walk_at "dl") => `(tactic| repeat (walk_at "d1"))

/-- two turns of rays are one exactly if the cell closes -/
theorem closed_iff {a b c d : Rat} (ha : 0 < a) (hb : 0 < b) (hc : 0 < c) (hd : 0 < d) :
    (rc a * rc b - rn a * rn b = rc c * rc d - rn c * rn d ∧ rc a * rn b + rn a * rc b = rc c * rn d + rn c * rc d) ↔ closes a b c d := by
  have na := sq1_ne a
  have nb := sq1_ne b
  have nc := sq1_ne c
  have nd := sq1_ne d
  have nab : (1 + a * a) * (1 + b * b) ≠ 0 := fun z => by rcases Rat.mul_eq_zero.mp z with z | z; exact na z; exact nb z
  have ncd : (1 + c * c) * (1 + d * d) ≠ 0 := fun z => by rcases Rat.mul_eq_zero.mp z with z | z; exact nc z; exact nd z
  have e1 : ∀ a b : Rat, 1 + a * a ≠ 0 → 1 + b * b ≠ 0 → (1 + a * a) * (1 + b * b) ≠ 0 → rc a * rc b - rn a * rn b = ((1 - a * b) * (1 - a * b) - (a + b) * (a + b)) / ((1 + a * a) * (1 + b * b)) := by
    intro a b na nb nab
    unfold rc rn
    grind
  have e2 : ∀ a b : Rat, 1 + a * a ≠ 0 → 1 + b * b ≠ 0 → (1 + a * a) * (1 + b * b) ≠ 0 → rc a * rn b + rn a * rc b = (2 * (1 - a * b) * (a + b)) / ((1 + a * a) * (1 + b * b)) := by
    intro a b na nb nab
    unfold rc rn
    grind
  rw [e1 a b na nb nab, e1 c d nc nd ncd, e2 a b na nb nab, e2 c d nc nd ncd]
  have m1 : (1 + a * a) * (1 + b * b) = (1 - a * b) * (1 - a * b) + (a + b) * (a + b) := by grind
  have m2 : (1 + c * c) * (1 + d * d) = (1 - c * d) * (1 - c * d) + (c + d) * (c + d) := by grind
  have y1 : a + b ≠ 0 := by grind
  have y2 : c + d ≠ 0 := by grind
  unfold closes
  rw [m1, m2]
  rw [m1] at nab
  rw [m2] at ncd
  generalize 1 - a * b = X at *
  generalize a + b = Y at *
  generalize 1 - c * d = Z at *
  generalize c + d = W at *
  constructor
  · rintro ⟨h1, h2⟩
    have h3 : (X * X - Y * Y) * (Z * Z + W * W) = (Z * Z - W * W) * (X * X + Y * Y) := by grind
    have h4 : (2 * X * Y) * (Z * Z + W * W) = (2 * Z * W) * (X * X + Y * Y) := by grind
    have h5 : Y * Y * (Z * Z + W * W) = W * W * (X * X + Y * Y) := by grind
    have h6 : ((Z * Z + W * W) * (X * X + Y * Y)) * ((Y * W) * (X * W - Z * Y)) = 0 := by grind
    rcases Rat.mul_eq_zero.mp h6 with z | z
    · rcases Rat.mul_eq_zero.mp z with z | z
      · exact absurd z ncd
      · exact absurd z nab
    · rcases Rat.mul_eq_zero.mp z with z | z
      · rcases Rat.mul_eq_zero.mp z with z | z
        · exact absurd z y1
        · exact absurd z y2
      · grind
  · intro h
    have ez : Z = X * W / Y := by grind
    constructor
    · grind
    · grind
def t__law_closed (K : PySem.W.Frag) (E : XK) : TS :=
  (tSeq (tAsg (tCall (spF K (fs__law_turn K)) [] E0 (tCons (tCall (spF K (fs__law_ray K)) [] E0 (tCons (tOp (rIx K) (tOp (rIx K) (tVar 0) (tC (.int 0))) (tC (.int 0))) tNil)) (tCons (tCall (spF K (fs__law_ray K)) [] E0 (tCons (tOp (rIx K) (tOp (rIx K) (tVar 0) (tC (.int 1))) (tC (.int 1))) tNil)) tNil))) (gName 1))
  (tRet (tOp (rEqD K) (tVar 1) (tCall (spF K (fs__law_turn K)) [] E0 (tCons (tCall (spF K (fs__law_ray K)) [] E0 (tCons (tOp (rIx K) (tOp (rIx K) (tVar 0) (tC (.int 2))) (tC (.int 0))) tNil)) (tCons (tCall (spF K (fs__law_ray K)) [] E0 (tCons (tOp (rIx K) (tOp (rIx K) (tVar 0) (tC (.int 3))) (tC (.int 1))) tNil)) tNil))))))
def fs__law_closed (K : PySem.W.Frag) : FS := fsD1 fun x P _ => ∃ u0 v0 u1 v1 u2 v2 u3 v3, x = quadD u0 v0 u1 v1 u2 v2 u3 v3 ∧ Sz 200 u0 ∧ Sz 200 v1 ∧ Sz 200 u2 ∧ Sz 200 v3 ∧ 0 < u0 ∧ 0 < v1 ∧ 0 < u2 ∧ 0 < v3 ∧ P (.bool (decide (closes u0 v1 u2 v3)))
theorem body__law_closed {K : PySem.W.Frag} {mg : Str → Option Value} (T : Txt K mg) (E : XK) : ∀ (as : List AV) (P : D → Prop) (PX : XD → Prop), fs__law_closed K as P PX → SatS (cn K E PX) (t__law_closed K E) (gin as 1) (den P) := bD1 fun x P PX q => by
  obtain ⟨u0, v0, u1, v1, u2, v2, u3, v3, rfl, s0, s1, s2, s3, p0, p1, p2, p3, h⟩ := q
  have c0 := (sz_rc s0).mono (m := 900) (by decide)
  have c1 := (sz_rc s1).mono (m := 900) (by decide)
  have c2 := (sz_rc s2).mono (m := 900) (by decide)
  have c3 := (sz_rc s3).mono (m := 900) (by decide)
  have n0 := (sz_rn s0).mono (m := 900) (by decide)
  have n1 := (sz_rn s1).mono (m := 900) (by decide)
  have n2 := (sz_rn s2).mono (m := 900) (by decide)
  have n3 := (sz_rn s3).mono (m := 900) (by decide)
  unfold t__law_closed quadD prD
  walk_at "dl"
  refine ⟨_, _, _, _, rfl, rfl, c0, n0, c1, n1, ?_⟩
  walk_at "dl"
  refine ⟨_, _, _, _, rfl, rfl, c2, n2, c3, n3, ?_⟩
  unfold prD
  walk_at "dl"
  have e := closed_iff p0 p1 p2 p3
  rw [show decide (closes u0 v1 u2 v3) = _ from (decide_eq_decide.mpr e).symm] at h
  exact h
section
variable {P : Program} {w : World} {K : PySem.W.Frag} {mg : Str → Option Value} {base : Heap}
theorem ok__law_closed {fd : FuncData} (F : FnP K "_law_closed" s__law_closed fd) (T : Txt K mg) (c__law_ray : Cal P w K mg base 2 "_law_ray" ["slope"] (fs__law_ray K)) (c__law_turn : Cal P w K mg base 3 "_law_turn" ["one", "other"] (fs__law_turn K)) : FnOk P w K mg base (L2.CX P w) 4 (He.ga K "_law_closed") fd ["quad"] (spF K (fs__law_closed K)) := by
  refine fn_ok (k := 3) F sc__law_closed len_D1 (by decide) (t__law_closed K) (fun cdv A outer s H E hr => ?_) (body__law_closed T)
  exact (pss_cons (ps_set (i := 1) sc__law_closed.nd rfl (Or.inl rfl) (pe_cal c__law_turn hr (by decide) rfl (pa_cons (pe_cal c__law_ray hr (by decide) rfl (pa_cons (pe_ix ix_seq (pe_ix ix_seq (pv 0) pe_int (fun _ _ => rfl)) pe_int (fun _ _ => rfl)) pa_nil)) (pa_cons (pe_cal c__law_ray hr (by decide) rfl (pa_cons (pe_ix ix_seq (pe_ix ix_seq (pv 0) pe_int (fun _ _ => rfl)) pe_int (fun _ _ => rfl)) pa_nil)) pa_nil))))
  (pss_one (ps_ret (pe_cmpR (op_eqD hr.units) (pv 1) (pe_cal c__law_turn hr (by decide) rfl (pa_cons (pe_cal c__law_ray hr (by decide) rfl (pa_cons (pe_ix ix_seq (pe_ix ix_seq (pv 0) pe_int (fun _ _ => rfl)) pe_int (fun _ _ => rfl)) pa_nil)) (pa_cons (pe_cal c__law_ray hr (by decide) rfl (pa_cons (pe_ix ix_seq (pe_ix ix_seq (pv 0) pe_int (fun _ _ => rfl)) pe_int (fun _ _ => rfl)) pa_nil)) pa_nil))) (nomark _)))))
end
def t__law_four (K : PySem.W.Frag) (E : XK) : TS :=
  (tSeq (tAsg (tCall (spF K (fs__law_fraction_pair K)) [] E0 (tCons (tOp (rIx K) (tVar 0) (tC (.int 0))) (tCons (tOp (rIx K) (tVar 0) (tC (.int 1))) tNil))) (gName 2))
  (tSeq (tIfS (tTest (tOp (rEqD K) (tVar 1) (tC (.int 1)))) (tRet (tTup (tCons (tTup (tCons (tC (.int 1)) (tCons (tC (.int 1)) tNil))) (tCons (tCall (spF K (fs__law_neg K)) [] E0 (tCons (tOp (rIx K) (tVar 2) (tC (.int 0))) tNil)) (tCons (tTup (tCons (tC (.int 1)) (tCons (tC (.int 1)) tNil))) (tCons (tOp (rIx K) (tVar 2) (tC (.int 0))) tNil)))))) tNext)
  (tRet (tTup (tCons (tCall (spF K (fs__law_neg K)) [] E0 (tCons (tOp (rIx K) (tVar 2) (tC (.int 1))) tNil)) (tCons (tTup (tCons (tC (.int 1)) (tCons (tC (.int 1)) tNil))) (tCons (tOp (rIx K) (tVar 2) (tC (.int 1))) (tCons (tTup (tCons (tC (.int 1)) (tCons (tC (.int 1)) tNil))) tNil))))))))
def fs__law_four (K : PySem.W.Frag) : FS := fsD2 fun x y P _ => ∃ u v l, x = prD u v ∧ y = .int l ∧ Sz 200 u ∧ Sz 200 v ∧ 0 < u ∧ 0 < v ∧ P (.tuple ((four u v l).map fr))
theorem body__law_four {K : PySem.W.Frag} {mg : Str → Option Value} (T : Txt K mg) (E : XK) : ∀ (as : List AV) (P : D → Prop) (PX : XD → Prop), fs__law_four K as P PX → SatS (cn K E PX) (t__law_four K E) (gin as 1) (den P) := bD2 fun x y P PX q => by
  obtain ⟨u, v, l, rfl, rfl, su, sv, hu, hv, h⟩ := q
  unfold t__law_four prD
  walk_at "dl"
  refine ⟨hu, hv, ?_⟩
  walk_at "dl"
  refine ⟨fun h1 => ?_, fun h1 => ?_⟩
  · have e := of_decide_eq_true h1
    unfold four at h
    rw [if_pos e] at h
    walk_at "dl"
    exact h
  · have e := of_decide_eq_false h1
    unfold four at h
    rw [if_neg e] at h
    walk_at "dl"
    exact h
section
variable {P : Program} {w : World} {K : PySem.W.Frag} {mg : Str → Option Value} {base : Heap}
theorem ok__law_four {fd : FuncData} (F : FnP K "_law_four" s__law_four fd) (T : Txt K mg) (c__law_fraction_pair : Cal P w K mg base 3 "_law_fraction_pair" ["first", "second"] (fs__law_fraction_pair K)) (c__law_neg : Cal P w K mg base 1 "_law_neg" ["one"] (fs__law_neg K)) : FnOk P w K mg base (L2.CX P w) 4 (He.ga K "_law_four") fd ["pair", "line"] (spF K (fs__law_four K)) := by
  refine fn_ok (k := 3) F sc__law_four len_D2 (by decide) (t__law_four K) (fun cdv A outer s H E hr => ?_) (body__law_four T)
  exact (pss_cons (ps_set (i := 2) sc__law_four.nd rfl (Or.inl rfl) (pe_cal c__law_fraction_pair hr (by decide) rfl (pa_cons (pe_ix ix_seq (pv 0) pe_int (fun _ _ => rfl)) (pa_cons (pe_ix ix_seq (pv 0) pe_int (fun _ _ => rfl)) pa_nil))))
  (pss_cons (ps_if (pt_cmpR (op_eqD hr.units) (pv 1) pe_int (nomark _)) (pss_one (ps_ret (pe_tup (pa_cons (pe_tup (pa_cons pe_int (pa_cons pe_int pa_nil))) (pa_cons (pe_cal c__law_neg hr (by decide) rfl (pa_cons (pe_ix ix_seq (pv 2) pe_int (fun _ _ => rfl)) pa_nil)) (pa_cons (pe_tup (pa_cons pe_int (pa_cons pe_int pa_nil))) (pa_cons (pe_ix ix_seq (pv 2) pe_int (fun _ _ => rfl)) pa_nil))))))) pss_nil)
  (pss_one (ps_ret (pe_tup (pa_cons (pe_cal c__law_neg hr (by decide) rfl (pa_cons (pe_ix ix_seq (pv 2) pe_int (fun _ _ => rfl)) pa_nil)) (pa_cons (pe_tup (pa_cons pe_int (pa_cons pe_int pa_nil))) (pa_cons (pe_ix ix_seq (pv 2) pe_int (fun _ _ => rfl)) (pa_cons (pe_tup (pa_cons pe_int (pa_cons pe_int pa_nil))) pa_nil)))))))))
end
theorem four_sz {u v : Rat} {l : Int} (su : Sz 200 u) (sv : Sz 200 v) (hu : 0 < u) (hv : 0 < v) : ∀ {i : Nat} {q : Rat}, (four u v l)[i]? = some q → Sz 820 q := by
  have z1 := sz_f1 su sv hu hv
  have z2 := sz_f2 su sv hu hv
  intro i q e
  have m := List.mem_of_getElem? e
  unfold four at m
  by_cases hl : l = 1
  · rw [if_pos hl] at m
    simp only [List.mem_cons, List.not_mem_nil, or_false] at m
    rcases m with rfl | rfl | rfl | rfl <;> walk_at "sz"
  · rw [if_neg hl] at m
    simp only [List.mem_cons, List.not_mem_nil, or_false] at m
    rcases m with rfl | rfl | rfl | rfl <;> walk_at "sz"
theorem four_len {u v : Rat} {l : Int} : (four u v l).length = 4 := by unfold four; split <;> rfl
def fo (u v : Rat) (l : Int) (i : Nat) : Rat := (four u v l).getD i 0
theorem fo_at {u v : Rat} {l : Int} {i : Nat} (h : i < 4) : (four u v l)[i]? = some (fo u v l i) := by
  unfold fo
  rw [List.getD_eq_getElem?_getD, List.getElem?_eq_getElem (by rw [four_len]; exact h)]
  rfl
theorem fo_sz {u v : Rat} {l : Int} {i : Nat} (su : Sz 200 u) (sv : Sz 200 v) (hu : 0 < u) (hv : 0 < v) (h : i < 4) : Sz 820 (fo u v l i) := four_sz su sv hu hv (fo_at h)
structure OkQ (u v : Rat) : Prop where
  s1 : Sz 200 u
  s2 : Sz 200 v
  p1 : 0 < u
  p2 : 0 < v
def t__law_rounds (K : PySem.W.Frag) (E : XK) : TS :=
  (tSeq (tAsg (tLc (iRng1 (tCons (tC (.int 4)) tNil)) (gName 3) tYes (tCall (spF K (fs__law_four K)) [] E0 (tCons (tOp (rIx K) (tVar 0) (tVar 3)) (tCons (tOp (rIx K) (tVar 1) (tVar 3)) tNil))) [3]) (gName 2))
  (tSeq (tAsg (tCall (spF K (fs__law_mul K)) [] E0 (tCons (tCall (spF K (fs__law_mul K)) [] E0 (tCons (tOp (rIx K) (tOp (rIx K) (tVar 2) (tC (.int 0))) (tC (.int 0))) (tCons (tOp (rIx K) (tOp (rIx K) (tVar 2) (tC (.int 1))) (tC (.int 1))) tNil))) (tCons (tCall (spF K (fs__law_mul K)) [] E0 (tCons (tOp (rIx K) (tOp (rIx K) (tVar 2) (tC (.int 2))) (tC (.int 2))) (tCons (tOp (rIx K) (tOp (rIx K) (tVar 2) (tC (.int 3))) (tC (.int 3))) tNil))) tNil))) (gName 4))
  (tRet (tOp (rEqD K) (tVar 4) (tCall (spF K (fs__law_mul K)) [] E0 (tCons (tCall (spF K (fs__law_mul K)) [] E0 (tCons (tOp (rIx K) (tOp (rIx K) (tVar 2) (tC (.int 0))) (tC (.int 1))) (tCons (tOp (rIx K) (tOp (rIx K) (tVar 2) (tC (.int 1))) (tC (.int 2))) tNil))) (tCons (tCall (spF K (fs__law_mul K)) [] E0 (tCons (tOp (rIx K) (tOp (rIx K) (tVar 2) (tC (.int 2))) (tC (.int 3))) (tCons (tOp (rIx K) (tOp (rIx K) (tVar 2) (tC (.int 3))) (tC (.int 0))) tNil))) tNil)))))))
def fs__law_rounds (K : PySem.W.Frag) : FS := fsD2 fun x y P _ => ∃ u0 v0 u1 v1 u2 v2 u3 v3 l0 l1 l2 l3, x = quadD u0 v0 u1 v1 u2 v2 u3 v3 ∧ y = linesD l0 l1 l2 l3 ∧ OkQ u0 v0 ∧ OkQ u1 v1 ∧ OkQ u2 v2 ∧ OkQ u3 v3 ∧
  P (.bool (decide (fo u0 v0 l0 0 * fo u1 v1 l1 1 * (fo u2 v2 l2 2 * fo u3 v3 l3 3) = fo u0 v0 l0 1 * fo u1 v1 l1 2 * (fo u2 v2 l2 3 * fo u3 v3 l3 0))))
theorem body__law_rounds {K : PySem.W.Frag} {mg : Str → Option Value} (T : Txt K mg) (E : XK) : ∀ (as : List AV) (P : D → Prop) (PX : XD → Prop), fs__law_rounds K as P PX → SatS (cn K E PX) (t__law_rounds K E) (gin as 3) (den P) := bD2 fun x y P PX q => by
  obtain ⟨u0, v0, u1, v1, u2, v2, u3, v3, l0, l1, l2, l3, rfl, rfl, o0, o1, o2, o3, h⟩ := q
  have z0 := fun (i : Nat) (hi : i < 4) => fo_sz (l := l0) (i := i) o0.s1 o0.s2 o0.p1 o0.p2 hi
  have z1 := fun (i : Nat) (hi : i < 4) => fo_sz (l := l1) (i := i) o1.s1 o1.s2 o1.p1 o1.p2 hi
  have z2 := fun (i : Nat) (hi : i < 4) => fo_sz (l := l2) (i := i) o2.s1 o2.s2 o2.p1 o2.p2 hi
  have z3 := fun (i : Nat) (hi : i < 4) => fo_sz (l := l3) (i := i) o3.s1 o3.s2 o3.p1 o3.p2 hi
  have a0 := z0 0 (by decide)
  have a1 := z0 1 (by decide)
  have b1 := z1 1 (by decide)
  have b2 := z1 2 (by decide)
  have c2 := z2 2 (by decide)
  have c3 := z2 3 (by decide)
  have d0 := z3 0 (by decide)
  have d3 := z3 3 (by decide)
  unfold t__law_rounds quadD linesD
  refine sat_seq (sat_asg (ev_ofL (el_comp (ei_rng1 ?_))))
  walk_at "dl"
  refine ⟨_, rfl, by decide, by decide, ?_⟩
  refine compI_map (ys := [.tuple ((four u0 v0 l0).map fr), .tuple ((four u1 v1 l1).map fr), .tuple ((four u2 v2 l2).map fr), .tuple ((four u3 v3 l3).map fr)]) rfl (by decide) (fun n z y hz hy => ?_) ?_
  · obtain ⟨hn, rfl⟩ := rngD_of hz
    refine egw_name (by simp) ?_
    have hn4 : n < 4 := hn
    have cs : n = 0 ∨ n = 1 ∨ n = 2 ∨ n = 3 := by omega
    rcases cs with rfl | rfl | rfl | rfl
    · walk_at "dl"
      exact ⟨_, _, _, rfl, rfl, o0.s1, o0.s2, o0.p1, o0.p2, by simpa using hy⟩
    · walk_at "dl"
      exact ⟨_, _, _, rfl, rfl, o1.s1, o1.s2, o1.p1, o1.p2, by simpa using hy⟩
    · walk_at "dl"
      exact ⟨_, _, _, rfl, rfl, o2.s1, o2.s2, o2.p1, o2.p2, by simpa using hy⟩
    · walk_at "dl"
      exact ⟨_, _, _, rfl, rfl, o3.s1, o3.s2, o3.p1, o3.p2, by simpa using hy⟩
  have ix : ∀ {G : Gm} {u v : Rat} {l : Int} {i : Nat} {P : D → Prop}, i < 4 → P (fr (fo u v l i)) → K2 (cn K E PX) G (rIx K) (.tuple ((four u v l).map fr)) (.int (i : Nat)) P := fun hi p =>
    k2_ix (.inr rfl) (atI_n (by rw [List.getElem?_map, fo_at hi]; rfl)) p
  walk_at "dl"
  refine ix (i := 0) (by decide) ?_
  walk_at "dl"
  refine ix (i := 1) (by decide) ?_
  walk_at "dl"
  refine ix (i := 2) (by decide) ?_
  walk_at "dl"
  refine ix (i := 3) (by decide) ?_
  walk_at "dl"
  refine ix (i := 1) (by decide) ?_
  walk_at "dl"
  refine ix (i := 2) (by decide) ?_
  walk_at "dl"
  refine ix (i := 3) (by decide) ?_
  walk_at "dl"
  refine ix (i := 0) (by decide) ?_
  walk_at "dl"
  exact h
section
variable {P : Program} {w : World} {K : PySem.W.Frag} {mg : Str → Option Value} {base : Heap}
theorem ok__law_rounds {fd : FuncData} (F : FnP K "_law_rounds" s__law_rounds fd) (T : Txt K mg) (c__law_four : Cal P w K mg base 4 "_law_four" ["pair", "line"] (fs__law_four K)) (c__law_mul : Cal P w K mg base 2 "_law_mul" ["one", "other"] (fs__law_mul K)) : FnOk P w K mg base (L2.CX P w) 5 (He.ga K "_law_rounds") fd ["quad", "lines"] (spF K (fs__law_rounds K)) := by
  refine fn_ok (k := 4) F sc__law_rounds len_D2 (by decide) (t__law_rounds K) (fun cdv A outer s H E hr => ?_) (body__law_rounds T)
  exact (pss_cons (ps_setLc (i := 2) (own := [("k", 3)]) (g := (gName 3)) (tt := tYes) rfl sc__law_rounds.nd rfl rfl (sw_true rfl rfl rfl (by decide +kernel)) (pi_range1 (by rfl) T.n_range (pa_cons pe_int pa_nil)) (blkOk_by (own := [("k", 3)]) (N := N__law_rounds) (sc := defScope s__law_rounds) (by decide +kernel)) (fun _ _ _ _ _ => (pg_name (i := 3) sc__law_rounds.nd rfl (by first | exact Or.inl rfl | exact Or.inr rfl))) (fun _ _ _ _ _ => pts_nil) (fun _ _ _ _ _ => (pe_cal c__law_four hr (by decide) rfl (pa_cons (pe_ix ix_seq (pv 0) (pv 3) (fun _ _ => rfl)) (pa_cons (pe_ix ix_seq (pv 1) (pv 3) (fun _ _ => rfl)) pa_nil)))))
  (pss_cons (ps_set (i := 4) sc__law_rounds.nd rfl (Or.inl rfl) (pe_cal c__law_mul hr (by decide) rfl (pa_cons (pe_cal c__law_mul hr (by decide) rfl (pa_cons (pe_ix ix_seq (pe_ix ix_seq (pv 2) pe_int (fun _ _ => rfl)) pe_int (fun _ _ => rfl)) (pa_cons (pe_ix ix_seq (pe_ix ix_seq (pv 2) pe_int (fun _ _ => rfl)) pe_int (fun _ _ => rfl)) pa_nil))) (pa_cons (pe_cal c__law_mul hr (by decide) rfl (pa_cons (pe_ix ix_seq (pe_ix ix_seq (pv 2) pe_int (fun _ _ => rfl)) pe_int (fun _ _ => rfl)) (pa_cons (pe_ix ix_seq (pe_ix ix_seq (pv 2) pe_int (fun _ _ => rfl)) pe_int (fun _ _ => rfl)) pa_nil))) pa_nil))))
  (pss_one (ps_ret (pe_cmpR (op_eqD hr.units) (pv 4) (pe_cal c__law_mul hr (by decide) rfl (pa_cons (pe_cal c__law_mul hr (by decide) rfl (pa_cons (pe_ix ix_seq (pe_ix ix_seq (pv 2) pe_int (fun _ _ => rfl)) pe_int (fun _ _ => rfl)) (pa_cons (pe_ix ix_seq (pe_ix ix_seq (pv 2) pe_int (fun _ _ => rfl)) pe_int (fun _ _ => rfl)) pa_nil))) (pa_cons (pe_cal c__law_mul hr (by decide) rfl (pa_cons (pe_ix ix_seq (pe_ix ix_seq (pv 2) pe_int (fun _ _ => rfl)) pe_int (fun _ _ => rfl)) (pa_cons (pe_ix ix_seq (pe_ix ix_seq (pv 2) pe_int (fun _ _ => rfl)) pe_int (fun _ _ => rfl)) pa_nil))) pa_nil))) (nomark _))))))
end
/-- the cells, corner by corner -/
def quadsL (up ac : Nat) (T : Nat → Nat → D) : List D := (List.range (up - 1)).flatMap fun j => (List.range (ac - 1)).map fun i => .tuple [T j i, T j (i + 1), T (j + 1) (i + 1), T (j + 1) i]
def t__law_quads (K : PySem.W.Frag) (E : XK) : TS :=
  (tSeq (tAsg (tLst tNil) (gName 1))
  (tSeq (tFor (iRng2 (tCons (tC (.int 1)) (tCons (tCB (rLenB K) (tCons (tVar 0) tNil)) tNil))) (gName 2) (tFor (iRng2 (tCons (tC (.int 1)) (tCons (tCB (rLenB K) (tCons (tOp (rIx K) (tVar 0) (tC (.int 0))) tNil)) tNil))) (gName 3) (tDrop (tBM K "list" rAppend (tVar 1) (tCons (tTup (tCons (tOp (rIx K) (tOp (rIx K) (tVar 0) (tOp rSubI (tVar 2) (tC (.int 1)))) (tOp rSubI (tVar 3) (tC (.int 1)))) (tCons (tOp (rIx K) (tOp (rIx K) (tVar 0) (tOp rSubI (tVar 2) (tC (.int 1)))) (tVar 3)) (tCons (tOp (rIx K) (tOp (rIx K) (tVar 0) (tVar 2)) (tVar 3)) (tCons (tOp (rIx K) (tOp (rIx K) (tVar 0) (tVar 2)) (tOp rSubI (tVar 3) (tC (.int 1)))) tNil))))) tNil)))))
  (tRet (tVar 1))))
def fs__law_quads (K : PySem.W.Frag) : FS := fsD1 fun x P _ => ∃ up ac T, Grid (fun d : D => d) x up ac T ∧ 1 ≤ up ∧ up ≤ 4 ∧ 1 ≤ ac ∧ ac ≤ 4 ∧ P (.list (quadsL up ac T))
theorem body__law_quads {K : PySem.W.Frag} {mg : Str → Option Value} (T : Txt K mg) (E : XK) : ∀ (as : List AV) (P : D → Prop) (PX : XD → Prop), fs__law_quads K as P PX → SatS (cn K E PX) (t__law_quads K E) (gin as 3) (den P) := bD1 fun x P PX q => by
  obtain ⟨up, ac, T, g, u1, u4, a1, a4, q⟩ := q
  obtain ⟨rs, h1, h2, h3⟩ := id g
  obtain ⟨r0, xs, b1, b2, b3, _⟩ := h3 0 (by omega)
  unfold t__law_quads
  walk_at "dl"
  refine sat_for (ei_rng2 ?_)
  walk_at "dl"
  refine kc_lenR h1 ?_
  walk_at "dl"
  rw [h2]
  refine ⟨by omega, by omega, by omega, by omega, ?_⟩
  have en : ((up : Int) - 1).toNat = up - 1 := by omega
  have em : ((ac : Int) - 1).toNat = ac - 1 := by omega
  rw [en]
  have ll : ∀ n, n ≤ 4 → ∀ m, m ≤ 4 → (((List.range n).flatMap fun j => (List.range (ac - 1)).map fun i => (PyData.tuple [T j i, T j (i + 1), T (j + 1) (i + 1), T (j + 1) i])) ++ (List.range m).map fun i => (PyData.tuple [T n i, T n (i + 1), T (n + 1) (i + 1), T (n + 1) i])).length < 100000 := by
    intro n hn m hm
    have : ∀ n, ((List.range n).flatMap fun j => (List.range (ac - 1)).map fun i => (PyData.tuple [T j i, T j (i + 1), T (j + 1) (i + 1), T (j + 1) i])).length = n * (ac - 1) := by
      intro n
      induction n with
      | zero => simp
      | succ n ih => rw [List.range_succ, List.flatMap_append, List.length_append, ih]; simp [Nat.succ_mul]
    rw [List.length_append, this]
    have : n * (ac - 1) ≤ 4 * 4 := Nat.mul_le_mul hn (by omega)
    simp; omega
  refine ⟨fun n G' => n ≤ 4 ∧ ∃ s2 s3, G' = ⟨[.d x, .hot 0, s2, s3], [.lst ((List.range n).flatMap fun j => (List.range (ac - 1)).map fun i => .tuple [T j i, T j (i + 1), T (j + 1) (i + 1), T (j + 1) i])]⟩, ⟨by omega, .any, .any, rfl⟩, ?_, ?_⟩
  · rintro n z G' hz ⟨hn4, s2, s3, rfl⟩
    obtain ⟨hn, rfl⟩ := rngD_of hz
    obtain ⟨r1, xs1, d1, d2, d3, d4⟩ := h3 n (by omega)
    obtain ⟨r2, xs2, e1, e2, e3, e4⟩ := h3 (n + 1) (by omega)
    walk_at "dl"
    refine sat_for (ei_rng2 ?_)
    walk_at "dl"
    refine ix_row (n := 0) h1 rfl b1 ?_
    walk_at "dl"
    refine kc_lenR b2 ?_
    walk_at "dl"
    rw [b3]
    refine ⟨by omega, by omega, by omega, by omega, ?_⟩
    rw [em]
    refine ⟨fun m G' => m ≤ 4 ∧ ∃ s3, G' = ⟨[.d x, .hot 0, .d (.int (1 + (n : Int))), s3], [.lst (((List.range n).flatMap fun j => (List.range (ac - 1)).map fun i => .tuple [T j i, T j (i + 1), T (j + 1) (i + 1), T (j + 1) i]) ++ (List.range m).map fun i => .tuple [T n i, T n (i + 1), T (n + 1) (i + 1), T (n + 1) i])]⟩, ⟨by omega, s3, by simp; rfl⟩, ?_, ?_⟩
    · rintro m z G' hz ⟨hm4, s3, rfl⟩
      obtain ⟨hm, rfl⟩ := rngD_of hz
      refine eg_name ?_
      refine sat_append rfl rfl (ll n (by omega) m (by omega)) ?_
      walk_at "dl"
      refine ix_row (n := n) h1 (by omega) d1 ?_
      walk_at "dl"
      refine ix_row (n := m) d2 (by omega) (d4 m (by omega)) ?_
      walk_at "dl"
      refine ix_row (n := n) h1 (by omega) d1 ?_
      walk_at "dl"
      refine ix_row (n := m + 1) d2 (by omega) (d4 (m + 1) (by omega)) ?_
      walk_at "dl"
      refine ix_row (n := n + 1) h1 (by omega) e1 ?_
      walk_at "dl"
      refine ix_row (n := m + 1) e2 (by omega) (e4 (m + 1) (by omega)) ?_
      walk_at "dl"
      refine ix_row (n := n + 1) h1 (by omega) e1 ?_
      walk_at "dl"
      refine ix_row (n := m) e2 (by omega) (e4 m (by omega)) ?_
      walk_at "dl"
      refine ⟨by omega, .d (.int (1 + (m : Int))), ?_⟩
      rw [List.range_succ (n := m), List.map_append, ← List.append_assoc]
      rfl
    · rintro G' ⟨hm4, s3, rfl⟩
      rw [rngD_len]
      refine ⟨by omega, .d (.int (1 + (n : Int))), s3, ?_⟩
      rw [List.range_succ (n := n), List.flatMap_append]
      simp
  · rintro G' ⟨hn4, s2, s3, rfl⟩
    rw [rngD_len]
    refine sat_retHot rfl rfl ?_
    exact q
section
variable {P : Program} {w : World} {K : PySem.W.Frag} {mg : Str → Option Value} {base : Heap}
theorem ok__law_quads {fd : FuncData} (F : FnP K "_law_quads" s__law_quads fd) (T : Txt K mg)  : FnOk P w K mg base (L2.CX P w) 1 (He.ga K "_law_quads") fd ["table"] (spF K (fs__law_quads K)) := by
  refine fn_ok (k := 0) F sc__law_quads len_D1 (by decide) (t__law_quads K) (fun cdv A outer s H E hr => ?_) (body__law_quads T)
  exact (pss_cons (ps_set (i := 1) sc__law_quads.nd rfl (Or.inl rfl) (pe_lst pa_nil))
  (pss_cons (ps_for (passes_of rfl) rfl (pi_range2 (by rfl) T.n_range (pa_cons pe_int (pa_cons (pe_callB call_len (by rfl) T.n_len (by decide +kernel) (pa_cons (pv 0) pa_nil)) pa_nil))) (pg_name (i := 2) sc__law_quads.nd rfl (Or.inl rfl)) (pss_one (ps_for (passes_of rfl) rfl (pi_range2 (by rfl) T.n_range (pa_cons pe_int (pa_cons (pe_callB call_len (by rfl) T.n_len (by decide +kernel) (pa_cons (pe_ix ix_seq (pv 0) pe_int (fun _ _ => rfl)) pa_nil)) pa_nil))) (pg_name (i := 3) sc__law_quads.nd rfl (Or.inl rfl)) (pss_one (ps_expr (pe_bm PySem.F.plainAttrs_list PySem.F.slot_list_append PySem.F.type_list_append mt_append (pv 1) (pa_cons (pe_tup (pa_cons (pe_ix ix_seq (pe_ix ix_seq (pv 0) (pe_op op_sub (pv 2) pe_int) (fun _ _ => rfl)) (pe_op op_sub (pv 3) pe_int) (fun _ _ => rfl)) (pa_cons (pe_ix ix_seq (pe_ix ix_seq (pv 0) (pe_op op_sub (pv 2) pe_int) (fun _ _ => rfl)) (pv 3) (fun _ _ => rfl)) (pa_cons (pe_ix ix_seq (pe_ix ix_seq (pv 0) (pv 2) (fun _ _ => rfl)) (pv 3) (fun _ _ => rfl)) (pa_cons (pe_ix ix_seq (pe_ix ix_seq (pv 0) (pv 2) (fun _ _ => rfl)) (pe_op op_sub (pv 3) pe_int) (fun _ _ => rfl)) pa_nil))))) pa_nil)))))))
  (pss_one (ps_ret (pv 1)))))
end
end X85
end
section
namespace X85
open PySem L2 DL
local macro_rules | `(tactic| walk_at "bi") => `(tactic| first
  | assumption
  | exact Sz.nb (by assumption) (by decide) | exact Sz.db (by assumption) (by decide)
  | (unfold Bi; decide))
local macro_rules | `(tactic| walk_at "sz0") => `(tactic| first
  | assumption
  | exact Sz.one | exact Sz.zero
  | ((apply Sz.neg); (· walk_at "sz0"))
  | ((apply Sz.mul); (· walk_at "sz0"); (· walk_at "sz0"))
  | ((apply Sz.add); (· walk_at "sz0"); (· walk_at "sz0"))
  | ((apply Sz.sub); (· walk_at "sz0"); (· walk_at "sz0"))
  | ((apply Sz.div); (· walk_at "sz0"); (· walk_at "sz0"); (· assumption)))
local macro_rules | `(tactic| walk_at "sz") => `(tactic| first | assumption | ((apply Sz.mono); (· walk_at "sz0"); (· decide)))
local macro_rules | `(tactic| walk_at "d1") => `(tactic| first
  | refine sat_retHot rfl rfl ?_
  | with_reducible refine sat_seq ?_ | with_reducible refine sat_drop ?_ | with_reducible refine sat_if ?_ | with_reducible refine sat_ret ?_ | with_reducible refine sat_retN ?_ | with_reducible refine sat_next ?_ | with_reducible refine sat_par ?_
  | with_reducible refine sat_asgHot (el_lst (ea_nil ⟨_, rfl, Nat.le_of_ble_eq_true rfl, ?_⟩))
  | refine sat_setSt _ rfl (by decide) ?_ | refine sat_append rfl rfl (by simp) ?_
  | with_reducible refine sat_asg ?_ | with_reducible refine sat_asgG ?_ | with_reducible refine eg_tup4 ?_ | with_reducible refine eg_tup2 ?_ | with_reducible refine eg_name ?_
  | with_reducible refine evt_of ?_ | with_reducible refine evt_B ?_ | with_reducible refine evt_and ?_ | with_reducible refine evt_or ?_ | with_reducible refine evt_not ?_ | with_reducible refine evt_yes ?_
  | ((with_reducible apply ev_var); · exact rfl)
  | with_reducible refine ev_int ?_ | with_reducible refine ev_str ?_ | with_reducible refine ev_bl ?_ | with_reducible refine ev_non ?_
  | refine ev_stI _ rfl (by decide) ?_ | refine ev_stL rfl ?_
  | refine ev_ixHot rfl rfl ?_ | refine ev_lenHot rfl rfl ?_
  | with_reducible refine ev_op ?_ | with_reducible refine ev_neg ?_ | with_reducible refine ev_and ?_ | with_reducible refine ev_or ?_ | with_reducible refine ev_not ?_ | with_reducible refine ev_if ?_ | with_reducible refine ev_chain ?_
  | with_reducible refine ev_tup ?_ | with_reducible refine ev_call ?_ | with_reducible refine ev_callS ?_ | with_reducible refine ev_callKS ?_
  | refine ev_isiT (ns := ["list", "tuple"]) (by decide) ?_
  | with_reducible refine ev_cb ?_
  | with_reducible refine ea_nil ?_ | refine ea_val (v := .ty _) ?_ | ((with_reducible apply ea_st); · exact rfl) | with_reducible refine ea_cons ?_
  | refine ev_int ?_
  | refine ix_fr0 ?_ | refine ix_fr1 ?_ | refine k2_ix (.inl rfl) rfl ?_ | refine k2_ix (.inr rfl) rfl ?_
  | refine k2_mul (bi_mulOk (n := 9000) (m := 9000) (by walk_at "bi") (by walk_at "bi") (by decide)) ?_
  | refine k2_add ?_
  | refine k2_eqI ?_ | refine k2_neI ?_ | refine k2_eqF ?_ | refine k2_eqF2 ?_ | refine k2_neB ?_ | refine k2_is ?_ | refine k2_isnot ?_ | refine k2_isB ?_
  | refine k2_IB ?_ | refine k2_II ?_
  | refine kc_abs ?_ | refine kc_intI ?_ | refine kc_isi rfl ?_ | refine kc_len rfl ?_ | refine kc_all ?_
  | refine tup_one ?_ | refine tup_zero ?_ | refine tup_m1 ?_ | refine tup_neg ?_ | refine tup_any rfl (Nat.le_of_ble_eq_true rfl) ?_
  | refine tt_split ?_ | refine ff_split ?_
  | refine bool_any ?_ | refine int_any ?_ | refine fr_any ?_ | refine ⟨_, _, rfl, ?_⟩
  | ((refine cD1 ?_); (try dsimp only)) | ((refine cD2 ?_); (try dsimp only)) | ((refine cD3 ?_); (try dsimp only)) | ((refine cD4 ?_); (try dsimp only)) | ((refine cS0 ?_); (try dsimp only)) | ((refine cS1 ?_); (try dsimp only)) | ((refine cS2 ?_); (try dsimp only)) | ((refine cS3 ?_); (try dsimp only))
  | refine sz_and (by walk_at "sz") ?_
  | refine take_and (by first | decide | omega) (by first | decide | omega) ?_
  | refine ne_and (by assumption) ?_
  | refine ev_c (rp_ONE (by assumption)) ?_ | refine ev_c (rp_ZERO (by assumption)) ?_
  | refine ⟨_, _, rfl, rfl, ?_⟩ | refine ⟨_, _, _, rfl, rfl, rfl, ?_⟩ | refine ⟨_, _, _, _, rfl, rfl, rfl, rfl, ?_⟩)
local macro_rules | `(tactic| walk_at "dl") => `(tactic| repeat (walk_at "d1"))

def GridD.of {α : Type} {f : α → D} {d : D} {up ac : Nat} {T : Nat → Nat → α} (g : Grid f d up ac T) : Grid (fun x : D => x) d up ac (fun j i => f (T j i)) := g
/-- cells, in order, with what a test says of them -/
theorem quads_at {up ac : Nat} {T : Nat → Nat → D} {k : Nat} {z : D} (h : (quadsL up ac T)[k]? = some z) : ∃ i j : Nat, i < ac - 1 ∧ j < up - 1 ∧ (cellsD (up - 1) (ac - 1))[k]? = some (.tuple [.int i, .int j]) ∧ z = .tuple [T j i, T j (i + 1), T (j + 1) (i + 1), T (j + 1) i] := by
  have e : quadsL up ac T = (cellsD (up - 1) (ac - 1)).map (fun c => match c with
    | .tuple [.int i, .int j] => .tuple [T j.toNat i.toNat, T j.toNat (i.toNat + 1), T (j.toNat + 1) (i.toNat + 1), T (j.toNat + 1) i.toNat]
    | c => c) := by
    unfold quadsL cellsD
    rw [List.map_flatMap]
    congr 1
    funext j
    rw [List.map_map]
    congr 1
  rw [e, List.getElem?_map] at h
  obtain ⟨c, hc, rfl⟩ := Option.map_eq_some_iff.mp h
  obtain ⟨i, j, hi, hj, rfl⟩ := cells_at hc
  exact ⟨i, j, hi, hj, hc, rfl⟩
theorem quads_len {up ac : Nat} {T : Nat → Nat → D} : (quadsL up ac T).length = (cellsD (up - 1) (ac - 1)).length := by
  unfold quadsL cellsD
  rw [List.length_flatMap, List.length_flatMap]
  simp
theorem cells_all' {n m : Nat} {f : Nat → Nat → Bool} : (cellsD n m).all (atZ f) = (List.range n).all fun j => (List.range m).all fun i => f j i := by
  rw [← cells_all, all_id]
def t__law_all_closed (K : PySem.W.Frag) (E : XK) : TS :=
  (tSeq (tFor (iAny K (tCall (spF K (fs__law_quads K)) [] E0 (tCons (tVar 0) tNil))) (gName 1) (tIfS (tNot (tB (tCall (spF K (fs__law_closed K)) [] E0 (tCons (tVar 1) tNil)))) (tRet (tC (.bl false))) tNext))
  (tRet (tC (.bl true))))
def fs__law_all_closed (K : PySem.W.Frag) : FS := fsD1 fun x P _ => ∃ up ac T, Tab x up ac T ∧ P (.bool (clB up ac T))
theorem body__law_all_closed {K : PySem.W.Frag} {mg : Str → Option Value} (T : Txt K mg) (E : XK) : ∀ (as : List AV) (P : D → Prop) (PX : XD → Prop), fs__law_all_closed K as P PX → SatS (cn K E PX) (t__law_all_closed K E) (gin as 1) (den P) := bD1 fun x P PX q => by
  obtain ⟨up, ac, T, tb, q⟩ := q
  unfold t__law_all_closed
  refine sat_seq (sat_for (ei_any ?_))
  walk_at "dl"
  refine ⟨up, ac, _, GridD.of tb.g, tb.u1, tb.u4, tb.a1, tb.a4, _, rfl, ?_⟩
  refine ⟨fun n G' => (∀ k, k < n → ∀ z, (cellsD (up - 1) (ac - 1))[k]? = some z → atZ (clAt T) z = true) ∧ ∃ s, G' = ⟨[.d x, s], []⟩, ⟨fun k hk => by omega, .any, rfl⟩, ?_, ?_⟩
  · rintro n z G' hz ⟨hk, s, rfl⟩
    obtain ⟨i, j, hi, hj, hc, rfl⟩ := quads_at hz
    walk_at "dl"
    have o1 := tb.ok j i (by omega) (by omega)
    have o2 := tb.ok j (i + 1) (by omega) (by omega)
    have o3 := tb.ok (j + 1) (i + 1) (by omega) (by omega)
    have o4 := tb.ok (j + 1) i (by omega) (by omega)
    refine ⟨_, _, _, _, _, _, _, _, rfl, o1.s1, o2.s2, o3.s1, o4.s2, o1.p1, o2.p2, o3.p1, o4.p2, ?_⟩
    walk_at "dl"
    have ez : atZ (clAt T) (.tuple [.int i, .int j]) = decide (closes (T j i).1 (T j (i + 1)).2 (T (j + 1) (i + 1)).1 (T (j + 1) i).2) := rfl
    refine ⟨fun h => ?_, fun h => ?_⟩
    · walk_at "dl"
      have hf : atZ (clAt T) (.tuple [.int i, .int j]) = false := by rw [ez]; simpa using h
      have : clB up ac T = false := by
        unfold clB
        rw [← cells_all']
        exact not_all hc hf
      rw [this] at q
      exact q
    · walk_at "dl"
      have hf : atZ (clAt T) (.tuple [.int i, .int j]) = true := by rw [ez]; simpa using h
      exact ⟨take_all hk hc hf, _, rfl⟩
  · rintro G' ⟨hk, s, rfl⟩
    rw [quads_len] at hk
    walk_at "dl"
    have : clB up ac T = true := by
      unfold clB
      rw [← cells_all']
      exact all_of_take hk
    rw [this] at q
    exact q
section
variable {P : Program} {w : World} {K : PySem.W.Frag} {mg : Str → Option Value} {base : Heap}
theorem ok__law_all_closed {fd : FuncData} (F : FnP K "_law_all_closed" s__law_all_closed fd) (T : Txt K mg) (c__law_closed : Cal P w K mg base 4 "_law_closed" ["quad"] (fs__law_closed K)) (c__law_quads : Cal P w K mg base 1 "_law_quads" ["table"] (fs__law_quads K)) : FnOk P w K mg base (L2.CX P w) 5 (He.ga K "_law_all_closed") fd ["table"] (spF K (fs__law_all_closed K)) := by
  refine fn_ok (k := 4) F sc__law_all_closed len_D1 (by decide) (t__law_all_closed K) (fun cdv A outer s H E hr => ?_) (body__law_all_closed T)
  exact (pss_cons (ps_for (passes_of rfl) rfl (pi_any (pe_cal c__law_quads hr (by decide) rfl (pa_cons (pv 0) pa_nil))) (pg_name (i := 1) sc__law_all_closed.nd rfl (Or.inl rfl)) (pss_one (ps_if (pt_not (pt_val (pe_cal c__law_closed hr (by decide) rfl (pa_cons (pv 1) pa_nil)))) (pss_one (ps_ret pe_bl)) pss_nil)))
  (pss_one (ps_ret pe_bl)))
end
theorem fo_ne {u v : Rat} {l : Int} (h0 : tf u v l ≠ 0) {i : Nat} (hi : i < 4) : fo u v l i ≠ 0 := by
  have n1 : (1 : Rat) ≠ 0 := by decide
  unfold tf at h0
  unfold fo four
  have cs : i = 0 ∨ i = 1 ∨ i = 2 ∨ i = 3 := by omega
  by_cases hl : l = 1
  · rw [if_pos hl] at h0
    rw [if_pos hl]
    have nn : -f1 u v ≠ 0 := by grind
    rcases cs with rfl | rfl | rfl | rfl <;> assumption
  · rw [if_neg hl] at h0
    rw [if_neg hl]
    have nn : -f2 u v ≠ 0 := by grind
    rcases cs with rfl | rfl | rfl | rfl <;> assumption
/-- quotients round a cell -/
theorem round_iff {u0 v0 u1 v1 u2 v2 u3 v3 : Rat} {l0 l1 l2 l3 : Int} (h0 : tf u0 v0 l0 ≠ 0) (h1 : tf u1 v1 l1 ≠ 0) (h2 : tf u2 v2 l2 ≠ 0) (h3 : tf u3 v3 l3 ≠ 0) :
    (fo u0 v0 l0 0 * fo u1 v1 l1 1 * (fo u2 v2 l2 2 * fo u3 v3 l3 3) = fo u0 v0 l0 1 * fo u1 v1 l1 2 * (fo u2 v2 l2 3 * fo u3 v3 l3 0)) ↔
    quo u0 v0 l0 0 1 * quo u1 v1 l1 1 2 * quo u3 v3 l3 3 0 * quo u2 v2 l2 2 3 = 1 := by
  have a := fo_ne h0 (i := 1) (by decide)
  have b := fo_ne h1 (i := 2) (by decide)
  have c := fo_ne h2 (i := 3) (by decide)
  have d := fo_ne h3 (i := 0) (by decide)
  show _ ↔ fo u0 v0 l0 0 / fo u0 v0 l0 1 * (fo u1 v1 l1 1 / fo u1 v1 l1 2) * (fo u3 v3 l3 3 / fo u3 v3 l3 0) * (fo u2 v2 l2 2 / fo u2 v2 l2 3) = 1
  generalize fo u0 v0 l0 0 = p0, fo u0 v0 l0 1 = q0, fo u1 v1 l1 1 = p1, fo u1 v1 l1 2 = q1, fo u3 v3 l3 3 = p3, fo u3 v3 l3 0 = q3, fo u2 v2 l2 2 = p2, fo u2 v2 l2 3 = q2 at *
  constructor
  · intro h; grind
  · intro h; grind
def t__law_kept (K : PySem.W.Frag) (E : XK) : TS :=
  (tSeq (tFor (iRng1 (tCons (tCB (rLenB K) (tCons (tVar 0) tNil)) tNil)) (gName 2) (tFor (iRng1 (tCons (tCB (rLenB K) (tCons (tOp (rIx K) (tVar 0) (tC (.int 0))) tNil)) tNil)) (gName 3) (tIfS (tTest (tOp (rEqD K) (tOp (rIx K) (tOp (rIx K) (tCall (spF K (fs__law_fraction_pair K)) [] E0 (tCons (tOp (rIx K) (tOp (rIx K) (tOp (rIx K) (tVar 0) (tVar 2)) (tVar 3)) (tC (.int 0))) (tCons (tOp (rIx K) (tOp (rIx K) (tOp (rIx K) (tVar 0) (tVar 2)) (tVar 3)) (tC (.int 1))) tNil))) (tOp rSubI (tOp (rIx K) (tOp (rIx K) (tVar 1) (tVar 2)) (tVar 3)) (tC (.int 1)))) (tC (.int 0))) (tC (.int 0)))) (tRet (tC (.bl false))) tNext)))
  (tSeq (tAsg (tCall (spF K (fs__law_quads K)) [] E0 (tCons (tVar 0) tNil)) (gName 4))
  (tSeq (tAsg (tCall (spF K (fs__law_quads K)) [] E0 (tCons (tVar 1) tNil)) (gName 5))
  (tSeq (tFor (iRng1 (tCons (tCB (rLenB K) (tCons (tVar 4) tNil)) tNil)) (gName 6) (tIfS (tOr (tNot (tB (tCall (spF K (fs__law_closed K)) [] E0 (tCons (tOp (rIx K) (tVar 4) (tVar 6)) tNil)))) (tNot (tB (tCall (spF K (fs__law_rounds K)) [] E0 (tCons (tOp (rIx K) (tVar 4) (tVar 6)) (tCons (tOp (rIx K) (tVar 5) (tVar 6)) tNil)))))) (tRet (tC (.bl false))) tNext))
  (tRet (tC (.bl true)))))))
def fs__law_kept (K : PySem.W.Frag) : FS := fsD2 fun x y P _ => ∃ up ac T W, Tab x up ac T ∧ Wsh y up ac W ∧ P (.bool (fulB up ac T W))
theorem body__law_kept {K : PySem.W.Frag} {mg : Str → Option Value} (T : Txt K mg) (E : XK) : ∀ (as : List AV) (P : D → Prop) (PX : XD → Prop), fs__law_kept K as P PX → SatS (cn K E PX) (t__law_kept K E) (gin as 5) (den P) := bD2 fun x y P PX q => by
  obtain ⟨up, ac, T, W, tb, wb, q⟩ := q
  obtain ⟨rs, h1, h2, h3⟩ := id tb.g
  obtain ⟨ws, k1, k2, k3⟩ := id wb.g
  obtain ⟨r0, xs0, b1, b2, b3, _⟩ := h3 0 (by have := tb.u1; omega)
  have u4 := tb.u4
  have a4 := tb.a4
  have ql : (up - 1) * (ac - 1) ≤ 4 * 4 := Nat.mul_le_mul (by omega) (by omega)
  have fail : (clB up ac T = false ∨ nzB up ac T W = false ∨ outAll up ac T W = false) → P (.bool false) := fun h => by
    have : fulB up ac T W = false := by
      unfold fulB
      rcases h with h | h | h <;> rw [h] <;> simp
    rw [this] at q
    exact q
  unfold t__law_kept
  refine sat_seq (sat_for (ei_rng1 ?_))
  walk_at "dl"
  refine kc_lenR h1 ?_
  walk_at "dl"
  rw [h2]
  refine ⟨_, rfl, by omega, by omega, ?_⟩
  rw [Int.toNat_natCast]
  refine ⟨fun n G' => (∀ j, j < n → ∀ i, i < ac → crnB T W j i = true) ∧ ∃ s2 s3, G' = ⟨[.d x, .d y, s2, s3, .any, .any, .any], []⟩, ⟨fun j hj => by omega, .any, .any, rfl⟩, ?_, ?_⟩
  · rintro n z G' hz ⟨hk, s2, s3, rfl⟩
    obtain ⟨hn, rfl⟩ := rngD_of hz
    obtain ⟨r, xs, d1, d2, d3, d4⟩ := h3 n hn
    obtain ⟨w, ys, e1, e2, e3, e4⟩ := k3 n hn
    walk_at "dl"
    refine sat_for (ei_rng1 ?_)
    walk_at "dl"
    refine ix_row (n := 0) h1 rfl b1 ?_
    walk_at "dl"
    refine kc_lenR b2 ?_
    walk_at "dl"
    rw [b3]
    refine ⟨_, rfl, by omega, by omega, ?_⟩
    rw [Int.toNat_natCast]
    refine ⟨fun m G' => (∀ i, i < m → crnB T W n i = true) ∧ ∃ s3, G' = ⟨[.d x, .d y, .d (.int (0 + (n : Int))), s3, .any, .any, .any], []⟩, ⟨fun j hj => by omega, s3, rfl⟩, ?_, ?_⟩
    · rintro m z G' hz ⟨hkm, s3, rfl⟩
      obtain ⟨hm, rfl⟩ := rngD_of hz
      have o := tb.ok n m hn hm
      obtain ⟨os1, os2, op1, op2⟩ := id o
      walk_at "dl"
      refine ix_row (n := n) h1 (by omega) d1 ?_
      walk_at "dl"
      refine ix_row (n := m) d2 (by omega) (d4 m hm) ?_
      unfold prP prD
      walk_at "dl"
      refine ix_row (n := n) h1 (by omega) d1 ?_
      walk_at "dl"
      refine ix_row (n := m) d2 (by omega) (d4 m hm) ?_
      unfold prP prD
      walk_at "dl"
      refine ⟨o.p1, o.p2, ?_⟩
      walk_at "dl"
      refine ix_row (n := n) k1 (by omega) e1 ?_
      walk_at "dl"
      refine ix_row (n := m) e2 (by omega) (e4 m hm) ?_
      walk_at "dl"
      refine k2_ix (xs := [fr (f1 (T n m).1 (T n m).2), fr (f2 (T n m).1 (T n m).2)]) (x := fr (tf (T n m).1 (T n m).2 (W n m))) (.inr rfl) ?_ ?_
      · rcases wb.ok n m hn hm with e | e <;> rw [e] <;> rfl
      walk_at "dl"
      refine ⟨fun h => ?_, fun h => ?_⟩
      · walk_at "dl"
        have : crnB T W n m = false := by
          unfold crnB
          have := Rat.num_eq_zero.mp (of_decide_eq_true h)
          simp [this]
        exact fail (.inr (.inl (nz_false hn hm this)))
      · walk_at "dl"
        have hf : crnB T W n m = true := by
          unfold crnB
          have h5 := of_decide_eq_false h
          have : tf (T n m).1 (T n m).2 (W n m) ≠ 0 := fun z => h5 (by rw [z]; rfl)
          simp [this]
        refine ⟨fun i hi => ?_, .d (.int (0 + (m : Int))), rfl⟩
        by_cases e : i = m
        · subst e; exact hf
        · exact hkm i (by omega)
    · rintro G' ⟨hkm, s3, rfl⟩
      rw [rngD_len] at hkm
      refine ⟨fun j hj => ?_, .d (.int (0 + (n : Int))), s3, rfl⟩
      by_cases e : j = n
      · subst e; exact hkm
      · exact hk j (by omega)
  · rintro G' ⟨hk, s2, s3, rfl⟩
    rw [rngD_len] at hk
    have nzt := nz_true hk
    have nz : ∀ j i, j < up → i < ac → tf (T j i).1 (T j i).2 (W j i) ≠ 0 := fun j i hj hi => of_decide_eq_true (hk j hj i hi)
    walk_at "dl"
    refine ⟨up, ac, _, GridD.of tb.g, tb.u1, tb.u4, tb.a1, tb.a4, ?_⟩
    walk_at "dl"
    refine ⟨up, ac, _, GridD.of wb.g, tb.u1, tb.u4, tb.a1, tb.a4, ?_⟩
    walk_at "dl"
    refine sat_for (ei_rng1 ?_)
    walk_at "dl"
    refine ⟨_, rfl, by rw [quads_len, flat_len]; omega, by omega, ?_⟩
    rw [Int.toNat_natCast, quads_len]
    refine ⟨fun n G' => (∀ k, k < n → ∀ z, (cellsD (up - 1) (ac - 1))[k]? = some z → (atZ (clAt T) z && atZ (outB T W) z) = true) ∧ ∃ s, G' = ⟨[.d x, .d y, s2, s3, .d (.list (quadsL up ac fun j i => prP (T j i))), .d (.list (quadsL up ac fun j i => .int (W j i))), s], []⟩, ⟨fun k hk => by omega, .any, rfl⟩, ?_, ?_⟩
    · rintro n z G' hz ⟨hkk, s, rfl⟩
      obtain ⟨hn, rfl⟩ := rngD_of hz
      have hq1 : n < (quadsL up ac fun j i => prP (T j i)).length := by rw [quads_len]; exact hn
      have hq2 : n < (quadsL up ac fun j i => PyData.int (W j i)).length := by rw [quads_len]; exact hn
      obtain ⟨i, j, hi, hj, hc, e1⟩ := quads_at (List.getElem?_eq_getElem hq1)
      obtain ⟨i', j', hi', hj', hc', e2⟩ := quads_at (List.getElem?_eq_getElem hq2)
      rw [hc] at hc'
      simp only [Option.some.injEq, PyData.tuple.injEq, List.cons.injEq, PyData.int.injEq, and_true] at hc'
      have ei : i' = i := by omega
      have ej : j' = j := by omega
      subst ei ej
      have g1 := List.getElem?_eq_getElem hq1
      have g2 := List.getElem?_eq_getElem hq2
      rw [e1] at g1
      rw [e2] at g2
      have o1 := tb.ok j' i' (by omega) (by omega)
      have o2 := tb.ok j' (i' + 1) (by omega) (by omega)
      have o3 := tb.ok (j' + 1) (i' + 1) (by omega) (by omega)
      have o4 := tb.ok (j' + 1) i' (by omega) (by omega)
      have ez : atZ (clAt T) (.tuple [.int i', .int j']) = decide (closes (T j' i').1 (T j' (i' + 1)).2 (T (j' + 1) (i' + 1)).1 (T (j' + 1) i').2) := rfl
      have eo : atZ (outB T W) (.tuple [.int i', .int j']) = outB T W j' i' := rfl
      have ro := round_iff (nz j' i' (by omega) (by omega)) (nz j' (i' + 1) (by omega) (by omega)) (nz (j' + 1) (i' + 1) (by omega) (by omega)) (nz (j' + 1) i' (by omega) (by omega))
      walk_at "dl"
      refine k2_ix (.inl rfl) (atI_int (n := n) (by omega) g1) ?_
      walk_at "dl"
      refine ⟨_, _, _, _, _, _, _, _, rfl, o1.s1, o2.s2, o3.s1, o4.s2, o1.p1, o2.p2, o3.p1, o4.p2, ?_⟩
      walk_at "dl"
      cases hcl : decide (closes (T j' i').1 (T j' (i' + 1)).2 (T (j' + 1) (i' + 1)).1 (T (j' + 1) i').2) with
      | false =>
        walk_at "dl"
        refine fail (.inl ?_)
        unfold clB
        rw [← cells_all']
        exact not_all hc (ez.trans hcl)
      | true =>
      walk_at "dl"
      refine k2_ix (.inl rfl) (atI_int (n := n) (by omega) g1) ?_
      walk_at "dl"
      refine k2_ix (.inl rfl) (atI_int (n := n) (by omega) g2) ?_
      walk_at "dl"
      refine ⟨_, _, _, _, _, _, _, _, _, _, _, _, rfl, rfl, ⟨o1.s1, o1.s2, o1.p1, o1.p2⟩, ⟨o2.s1, o2.s2, o2.p1, o2.p2⟩, ⟨o3.s1, o3.s2, o3.p1, o3.p2⟩, ⟨o4.s1, o4.s2, o4.p1, o4.p2⟩, ?_⟩
      rw [decide_eq_decide.mpr ro]
      walk_at "dl"
      have eo2 : outB T W j' i' = decide (quo (T j' i').1 (T j' i').2 (W j' i') 0 1 * quo (T j' (i' + 1)).1 (T j' (i' + 1)).2 (W j' (i' + 1)) 1 2 * quo (T (j' + 1) i').1 (T (j' + 1) i').2 (W (j' + 1) i') 3 0 * quo (T (j' + 1) (i' + 1)).1 (T (j' + 1) (i' + 1)).2 (W (j' + 1) (i' + 1)) 2 3 = 1) := rfl
      rw [← eo2]
      cases ho : outB T W j' i' with
      | false =>
        walk_at "dl"
        refine fail (.inr (.inr ?_))
        unfold outAll
        rw [← cells_all']
        exact not_all hc (eo.trans ho)
      | true =>
        walk_at "dl"
        refine ⟨take_all (f := fun z => atZ (clAt T) z && atZ (outB T W) z) hkk hc (by rw [ez, eo, hcl, ho]; rfl), .d (.int (0 + (n : Int))), rfl⟩
    · rintro G' ⟨hkk, s, rfl⟩
      rw [rngD_len] at hkk
      walk_at "dl"
      have all2 := all_of_take (f := fun z => atZ (clAt T) z && atZ (outB T W) z) hkk
      rw [List.all_eq_true] at all2
      have c1 : clB up ac T = true := by
        unfold clB
        rw [← cells_all', List.all_eq_true]
        intro z hz
        have := all2 z hz
        simp only [Bool.and_eq_true] at this
        exact this.1
      have c2 : outAll up ac T W = true := by
        unfold outAll
        rw [← cells_all', List.all_eq_true]
        intro z hz
        have := all2 z hz
        simp only [Bool.and_eq_true] at this
        exact this.2
      have : fulB up ac T W = true := by unfold fulB; rw [c1, c2, nzt]; rfl
      rw [this] at q
      exact q
section
variable {P : Program} {w : World} {K : PySem.W.Frag} {mg : Str → Option Value} {base : Heap}
theorem ok__law_kept {fd : FuncData} (F : FnP K "_law_kept" s__law_kept fd) (T : Txt K mg) (c__law_closed : Cal P w K mg base 4 "_law_closed" ["quad"] (fs__law_closed K)) (c__law_fraction_pair : Cal P w K mg base 3 "_law_fraction_pair" ["first", "second"] (fs__law_fraction_pair K)) (c__law_quads : Cal P w K mg base 1 "_law_quads" ["table"] (fs__law_quads K)) (c__law_rounds : Cal P w K mg base 5 "_law_rounds" ["quad", "lines"] (fs__law_rounds K)) : FnOk P w K mg base (L2.CX P w) 6 (He.ga K "_law_kept") fd ["table", "wish"] (spF K (fs__law_kept K)) := by
  refine fn_ok (k := 5) F sc__law_kept len_D2 (by decide) (t__law_kept K) (fun cdv A outer s H E hr => ?_) (body__law_kept T)
  exact (pss_cons (ps_for (passes_of rfl) rfl (pi_range1 (by rfl) T.n_range (pa_cons (pe_callB call_len (by rfl) T.n_len (by decide +kernel) (pa_cons (pv 0) pa_nil)) pa_nil)) (pg_name (i := 2) sc__law_kept.nd rfl (Or.inl rfl)) (pss_one (ps_for (passes_of rfl) rfl (pi_range1 (by rfl) T.n_range (pa_cons (pe_callB call_len (by rfl) T.n_len (by decide +kernel) (pa_cons (pe_ix ix_seq (pv 0) pe_int (fun _ _ => rfl)) pa_nil)) pa_nil)) (pg_name (i := 3) sc__law_kept.nd rfl (Or.inl rfl)) (pss_one (ps_if (pt_cmpR (op_eqD hr.units) (pe_ix ix_seq (pe_ix ix_seq (pe_cal c__law_fraction_pair hr (by decide) rfl (pa_cons (pe_ix ix_seq (pe_ix ix_seq (pe_ix ix_seq (pv 0) (pv 2) (fun _ _ => rfl)) (pv 3) (fun _ _ => rfl)) pe_int (fun _ _ => rfl)) (pa_cons (pe_ix ix_seq (pe_ix ix_seq (pe_ix ix_seq (pv 0) (pv 2) (fun _ _ => rfl)) (pv 3) (fun _ _ => rfl)) pe_int (fun _ _ => rfl)) pa_nil))) (pe_op op_sub (pe_ix ix_seq (pe_ix ix_seq (pv 1) (pv 2) (fun _ _ => rfl)) (pv 3) (fun _ _ => rfl)) pe_int) (fun _ _ => rfl)) pe_int (fun _ _ => rfl)) pe_int (nomark _)) (pss_one (ps_ret pe_bl)) pss_nil)))))
  (pss_cons (ps_set (i := 4) sc__law_kept.nd rfl (Or.inl rfl) (pe_cal c__law_quads hr (by decide) rfl (pa_cons (pv 0) pa_nil)))
  (pss_cons (ps_set (i := 5) sc__law_kept.nd rfl (Or.inl rfl) (pe_cal c__law_quads hr (by decide) rfl (pa_cons (pv 1) pa_nil)))
  (pss_cons (ps_for (passes_of rfl) rfl (pi_range1 (by rfl) T.n_range (pa_cons (pe_callB call_len (by rfl) T.n_len (by decide +kernel) (pa_cons (pv 4) pa_nil)) pa_nil)) (pg_name (i := 6) sc__law_kept.nd rfl (Or.inl rfl)) (pss_one (ps_if (PW.pt (pw_or (pt_not (pt_val (pe_cal c__law_closed hr (by decide) rfl (pa_cons (pe_ix ix_seq (pv 4) (pv 6) (fun _ _ => rfl)) pa_nil)))) (pw_or1 (pt_not (pt_val (pe_cal c__law_rounds hr (by decide) rfl (pa_cons (pe_ix ix_seq (pv 4) (pv 6) (fun _ _ => rfl)) (pa_cons (pe_ix ix_seq (pv 5) (pv 6) (fun _ _ => rfl)) pa_nil)))))))) (pss_one (ps_ret pe_bl)) pss_nil)))
  (pss_one (ps_ret pe_bl))))))
end
end X85
end
section
namespace X85
open PySem L2 DL
local macro_rules | `(tactic| walk_at "bi") => `(tactic| first
  | assumption
  | exact Sz.nb (by assumption) (by decide) | exact Sz.db (by assumption) (by decide)
  | (unfold Bi; decide))
local macro_rules | `(tactic| walk_at "sz0") => `(tactic| first
  | assumption
  | exact Sz.one | exact Sz.zero
  | ((apply Sz.neg); (· walk_at "sz0"))
  | ((apply Sz.mul); (· walk_at "sz0"); (· walk_at "sz0"))
  | ((apply Sz.add); (· walk_at "sz0"); (· walk_at "sz0"))
  | ((apply Sz.sub); (· walk_at "sz0"); (· walk_at "sz0"))
  | ((apply Sz.div); (· walk_at "sz0"); (· walk_at "sz0"); (· assumption)))
local macro_rules | `(tactic| walk_at "sz") => `(tactic| first | assumption | ((apply Sz.mono); (· walk_at "sz0"); (· decide)))
local macro_rules | `(tactic| walk_at "d1") => `(tactic| first
  | refine sat_retHot rfl rfl ?_
  | with_reducible refine sat_seq ?_ | with_reducible refine sat_drop ?_ | with_reducible refine sat_if ?_ | with_reducible refine sat_ret ?_ | with_reducible refine sat_retN ?_ | with_reducible refine sat_next ?_ | with_reducible refine sat_par ?_
  | with_reducible refine sat_asgHot (el_lst (ea_nil ⟨_, rfl, Nat.le_of_ble_eq_true rfl, ?_⟩))
  | refine sat_setSt _ rfl (by decide) ?_ | refine sat_append rfl rfl (by simp) ?_
  | with_reducible refine sat_asg ?_ | with_reducible refine sat_asgG ?_ | with_reducible refine eg_tup4 ?_ | with_reducible refine eg_tup2 ?_ | with_reducible refine eg_name ?_
  | with_reducible refine evt_of ?_ | with_reducible refine evt_B ?_ | with_reducible refine evt_and ?_ | with_reducible refine evt_or ?_ | with_reducible refine evt_not ?_ | with_reducible refine evt_yes ?_
  | ((with_reducible apply ev_var); · exact rfl)
  | with_reducible refine ev_int ?_ | with_reducible refine ev_str ?_ | with_reducible refine ev_bl ?_ | with_reducible refine ev_non ?_
  | refine ev_stI _ rfl (by decide) ?_ | refine ev_stL rfl ?_
  | refine ev_ixHot rfl rfl ?_ | refine ev_lenHot rfl rfl ?_
  | with_reducible refine ev_op ?_ | with_reducible refine ev_neg ?_ | with_reducible refine ev_and ?_ | with_reducible refine ev_or ?_ | with_reducible refine ev_not ?_ | with_reducible refine ev_if ?_ | with_reducible refine ev_chain ?_
  | with_reducible refine ev_tup ?_ | with_reducible refine ev_call ?_ | with_reducible refine ev_callS ?_ | with_reducible refine ev_callKS ?_
  | refine ev_isiT (ns := ["list", "tuple"]) (by decide) ?_
  | with_reducible refine ev_cb ?_
  | with_reducible refine ea_nil ?_ | refine ea_val (v := .ty _) ?_ | ((with_reducible apply ea_st); · exact rfl) | with_reducible refine ea_cons ?_
  | refine ev_int ?_
  | refine ix_fr0 ?_ | refine ix_fr1 ?_ | refine k2_ix (.inl rfl) rfl ?_ | refine k2_ix (.inr rfl) rfl ?_
  | refine k2_mul (bi_mulOk (n := 9000) (m := 9000) (by walk_at "bi") (by walk_at "bi") (by decide)) ?_
  | refine k2_add ?_
  | refine k2_eqI ?_ | refine k2_neI ?_ | refine k2_eqF ?_ | refine k2_eqF2 ?_ | refine k2_neB ?_ | refine k2_is ?_ | refine k2_isnot ?_ | refine k2_isB ?_
  | refine k2_IB ?_ | refine k2_II ?_
  | refine kc_abs ?_ | refine kc_intI ?_ | refine kc_isi rfl ?_ | refine kc_len rfl ?_ | refine kc_all ?_
  | refine tup_one ?_ | refine tup_zero ?_ | refine tup_m1 ?_ | refine tup_neg ?_ | refine tup_any rfl (Nat.le_of_ble_eq_true rfl) ?_
  | refine tt_split ?_ | refine ff_split ?_
  | refine bool_any ?_ | refine int_any ?_ | refine fr_any ?_ | refine ⟨_, _, rfl, ?_⟩
  | ((refine cD1 ?_); (try dsimp only)) | ((refine cD2 ?_); (try dsimp only)) | ((refine cD3 ?_); (try dsimp only)) | ((refine cD4 ?_); (try dsimp only)) | ((refine cS0 ?_); (try dsimp only)) | ((refine cS1 ?_); (try dsimp only)) | ((refine cS2 ?_); (try dsimp only)) | ((refine cS3 ?_); (try dsimp only))
  | refine sz_and (by walk_at "sz") ?_
  | refine take_and (by first | decide | omega) (by first | decide | omega) ?_
  | refine ne_and (by assumption) ?_
  | refine ev_c (rp_ONE (by assumption)) ?_ | refine ev_c (rp_ZERO (by assumption)) ?_
  | refine ⟨_, _, rfl, rfl, ?_⟩ | refine ⟨_, _, _, rfl, rfl, rfl, ?_⟩ | refine ⟨_, _, _, _, rfl, rfl, rfl, rfl, ?_⟩)
local macro_rules | `(tactic| walk_at "dl") => `(tactic| repeat (walk_at "d1"))

/-- bounded where it may be a fraction, an entry, a row, a table -/
def BdF (d : D) : Prop := ∀ a b : Int, d = .tuple [.int a, .int b] → Bi 200 a ∧ Bi 200 b
def BdS (d : D) : Prop := ∀ a b : D, d = .tuple [a, b] → BdF a ∧ BdF b
def BdR (d : D) : Prop := ∀ xs, rowD d = some xs → ∀ x ∈ xs, BdS x
def BdT (d : D) : Prop := ∀ xs, rowD d = some xs → ∀ x ∈ xs, BdR x
theorem eqv_frI {q : Rat} {a b : Int} : PyData.eqv (fr q) (.tuple [.int a, .int b]) = (decide (q.num = a) && decide ((q.den : Int) = b)) := by
  unfold fr
  simp only [PyData.eqv, PyData.eqvAll, Bool.and_true]
  congr 1 <;> (apply Bool.eq_iff_iff.mpr; simp)
theorem shp_ii {a b : Int} : SeqAt.shaped (.tuple [.int a, .int b]) = true := by simp [SeqAt.shaped, PyData.canLay0, PyData.canLayAll0, PyData.depth, PyData.depthAll]
def t__law_is_fraction (K : PySem.W.Frag) (E : XK) : TS :=
  (tSeq (tIfS (tOr (tNot (tB (tCB (rIsi K) (tCons (tVar 0) (tCons (tC (.ty "tuple")) tNil))))) (tTest (tOp (rNeD K) (tCB (rLenB K) (tCons (tVar 0) tNil)) (tC (.int 2))))) (tRet (tC (.bl false))) tNext)
  (tSeq (tFor (iAny K (tVar 0)) (gName 1) (tIfS (tOr (tNot (tB (tCB (rIsi K) (tCons (tVar 1) (tCons (tC (.ty "int")) tNil))))) (tB (tCB (rIsi K) (tCons (tVar 1) (tCons (tC (.ty "bool")) tNil))))) (tRet (tC (.bl false))) tNext))
  (tRet (tAndV (tOp rGeI (tOp (rIx K) (tVar 0) (tC (.int 1))) (tC (.int 1))) (tOp (rEqD K) (tCall (spF K (fs__law_low K)) [] E0 (tCons (tOp (rIx K) (tVar 0) (tC (.int 0))) (tCons (tOp (rIx K) (tVar 0) (tC (.int 1))) tNil))) (tVar 0))))))
def fs__law_is_fraction (K : PySem.W.Frag) : FS := fsD1 fun x P _ => BdF x ∧ P (.bool (frD x).isSome)
theorem frI_eq {a b : Int} (h : 1 ≤ b) : (frD (.tuple [.int a, .int b])).isSome = (decide ((Rat.divInt a b).num = a) && decide (((Rat.divInt a b).den : Int) = b)) := by
  have b0 : b ≠ 0 := by omega
  have bn : ¬ b < 0 := by omega
  have e1 := low_num (a := a) b0
  have e2 := low_den (a := a) b0
  rw [if_neg bn] at e1 e2
  have g0 := gcdI_pos (a := a) (b := b) (.inr b0)
  simp only [frD, fr2]
  by_cases hg : gcdI a b = 1
  · rw [hg] at e1 e2
    rw [if_pos ⟨h, hg⟩, ← e1, ← e2]
    simp
  · rw [if_neg fun z => hg z.2]
    have : ((Rat.divInt a b).den : Int) ≠ b := by
      rw [← e2]
      intro z
      have d : gcdI a b ∣ b := by unfold gcdI; exact Int.gcd_dvd_right ..
      generalize gcdI a b = g at *
      obtain ⟨k, rfl⟩ := d
      rw [Int.mul_fdiv_cancel_left _ (by omega)] at z
      have k0 : k ≠ 0 := fun y => b0 (by rw [y]; simp)
      have : (g - 1) * k = 0 := by rw [Int.sub_mul]; omega
      rcases Int.mul_eq_zero.mp this with y | y
      · exact hg (by omega)
      · exact k0 y
    rw [decide_eq_false this]
    simp
theorem body__law_is_fraction {K : PySem.W.Frag} {mg : Str → Option Value} (T : Txt K mg) (E : XK) : ∀ (as : List AV) (P : D → Prop) (PX : XD → Prop), fs__law_is_fraction K as P PX → SatS (cn K E PX) (t__law_is_fraction K E) (gin as 1) (den P) := bD1 fun x P PX q => by
  obtain ⟨bd, q⟩ := q
  unfold t__law_is_fraction
  cases x with
  | tuple xs =>
    walk_at "dl"
    refine ⟨fun h => ?_, fun h => ?_⟩
    · walk_at "dl"
      rw [frD_len (by intro z; simp [z] at h)] at q
      exact q
    obtain ⟨a, b, rfl⟩ := len2 (xs := xs) (by simp at h; omega)
    walk_at "dl"
    refine sat_for (ei_any (ev_var rfl ⟨_, rfl, fun n G' => (∀ k, k < n → ∀ z, [a, b][k]? = some z → isIntD z = true) ∧ ∃ s, G' = ⟨[.d (.tuple [a, b]), s], []⟩, ⟨fun k hk => by omega, .any, rfl⟩, ?_, ?_⟩))
    · rintro n z G' hz ⟨hk, s, rfl⟩
      have fail : isIntD z = false → P (.bool false) := fun hh => by
        have e : frD (.tuple [a, b]) = none := by
          have m := List.mem_of_getElem? hz
          simp only [List.mem_cons, List.not_mem_nil, or_false] at m
          rcases m with rfl | rfl
          · exact frD_l hh
          · exact frD_r hh
        rw [e] at q
        exact q
      cases z with
      | int i =>
        walk_at "dl"
        exact ⟨take_all hk hz rfl, .d (.int i), rfl⟩
      | _ => walk_at "dl"; exact fail rfl
    · rintro G' ⟨hk, s, rfl⟩
      have ia := hk 0 (by simp) a rfl
      have ib := hk 1 (by simp) b rfl
      rcases isInt_cases a with h | ⟨i, rfl⟩
      · rw [h] at ia; cases ia
      rcases isInt_cases b with h | ⟨j, rfl⟩
      · rw [h] at ib; cases ib
      obtain ⟨bi, bj⟩ := bd i j rfl
      walk_at "dl"
      refine ⟨fun h => ?_, fun h => ?_⟩
      · have hj := of_decide_eq_true h
        walk_at "dl"
        refine ⟨by omega, bj.mono (by decide), ?_⟩
        walk_at "dl"
        refine k2_eq shp_fr shp_ii ?_
        rw [eqv_frI, ← frI_eq (by omega)]
        exact q
      · have hj := of_decide_eq_false h
        have : frD (.tuple [.int i, .int j]) = none := by
          simp only [frD, fr2]
          rw [if_neg]
          omega
        rw [this] at q
        exact q
  | _ => walk_at "dl"; exact q
section
variable {P : Program} {w : World} {K : PySem.W.Frag} {mg : Str → Option Value} {base : Heap}
theorem ok__law_is_fraction {fd : FuncData} (F : FnP K "_law_is_fraction" s__law_is_fraction fd) (T : Txt K mg) (c__law_low : Cal P w K mg base 1 "_law_low" ["top", "bottom"] (fs__law_low K)) : FnOk P w K mg base (L2.CX P w) 2 (He.ga K "_law_is_fraction") fd ["thing"] (spF K (fs__law_is_fraction K)) := by
  refine fn_ok (k := 1) F sc__law_is_fraction len_D1 (by decide) (t__law_is_fraction K) (fun cdv A outer s H E hr => ?_) (body__law_is_fraction T)
  exact (pss_cons (ps_if (PW.pt (pw_or (pt_not (pt_val (pe_callB call_isi (by rfl) T.n_isinstance (by decide +kernel) (pa_cons (pv 0) (pa_cons (pe_bltn (v := .ty "tuple") (u := .type "tuple") rfl T.n_tuple (by decide +kernel) rfl) pa_nil))))) (pw_or1 (pt_cmpR (op_neD hr.units) (pe_callB call_len (by rfl) T.n_len (by decide +kernel) (pa_cons (pv 0) pa_nil)) pe_int (nomark _))))) (pss_one (ps_ret pe_bl)) pss_nil)
  (pss_cons (ps_for (passes_of rfl) rfl (pi_any (pv 0)) (pg_name (i := 1) sc__law_is_fraction.nd rfl (Or.inl rfl)) (pss_one (ps_if (PW.pt (pw_or (pt_not (pt_val (pe_callB call_isi (by rfl) T.n_isinstance (by decide +kernel) (pa_cons (pv 1) (pa_cons (pe_bltn (v := .ty "int") (u := .type "int") rfl T.n_int (by decide +kernel) rfl) pa_nil))))) (pw_or1 (pt_val (pe_callB call_isi (by rfl) T.n_isinstance (by decide +kernel) (pa_cons (pv 1) (pa_cons (pe_bltn (v := .ty "bool") (u := .type "bool") rfl T.n_bool (by decide +kernel) rfl) pa_nil))))))) (pss_one (ps_ret pe_bl)) pss_nil)))
  (pss_one (ps_ret (pe_and (pe_cmpR op_ge (pe_ix ix_seq (pv 0) pe_int (fun _ _ => rfl)) pe_int (nomark _)) (pe_one (pe_cmpR (op_eqD hr.units) (pe_cal c__law_low hr (by decide) rfl (pa_cons (pe_ix ix_seq (pv 0) pe_int (fun _ _ => rfl)) (pa_cons (pe_ix ix_seq (pv 0) pe_int (fun _ _ => rfl)) pa_nil))) (pv 0) (nomark _))))))))
end
def t__law_is_slant (K : PySem.W.Frag) (E : XK) : TS :=
  (tSeq (tIfS (tOr (tNot (tB (tCB (rIsi K) (tCons (tVar 0) (tCons (tC (.ty "tuple")) tNil))))) (tTest (tOp (rNeD K) (tCB (rLenB K) (tCons (tVar 0) tNil)) (tC (.int 2))))) (tRet (tC (.bl false))) tNext)
  (tRet (tAndV (tCall (spF K (fs__law_is_fraction K)) [] E0 (tCons (tOp (rIx K) (tVar 0) (tC (.int 0))) tNil)) (tAndV (tCall (spF K (fs__law_is_fraction K)) [] E0 (tCons (tOp (rIx K) (tVar 0) (tC (.int 1))) tNil)) (tAndV (tOp rGtI (tOp (rIx K) (tOp (rIx K) (tVar 0) (tC (.int 0))) (tC (.int 0))) (tC (.int 0))) (tOp rGtI (tOp (rIx K) (tOp (rIx K) (tVar 0) (tC (.int 1))) (tC (.int 0))) (tC (.int 0))))))))
def fs__law_is_slant (K : PySem.W.Frag) : FS := fsD1 fun x P _ => BdS x ∧ P (.bool (angD x))
theorem body__law_is_slant {K : PySem.W.Frag} {mg : Str → Option Value} (T : Txt K mg) (E : XK) : ∀ (as : List AV) (P : D → Prop) (PX : XD → Prop), fs__law_is_slant K as P PX → SatS (cn K E PX) (t__law_is_slant K E) (gin as 0) (den P) := bD1 fun x P PX q => by
  obtain ⟨bd, q⟩ := q
  unfold t__law_is_slant
  cases x with
  | tuple xs =>
    walk_at "dl"
    refine ⟨fun h => ?_, fun h => ?_⟩
    · walk_at "dl"
      rw [angD_len (by intro z; simp [z] at h)] at q
      exact q
    obtain ⟨a, b, rfl⟩ := len2 (xs := xs) (by simp at h; omega)
    obtain ⟨ba, bb⟩ := bd a b rfl
    walk_at "dl"
    refine ⟨ba, ?_⟩
    walk_at "dl"
    cases ha : frD a with
    | none =>
      walk_at "dl"
      have : angD (.tuple [a, b]) = false := by show (posF a && posF b) = false; rw [posF_none ha]; rfl
      rw [this] at q
      exact q
    | some p =>
    walk_at "dl"
    refine ⟨bb, ?_⟩
    walk_at "dl"
    cases hb : frD b with
    | none =>
      walk_at "dl"
      have : angD (.tuple [a, b]) = false := by show (posF a && posF b) = false; rw [posF_none hb]; simp
      rw [this] at q
      exact q
    | some r =>
      have e : angD (.tuple [a, b]) = (decide (0 < p) && decide (0 < r)) := by show (posF a && posF b) = _; rw [posF_some ha, posF_some hb]
      rw [e] at q
      have ea := frD_some ha
      have eb := frD_some hb
      subst ea eb
      walk_at "dl"
      rw [dec_pos]
      refine ⟨fun h1 => ?_, fun h1 => ?_⟩
      · walk_at "dl"
        rw [dec_pos]
        rw [h1] at q
        exact q
      · rw [h1] at q
        exact q
  | _ => walk_at "dl"; exact q
section
variable {P : Program} {w : World} {K : PySem.W.Frag} {mg : Str → Option Value} {base : Heap}
theorem ok__law_is_slant {fd : FuncData} (F : FnP K "_law_is_slant" s__law_is_slant fd) (T : Txt K mg) (c__law_is_fraction : Cal P w K mg base 2 "_law_is_fraction" ["thing"] (fs__law_is_fraction K)) : FnOk P w K mg base (L2.CX P w) 3 (He.ga K "_law_is_slant") fd ["thing"] (spF K (fs__law_is_slant K)) := by
  refine fn_ok (k := 2) F sc__law_is_slant len_D1 (by decide) (t__law_is_slant K) (fun cdv A outer s H E hr => ?_) (body__law_is_slant T)
  exact (pss_cons (ps_if (PW.pt (pw_or (pt_not (pt_val (pe_callB call_isi (by rfl) T.n_isinstance (by decide +kernel) (pa_cons (pv 0) (pa_cons (pe_bltn (v := .ty "tuple") (u := .type "tuple") rfl T.n_tuple (by decide +kernel) rfl) pa_nil))))) (pw_or1 (pt_cmpR (op_neD hr.units) (pe_callB call_len (by rfl) T.n_len (by decide +kernel) (pa_cons (pv 0) pa_nil)) pe_int (nomark _))))) (pss_one (ps_ret pe_bl)) pss_nil)
  (pss_one (ps_ret (pe_and (pe_cal c__law_is_fraction hr (by decide) rfl (pa_cons (pe_ix ix_seq (pv 0) pe_int (fun _ _ => rfl)) pa_nil)) (pe_and (pe_cal c__law_is_fraction hr (by decide) rfl (pa_cons (pe_ix ix_seq (pv 0) pe_int (fun _ _ => rfl)) pa_nil)) (pe_and (pe_cmpR op_gt (pe_ix ix_seq (pe_ix ix_seq (pv 0) pe_int (fun _ _ => rfl)) pe_int (fun _ _ => rfl)) pe_int (nomark _)) (pe_one (pe_cmpR op_gt (pe_ix ix_seq (pe_ix ix_seq (pv 0) pe_int (fun _ _ => rfl)) pe_int (fun _ _ => rfl)) pe_int (nomark _)))))))))
end
/-- what a row of a table must be -/
def rowOk (l : Nat) (r : D) : Bool := rowT r && decide (rowLen r = l)
theorem tabD_eq {d : D} {rs : List D} (h : rowD d = some rs) : isTabD d = (decide (1 ≤ rs.length) && (decide (rs.length ≤ 4) && rs.all (rowOk (rowLen (rs.getD 0 .none))))) := by
  unfold isTabD
  rw [h]
  dsimp only
  congr 2
  apply Bool.eq_iff_iff.mpr
  simp only [Bool.and_eq_true, List.all_eq_true, rowOk]
  exact ⟨fun h x hx => ⟨h.1 x hx, h.2 x hx⟩, fun h => ⟨fun x hx => (h x hx).1, fun x hx => (h x hx).2⟩⟩
def t__law_is_table (K : PySem.W.Frag) (E : XK) : TS :=
  (tSeq (tIfS (tOr (tNot (tB (tCB (rIsiT K) (tCons (tVar 0) (tCons (tTup (tCons (tC (.ty "list")) (tCons (tC (.ty "tuple")) tNil))) tNil))))) (tNot (tTest (tChain rLeI rLeI (tC (.int 1)) (tCB (rLenB K) (tCons (tVar 0) tNil)) (tC (.int 4)))))) (tRet (tC (.bl false))) tNext)
  (tSeq (tFor (iAny K (tVar 0)) (gName 1) (tSeq (tIfS (tOr (tNot (tB (tCB (rIsiT K) (tCons (tVar 1) (tCons (tTup (tCons (tC (.ty "list")) (tCons (tC (.ty "tuple")) tNil))) tNil))))) (tOr (tNot (tTest (tChain rLeI rLeI (tC (.int 1)) (tCB (rLenB K) (tCons (tVar 1) tNil)) (tC (.int 4))))) (tTest (tOp (rNeD K) (tCB (rLenB K) (tCons (tVar 1) tNil)) (tCB (rLenB K) (tCons (tOp (rIx K) (tVar 0) (tC (.int 0))) tNil)))))) (tRet (tC (.bl false))) tNext)
  (tFor (iAny K (tVar 1)) (gName 2) (tIfS (tNot (tB (tCall (spF K (fs__law_is_slant K)) [] E0 (tCons (tVar 2) tNil)))) (tRet (tC (.bl false))) tNext))))
  (tRet (tC (.bl true)))))
def fs__law_is_table (K : PySem.W.Frag) : FS := fsD1 fun x P _ => BdT x ∧ P (.bool (isTabD x))
theorem body__law_is_table {K : PySem.W.Frag} {mg : Str → Option Value} (T : Txt K mg) (E : XK) : ∀ (as : List AV) (P : D → Prop) (PX : XD → Prop), fs__law_is_table K as P PX → SatS (cn K E PX) (t__law_is_table K E) (gin as 2) (den P) := bD1 fun x P PX q => by
  obtain ⟨bd, q⟩ := q
  unfold t__law_is_table
  walk_at "dl"
  cases hr : rowD x with
  | none =>
    have e1 : kitBs (tyOf x) ["list", "tuple"] = some false := by cases x <;> first | rfl | cases hr
    have e2 : isTabD x = false := by unfold isTabD; rw [hr]
    rw [e2] at q
    refine ⟨_, e1, ?_⟩
    walk_at "dl"
    exact q
  | some rs =>
  have e1 : kitBs (tyOf x) ["list", "tuple"] = some true := by rcases rowD_or hr with rfl | rfl <;> rfl
  rw [tabD_eq hr] at q
  refine ⟨_, e1, ?_⟩
  walk_at "dl"
  refine kc_lenR hr ?_
  walk_at "dl"
  by_cases l1 : 1 ≤ rs.length
  case neg =>
    have e1 : decide (1 ≤ (rs.length : Int)) = false := decide_eq_false (by omega)
    rw [e1]
    rw [decide_eq_false l1] at q
    walk_at "dl"
    exact q
  have e1 : decide (1 ≤ (rs.length : Int)) = true := decide_eq_true (by omega)
  rw [e1]
  rw [decide_eq_true l1] at q
  walk_at "dl"
  by_cases l2 : rs.length ≤ 4
  case neg =>
    have e2 : decide ((rs.length : Int) ≤ 4) = false := decide_eq_false (by omega)
    rw [e2]
    rw [decide_eq_false l2] at q
    walk_at "dl"
    exact q
  have e2 : decide ((rs.length : Int) ≤ 4) = true := decide_eq_true (by omega)
  rw [e2]
  rw [decide_eq_true l2] at q
  walk_at "dl"
  have h0 : rs[0]? = some rs[0] := List.getElem?_eq_getElem l1
  have e0 : rs.getD 0 .none = rs[0] := by rw [List.getD_eq_getElem?_getD, h0]; rfl
  refine sat_for (ei_any (ev_var rfl ⟨rs, rowD_seq hr, fun n G' => (∀ k, k < n → ∀ z, rs[k]? = some z → rowOk (rowLen (rs.getD 0 .none)) z = true) ∧ ∃ s1 s2, G' = ⟨[.d x, s1, s2], []⟩, ⟨fun k hk => by omega, .any, .any, rfl⟩, ?_, ?_⟩))
  · rintro n r G' hn ⟨hk, s1, s2, rfl⟩
    have bdr := bd rs hr r (List.mem_of_getElem? hn)
    have fail : rowOk (rowLen (rs.getD 0 .none)) r = false → P (.bool false) := fun h => by
      rw [not_all hn h] at q
      exact q
    walk_at "dl"
    cases hrr : rowD r with
    | none =>
      have e1 : kitBs (tyOf r) ["list", "tuple"] = some false := by cases r <;> first | rfl | cases hrr
      refine ⟨_, e1, ?_⟩
      walk_at "dl"
      exact fail (by unfold rowOk rowT; rw [hrr]; rfl)
    | some xs =>
    have e1 : kitBs (tyOf r) ["list", "tuple"] = some true := by rcases rowD_or hrr with rfl | rfl <;> rfl
    have rT : rowT r = (decide (1 ≤ xs.length) && (decide (xs.length ≤ 4) && xs.all angD)) := by unfold rowT; rw [hrr]
    refine ⟨_, e1, ?_⟩
    walk_at "dl"
    refine kc_lenR hrr ?_
    walk_at "dl"
    by_cases m1 : 1 ≤ xs.length
    case neg =>
      have e1 : decide (1 ≤ (xs.length : Int)) = false := decide_eq_false (by omega)
      rw [e1]
      walk_at "dl"
      exact fail (by unfold rowOk; rw [rT, decide_eq_false m1]; rfl)
    have e3 : decide (1 ≤ (xs.length : Int)) = true := decide_eq_true (by omega)
    rw [e3]
    walk_at "dl"
    by_cases m2 : xs.length ≤ 4
    case neg =>
      have e2 : decide ((xs.length : Int) ≤ 4) = false := decide_eq_false (by omega)
      rw [e2]
      walk_at "dl"
      exact fail (by unfold rowOk; rw [rT, decide_eq_false m2]; simp)
    have e4 : decide ((xs.length : Int) ≤ 4) = true := decide_eq_true (by omega)
    rw [e4]
    walk_at "dl"
    have fst : ∃ ys, rowD rs[0] = some ys := by
      by_cases hn0 : n = 0
      · subst hn0
        rw [h0] at hn
        cases hn
        exact ⟨xs, hrr⟩
      · have z := hk 0 (by omega) _ h0
        unfold rowOk at z
        simp only [Bool.and_eq_true] at z
        obtain ⟨ys, h, _⟩ := rowT_row z.1
        exact ⟨ys, h⟩
    obtain ⟨ys, hys⟩ := fst
    refine kc_lenR hrr ?_
    walk_at "dl"
    refine ix_row (n := 0) hr rfl h0 ?_
    walk_at "dl"
    refine kc_lenR hys ?_
    walk_at "dl"
    by_cases m3 : xs.length = ys.length
    case neg =>
      have e2 : decide ((xs.length : Int) = ys.length) = false := decide_eq_false (by omega)
      rw [e2]
      walk_at "dl"
      exact fail (by unfold rowOk; rw [e0, rowLen_of hrr, rowLen_of hys, decide_eq_false m3]; simp)
    have e5 : decide ((xs.length : Int) = ys.length) = true := decide_eq_true (by omega)
    rw [e5]
    walk_at "dl"
    refine sat_for (ei_any (ev_var rfl ⟨xs, rowD_seq hrr, fun m G' => (∀ k, k < m → ∀ z, xs[k]? = some z → angD z = true) ∧ ∃ s2, G' = ⟨[.d x, .d r, s2], []⟩, ⟨fun k hk => by omega, s2, rfl⟩, ?_, ?_⟩))
    · rintro m z G' hm ⟨hkm, s2, rfl⟩
      walk_at "dl"
      refine ⟨bdr xs hrr z (List.mem_of_getElem? hm), ?_⟩
      walk_at "dl"
      cases ha : angD z with
      | false =>
        walk_at "dl"
        exact fail (by unfold rowOk; rw [rT, not_all hm ha]; simp)
      | true =>
        walk_at "dl"
        exact ⟨take_all hkm hm ha, .d z, rfl⟩
    · rintro G' ⟨hkm, s2, rfl⟩
      refine ⟨take_all hk hn ?_, .d r, s2, rfl⟩
      unfold rowOk
      rw [rT, all_of_take hkm, decide_eq_true m1, decide_eq_true m2, e0, rowLen_of hrr, rowLen_of hys, decide_eq_true m3]
      rfl
  · rintro G' ⟨hk, s1, s2, rfl⟩
    walk_at "dl"
    rw [all_of_take hk] at q
    exact q
section
variable {P : Program} {w : World} {K : PySem.W.Frag} {mg : Str → Option Value} {base : Heap}
theorem ok__law_is_table {fd : FuncData} (F : FnP K "_law_is_table" s__law_is_table fd) (T : Txt K mg) (c__law_is_slant : Cal P w K mg base 3 "_law_is_slant" ["thing"] (fs__law_is_slant K)) : FnOk P w K mg base (L2.CX P w) 4 (He.ga K "_law_is_table") fd ["thing"] (spF K (fs__law_is_table K)) := by
  refine fn_ok (k := 3) F sc__law_is_table len_D1 (by decide) (t__law_is_table K) (fun cdv A outer s H E hr => ?_) (body__law_is_table T)
  exact (pss_cons (ps_if (PW.pt (pw_or (pt_not (pt_val (pe_callB call_isiT (by rfl) T.n_isinstance (by decide +kernel) (pa_cons (pv 0) (pa_cons (pe_tup (pa_cons (pe_bltn (v := .ty "list") (u := .type "list") rfl T.n_list (by decide +kernel) rfl) (pa_cons (pe_bltn (v := .ty "tuple") (u := .type "tuple") rfl T.n_tuple (by decide +kernel) rfl) pa_nil))) pa_nil))))) (pw_or1 (pt_not (pt_chain op_le op_le pe_int (pe_callB call_len (by rfl) T.n_len (by decide +kernel) (pa_cons (pv 0) pa_nil)) pe_int))))) (pss_one (ps_ret pe_bl)) pss_nil)
  (pss_cons (ps_for (passes_of rfl) rfl (pi_any (pv 0)) (pg_name (i := 1) sc__law_is_table.nd rfl (Or.inl rfl)) (pss_cons (ps_if (PW.pt (pw_or (pt_not (pt_val (pe_callB call_isiT (by rfl) T.n_isinstance (by decide +kernel) (pa_cons (pv 1) (pa_cons (pe_tup (pa_cons (pe_bltn (v := .ty "list") (u := .type "list") rfl T.n_list (by decide +kernel) rfl) (pa_cons (pe_bltn (v := .ty "tuple") (u := .type "tuple") rfl T.n_tuple (by decide +kernel) rfl) pa_nil))) pa_nil))))) (pw_or (pt_not (pt_chain op_le op_le pe_int (pe_callB call_len (by rfl) T.n_len (by decide +kernel) (pa_cons (pv 1) pa_nil)) pe_int)) (pw_or1 (pt_cmpR (op_neD hr.units) (pe_callB call_len (by rfl) T.n_len (by decide +kernel) (pa_cons (pv 1) pa_nil)) (pe_callB call_len (by rfl) T.n_len (by decide +kernel) (pa_cons (pe_ix ix_seq (pv 0) pe_int (fun _ _ => rfl)) pa_nil)) (nomark _)))))) (pss_one (ps_ret pe_bl)) pss_nil)
  (pss_one (ps_for (passes_of rfl) rfl (pi_any (pv 1)) (pg_name (i := 2) sc__law_is_table.nd rfl (Or.inl rfl)) (pss_one (ps_if (pt_not (pt_val (pe_cal c__law_is_slant hr (by decide) rfl (pa_cons (pv 2) pa_nil)))) (pss_one (ps_ret pe_bl)) pss_nil))))))
  (pss_one (ps_ret pe_bl))))
end
def t__law_is_wish (K : PySem.W.Frag) (E : XK) : TS :=
  (tSeq (tIfS (tOr (tNot (tB (tCB (rIsiT K) (tCons (tVar 0) (tCons (tTup (tCons (tC (.ty "list")) (tCons (tC (.ty "tuple")) tNil))) tNil))))) (tTest (tOp (rNeD K) (tCB (rLenB K) (tCons (tVar 0) tNil)) (tVar 2)))) (tRet (tC (.bl false))) tNext)
  (tSeq (tFor (iAny K (tVar 0)) (gName 3) (tSeq (tIfS (tOr (tNot (tB (tCB (rIsiT K) (tCons (tVar 3) (tCons (tTup (tCons (tC (.ty "list")) (tCons (tC (.ty "tuple")) tNil))) tNil))))) (tTest (tOp (rNeD K) (tCB (rLenB K) (tCons (tVar 3) tNil)) (tVar 1)))) (tRet (tC (.bl false))) tNext)
  (tFor (iAny K (tVar 3)) (gName 4) (tIfS (tOr (tNot (tB (tCB (rIsi K) (tCons (tVar 4) (tCons (tC (.ty "int")) tNil))))) (tOr (tB (tCB (rIsi K) (tCons (tVar 4) (tCons (tC (.ty "bool")) tNil)))) (tNot (tTest (tChain rLeI rLeI (tC (.int 1)) (tVar 4) (tC (.int 2))))))) (tRet (tC (.bl false))) tNext))))
  (tRet (tC (.bl true)))))
def fs__law_is_wish (K : PySem.W.Frag) : FS := fsD3 fun x y z P _ => ∃ ac up : Int, y = .int ac ∧ z = .int up ∧ P (.bool (isWishD x ac up))
theorem is12_eq {i : Int} : is12 (.int i) = (decide (1 ≤ i) && decide (i ≤ 2)) := by
  show decide (i ∈ [1, 2]) = _
  apply Bool.eq_iff_iff.mpr
  simp
  omega
theorem body__law_is_wish {K : PySem.W.Frag} {mg : Str → Option Value} (T : Txt K mg) (E : XK) : ∀ (as : List AV) (P : D → Prop) (PX : XD → Prop), fs__law_is_wish K as P PX → SatS (cn K E PX) (t__law_is_wish K E) (gin as 2) (den P) := bD3 fun x y z P PX q => by
  obtain ⟨ac, up, rfl, rfl, q⟩ := q
  unfold t__law_is_wish
  walk_at "dl"
  unfold isWishD at q
  cases hr : rowD x with
  | none =>
    have e1 : kitBs (tyOf x) ["list", "tuple"] = some false := by cases x <;> first | rfl | cases hr
    rw [hr] at q
    refine ⟨_, e1, ?_⟩
    walk_at "dl"
    exact q
  | some rs =>
  have e1 : kitBs (tyOf x) ["list", "tuple"] = some true := by rcases rowD_or hr with rfl | rfl <;> rfl
  rw [hr] at q
  dsimp only at q
  refine ⟨_, e1, ?_⟩
  walk_at "dl"
  refine kc_lenR hr ?_
  walk_at "dl"
  by_cases hl : (rs.length : Int) = up
  case neg =>
    rw [decide_eq_false hl] at q
    rw [decide_eq_false hl]
    walk_at "dl"
    exact q
  rw [decide_eq_true hl] at q
  rw [decide_eq_true hl]
  walk_at "dl"
  refine sat_for (ei_any (ev_var rfl ⟨rs, rowD_seq hr, fun n G' => (∀ k, k < n → ∀ z, rs[k]? = some z → wrow ac z = true) ∧ ∃ s s2, G' = ⟨[.d x, .d (.int ac), .d (.int up), s, s2], []⟩, ⟨fun k hk => by omega, .any, .any, rfl⟩, ?_, ?_⟩))
  · rintro n r G' hn ⟨hk, s, s2, rfl⟩
    have fail : wrow ac r = false → P (.bool false) := fun h => by
      rw [not_all hn h] at q
      exact q
    walk_at "dl"
    cases hrr : rowD r with
    | none =>
      have e1 : kitBs (tyOf r) ["list", "tuple"] = some false := by cases r <;> first | rfl | cases hrr
      refine ⟨_, e1, ?_⟩
      walk_at "dl"
      exact fail (by unfold wrow; rw [hrr])
    | some xs =>
    have e1 : kitBs (tyOf r) ["list", "tuple"] = some true := by rcases rowD_or hrr with rfl | rfl <;> rfl
    refine ⟨_, e1, ?_⟩
    walk_at "dl"
    refine kc_lenR hrr ?_
    walk_at "dl"
    by_cases hl2 : (xs.length : Int) = ac
    case neg =>
      rw [decide_eq_false hl2]
      walk_at "dl"
      exact fail (by unfold wrow; rw [hrr]; dsimp only; rw [decide_eq_false hl2]; rfl)
    rw [decide_eq_true hl2]
    walk_at "dl"
    have failI : ∀ {m : Nat} {z : D}, xs[m]? = some z → is12 z = false → P (.bool false) := fun hm h => fail (by unfold wrow; rw [hrr]; dsimp only; rw [not_all hm h]; simp)
    refine sat_for (ei_any (ev_var rfl ⟨xs, rowD_seq hrr, fun m G' => (∀ k, k < m → ∀ z, xs[k]? = some z → is12 z = true) ∧ ∃ s2, G' = ⟨[.d x, .d (.int ac), .d (.int up), .d r, s2], []⟩, ⟨fun k hk => by omega, s2, rfl⟩, ?_, ?_⟩))
    · rintro m z G' hm ⟨hkm, s2, rfl⟩
      cases z with
      | int i =>
        have e12 := is12_eq (i := i)
        walk_at "dl"
        cases c1 : decide (1 ≤ i) with
        | false =>
          walk_at "dl"
          exact failI hm (by rw [e12, c1]; rfl)
        | true =>
        walk_at "dl"
        cases c2 : decide (i ≤ 2) with
        | false =>
          walk_at "dl"
          exact failI hm (by rw [e12, c2]; simp)
        | true =>
          walk_at "dl"
          exact ⟨take_all hkm hm (by rw [e12, c1, c2]; rfl), .d (.int i), rfl⟩
      | _ => walk_at "dl"; exact failI hm rfl
    · rintro G' ⟨hkm, s2, rfl⟩
      exact ⟨take_all hk hn (by unfold wrow; rw [hrr]; dsimp only; rw [all_of_take hkm, decide_eq_true hl2]; rfl), .d r, s2, rfl⟩
  · rintro G' ⟨hk, s, s2, rfl⟩
    walk_at "dl"
    rw [all_of_take hk] at q
    exact q
section
variable {P : Program} {w : World} {K : PySem.W.Frag} {mg : Str → Option Value} {base : Heap}
theorem ok__law_is_wish {fd : FuncData} (F : FnP K "_law_is_wish" s__law_is_wish fd) (T : Txt K mg)  : FnOk P w K mg base (L2.CX P w) 1 (He.ga K "_law_is_wish") fd ["thing", "across", "up"] (spF K (fs__law_is_wish K)) := by
  refine fn_ok (k := 0) F sc__law_is_wish len_D3 (by decide) (t__law_is_wish K) (fun cdv A outer s H E hr => ?_) (body__law_is_wish T)
  exact (pss_cons (ps_if (PW.pt (pw_or (pt_not (pt_val (pe_callB call_isiT (by rfl) T.n_isinstance (by decide +kernel) (pa_cons (pv 0) (pa_cons (pe_tup (pa_cons (pe_bltn (v := .ty "list") (u := .type "list") rfl T.n_list (by decide +kernel) rfl) (pa_cons (pe_bltn (v := .ty "tuple") (u := .type "tuple") rfl T.n_tuple (by decide +kernel) rfl) pa_nil))) pa_nil))))) (pw_or1 (pt_cmpR (op_neD hr.units) (pe_callB call_len (by rfl) T.n_len (by decide +kernel) (pa_cons (pv 0) pa_nil)) (pv 2) (nomark _))))) (pss_one (ps_ret pe_bl)) pss_nil)
  (pss_cons (ps_for (passes_of rfl) rfl (pi_any (pv 0)) (pg_name (i := 3) sc__law_is_wish.nd rfl (Or.inl rfl)) (pss_cons (ps_if (PW.pt (pw_or (pt_not (pt_val (pe_callB call_isiT (by rfl) T.n_isinstance (by decide +kernel) (pa_cons (pv 3) (pa_cons (pe_tup (pa_cons (pe_bltn (v := .ty "list") (u := .type "list") rfl T.n_list (by decide +kernel) rfl) (pa_cons (pe_bltn (v := .ty "tuple") (u := .type "tuple") rfl T.n_tuple (by decide +kernel) rfl) pa_nil))) pa_nil))))) (pw_or1 (pt_cmpR (op_neD hr.units) (pe_callB call_len (by rfl) T.n_len (by decide +kernel) (pa_cons (pv 3) pa_nil)) (pv 1) (nomark _))))) (pss_one (ps_ret pe_bl)) pss_nil)
  (pss_one (ps_for (passes_of rfl) rfl (pi_any (pv 3)) (pg_name (i := 4) sc__law_is_wish.nd rfl (Or.inl rfl)) (pss_one (ps_if (PW.pt (pw_or (pt_not (pt_val (pe_callB call_isi (by rfl) T.n_isinstance (by decide +kernel) (pa_cons (pv 4) (pa_cons (pe_bltn (v := .ty "int") (u := .type "int") rfl T.n_int (by decide +kernel) rfl) pa_nil))))) (pw_or (pt_val (pe_callB call_isi (by rfl) T.n_isinstance (by decide +kernel) (pa_cons (pv 4) (pa_cons (pe_bltn (v := .ty "bool") (u := .type "bool") rfl T.n_bool (by decide +kernel) rfl) pa_nil)))) (pw_or1 (pt_not (pt_chain op_le op_le pe_int (pv 4) pe_int)))))) (pss_one (ps_ret pe_bl)) pss_nil))))))
  (pss_one (ps_ret pe_bl))))
end
end X85
end
section
namespace X85
open PySem L2 DL
local macro_rules | `(tactic| walk_at "bi") => `(tactic| first
  | assumption
  | exact Sz.nb (by assumption) (by decide) | exact Sz.db (by assumption) (by decide)
  | (unfold Bi; decide))
local macro_rules | `(tactic| walk_at "sz0") => `(tactic| first
  | assumption
  | exact Sz.one | exact Sz.zero
  | ((apply Sz.neg); (· walk_at "sz0"))
  | ((apply Sz.mul); (· walk_at "sz0"); (· walk_at "sz0"))
  | ((apply Sz.add); (· walk_at "sz0"); (· walk_at "sz0"))
  | ((apply Sz.sub); (· walk_at "sz0"); (· walk_at "sz0"))
  | ((apply Sz.div); (· walk_at "sz0"); (· walk_at "sz0"); (· assumption)))
local macro_rules | `(tactic| walk_at "sz") => `(tactic| first | assumption | ((apply Sz.mono); (· walk_at "sz0"); (· decide)))
local macro_rules | `(tactic| walk_at "e1") => `(tactic| first
  | with_reducible refine evt_of ?_ | with_reducible refine evt_B ?_ | with_reducible refine evt_and ?_ | with_reducible refine evt_or ?_ | with_reducible refine evt_not ?_ | with_reducible refine evt_yes ?_
  | ((with_reducible apply ev_var); · exact rfl)
  | with_reducible refine ev_int ?_ | with_reducible refine ev_str ?_ | with_reducible refine ev_bl ?_ | with_reducible refine ev_non ?_
  | refine ev_stI _ rfl (by decide) ?_ | refine ev_stL rfl ?_
  | refine ev_ixHot rfl rfl ?_ | refine ev_lenHot rfl rfl ?_
  | with_reducible refine ev_op ?_ | with_reducible refine ev_neg ?_ | with_reducible refine ev_and ?_ | with_reducible refine ev_or ?_ | with_reducible refine ev_not ?_ | with_reducible refine ev_if ?_ | with_reducible refine ev_chain ?_
  | with_reducible refine ev_tup ?_ | with_reducible refine ev_call ?_ | with_reducible refine ev_callS ?_ | with_reducible refine ev_callKS ?_
  | refine ev_isiT (ns := ["list", "tuple"]) (by decide) ?_
  | with_reducible refine ev_cb ?_
  | with_reducible refine ea_nil ?_ | refine ea_val (v := .ty _) ?_ | ((with_reducible apply ea_st); · exact rfl) | with_reducible refine ea_cons ?_
  | refine ev_int ?_
  | refine ix_fr0 ?_ | refine ix_fr1 ?_ | refine k2_ix (.inl rfl) rfl ?_ | refine k2_ix (.inr rfl) rfl ?_
  | refine k2_mul (bi_mulOk (n := 9000) (m := 9000) (by walk_at "bi") (by walk_at "bi") (by decide)) ?_
  | refine k2_add ?_
  | refine k2_eqI ?_ | refine k2_neI ?_ | refine k2_eqF ?_ | refine k2_eqF2 ?_ | refine k2_neB ?_ | refine k2_is ?_ | refine k2_isnot ?_ | refine k2_isB ?_
  | refine k2_IB ?_ | refine k2_II ?_
  | refine kc_abs ?_ | refine kc_intI ?_ | refine kc_isi rfl ?_ | refine kc_len rfl ?_ | refine kc_all ?_
  | refine tup_one ?_ | refine tup_zero ?_ | refine tup_m1 ?_ | refine tup_neg ?_ | refine tup_any rfl (Nat.le_of_ble_eq_true rfl) ?_
  | refine tt_split ?_ | refine ff_split ?_
  | refine bool_any ?_ | refine int_any ?_ | refine fr_any ?_ | refine ⟨_, _, rfl, ?_⟩
  | ((refine cD1 ?_); (try dsimp only)) | ((refine cD2 ?_); (try dsimp only)) | ((refine cD3 ?_); (try dsimp only)) | ((refine cD4 ?_); (try dsimp only)) | ((refine cS0 ?_); (try dsimp only)) | ((refine cS1 ?_); (try dsimp only)) | ((refine cS2 ?_); (try dsimp only)) | ((refine cS3 ?_); (try dsimp only))
  | refine sz_and (by walk_at "sz") ?_
  | refine take_and (by first | decide | omega) (by first | decide | omega) ?_
  | refine ne_and (by assumption) ?_
  | refine ev_c (rp_ONE (by assumption)) ?_ | refine ev_c (rp_ZERO (by assumption)) ?_
  | refine ⟨_, _, rfl, rfl, ?_⟩ | refine ⟨_, _, _, rfl, rfl, rfl, ?_⟩ | refine ⟨_, _, _, _, rfl, rfl, rfl, rfl, ?_⟩)
local macro_rules | `(tactic| walk_at "d1") => `(tactic| first
  | refine sat_retHot rfl rfl ?_
  | with_reducible refine sat_seq ?_ | with_reducible refine sat_if ?_ | with_reducible refine sat_ret ?_ | with_reducible refine sat_retN ?_ | with_reducible refine sat_next ?_ | with_reducible refine sat_par ?_
  | with_reducible refine sat_asgHot (el_lst (ea_nil ⟨_, rfl, Nat.le_of_ble_eq_true rfl, ?_⟩))
  | refine sat_setSt _ rfl (by decide) ?_
  | with_reducible refine sat_asg ?_ | with_reducible refine sat_asgG ?_ | with_reducible refine eg_tup4 ?_ | with_reducible refine eg_tup2 ?_ | with_reducible refine eg_name ?_
  | (with_reducible refine sat_drop (te := tCallS _ _ _) ?_)
  | walk_at "e1")
local macro_rules | `(tactic| walk_at "dl") => `(tactic| repeat (walk_at "d1"))
local macro_rules | `(tactic| walk_at "de") => `(tactic| repeat (walk_at "e1"))

/-- drawn wishes: lists of lists -/
def wishL (ws : List (List Int)) : D := .list (ws.map fun r => .list (r.map .int))
def t__law_wish (K : PySem.W.Frag) (E : XK) : TS :=
  (tSeq (tAsg (tCall (spF K (fs__law_take K)) [] E0 (tCons (tVar 0) (tCons (tC (.int 3)) tNil))) (gName 3))
  (tSeq (tAsg (tLc (iRng1 (tCons (tVar 1) tNil)) (gName 5) tYes (tOp (rAddA K) (tC (.int 1)) (tCall (spF K (fs__law_take K)) [] E0 (tCons (tVar 0) (tCons (tC (.int 2)) tNil)))) [5]) (gName 4))
  (tSeq (tAsg (tLst tNil) (gName 6))
  (tSeq (tFor (iRng1 (tCons (tVar 2) tNil)) (gName 7) (tIfS (tTest (tOp rGtI (tVar 3) (tC (.int 0)))) (tDrop (tBM K "list" rAppend (tVar 6) (tCons (tCB (rListOf K) (tCons (tVar 4) tNil)) tNil))) (tDrop (tBM K "list" rAppend (tVar 6) (tCons (tLc (iRng1 (tCons (tVar 1) tNil)) (gName 5) tYes (tOp (rAddA K) (tC (.int 1)) (tCall (spF K (fs__law_take K)) [] E0 (tCons (tVar 0) (tCons (tC (.int 2)) tNil)))) [5]) tNil)))))
  (tRet (tVar 6))))))
def fs__law_wish (K : PySem.W.Frag) : FS := fsS2 fun x y P _ => ∃ ac up : Nat, x = .int ac ∧ y = .int up ∧ ac ≤ 4 ∧ up ≤ 4 ∧ ∀ ws : List (List Int), ws.length = up → (∀ w ∈ ws, w.length = ac ∧ ∀ i ∈ w, i = 1 ∨ i = 2) → P (wishL ws)
theorem rowI {ys : List D} (h : ∀ (n : Nat) (y : D), ys[n]? = some y → ∃ i : Int, y = .int i ∧ (i = 1 ∨ i = 2)) : ∃ w : List Int, ys = w.map .int ∧ w.length = ys.length ∧ ∀ i ∈ w, i = 1 ∨ i = 2 := by
  induction ys with
  | nil => exact ⟨[], rfl, rfl, by simp⟩
  | cons y ys ih =>
    obtain ⟨i, rfl, hi⟩ := h 0 y rfl
    obtain ⟨w, e1, e2, e3⟩ := ih fun n z hz => h (n + 1) z (by simpa using hz)
    refine ⟨i :: w, by rw [e1]; rfl, by simp [e2], fun j hj => ?_⟩
    rcases List.mem_cons.mp hj with rfl | hj
    · exact hi
    · exact e3 j hj
theorem body__law_wish {K : PySem.W.Frag} {mg : Str → Option Value} (T : Txt K mg) (E : XK) : ∀ (as : List AV) (P : D → Prop) (PX : XD → Prop), fs__law_wish K as P PX → SatS (cn K E PX) (t__law_wish K E) (gin as 5) (den P) := bS2 fun k x y P PX q => by
  obtain ⟨ac, up, rfl, rfl, a4, u4, q⟩ := q
  have comp : ∀ {G : Gm} {PL : List D → Prop}, G.sl[0]? = some (.st k) → G.sl[1]? = some (.d (.int ac)) → 8 = G.sl.length → (∀ w : List Int, w.length = ac → (∀ i ∈ w, i = 1 ∨ i = 2) → PL (w.map .int)) →
      EvL (cn K E PX) (tLc (iRng1 (tCons (tVar 1) tNil)) (gName 5) tYes (tOp (rAddA K) (tC (.int 1)) (tCall (spF K (fs__law_take K)) [] E0 (tCons (tVar 0) (tCons (tC (.int 2)) tNil)))) [5]) G PL := by
    intro G PL g0 g1 gl hp
    refine el_comp (ei_rng1 (ea_cons (ev_var g1 (ea_nil ⟨_, rfl, by omega, by omega, ?_⟩))))
    rw [Int.toNat_natCast]
    refine compI_rel (fun n x y => ∃ i : Int, y = .int i ∧ (i = 1 ∨ i = 2)) (by rw [rngD_len]; omega) (fun n x hx => egw_name (by simp) ?_) fun ys e1 e2 => ?_
    · refine ev_op (ev_int (ev_call (ea_st (k := k) ?_ ?_)))
      · unfold Gm.put Gm.wipe Gm.wipe Gm.put
        simp only [List.getElem?_set]
        simpa using g0
      walk_at "dl"
      intro d d0 d1
      walk_at "dl"
      omega
    · obtain ⟨w, f1, f2, f3⟩ := rowI (ys := ys) fun n y hy => by
        have hl : n < (rngD 0 ac).length := by rw [← e1]; exact (List.getElem?_eq_some_iff.mp hy).1
        exact e2 n _ _ (List.getElem?_eq_getElem hl) hy
      rw [f1]
      exact hp w (by rw [f2, e1, rngD_len]) f3
  unfold t__law_wish
  walk_at "dl"
  intro mode _ _
  refine sat_seq (sat_asg (ev_ofL (comp rfl rfl rfl fun row r1 r2 => ?_)))
  walk_at "dl"
  refine sat_for (ei_rng1 ?_)
  walk_at "dl"
  refine ⟨_, rfl, by omega, by omega, ?_⟩
  rw [Int.toNat_natCast]
  refine ⟨fun n G' => n ≤ 4 ∧ ∃ ws : List (List Int), ws.length = n ∧ (∀ w ∈ ws, w.length = ac ∧ ∀ i ∈ w, i = 1 ∨ i = 2) ∧ ∃ s, G' = ⟨[.st k, .d (.int ac), .d (.int up), .d (.int mode), .d (.list (row.map .int)), .any, .hot 0, s], [.lst (ws.map fun r => .list (r.map .int))]⟩, ⟨by omega, [], rfl, by simp, .any, rfl⟩, ?_, ?_⟩
  · rintro n z G' hz ⟨hn4, ws, w1, w2, s, rfl⟩
    obtain ⟨hn, rfl⟩ := rngD_of hz
    have add : ∀ w : List Int, w.length = ac → (∀ i ∈ w, i = 1 ∨ i = 2) → ∀ v ∈ ws ++ [w], v.length = ac ∧ ∀ i ∈ v, i = 1 ∨ i = 2 := fun w a b v hv => by
      rcases List.mem_append.mp hv with z | z
      · exact w2 v z
      · have : v = w := by simpa using z
        subst this; exact ⟨a, b⟩
    walk_at "dl"
    refine ⟨fun h => ?_, fun h => ?_⟩
    · refine sat_append rfl rfl (by rw [List.length_map]; omega) (ev_ofL (el_listOf (ev_var rfl ⟨_, .inl rfl, ?_⟩)))
      refine ⟨by omega, ws ++ [row], by simp [w1], add row r1 r2, .d (.int (0 + (n : Int))), ?_⟩
      rw [List.map_append]
      rfl
    · refine sat_append rfl rfl (by rw [List.length_map]; omega) (ev_ofL (comp rfl rfl rfl fun w a b => ?_))
      refine ⟨by omega, ws ++ [w], by simp [w1], add w a b, .d (.int (0 + (n : Int))), ?_⟩
      rw [List.map_append]
      rfl
  · rintro G' ⟨hn4, ws, w1, w2, s, rfl⟩
    rw [rngD_len] at w1
    refine sat_retHot rfl rfl ?_
    exact q ws w1 w2
section
variable {P : Program} {w : World} {K : PySem.W.Frag} {mg : Str → Option Value} {base : Heap}
theorem ok__law_wish {fd : FuncData} (F : FnP K "_law_wish" s__law_wish fd) (T : Txt K mg) (c__law_take : Cal P w K mg base 2 "_law_take" ["stream", "many"] (fs__law_take K)) : FnOk P w K mg base (L2.CX P w) 3 (He.ga K "_law_wish") fd ["stream", "across", "up"] (spF K (fs__law_wish K)) := by
  refine fn_ok (k := 2) F sc__law_wish len_S2 (by decide) (t__law_wish K) (fun cdv A outer s H E hr => ?_) (body__law_wish T)
  exact (pss_cons (ps_set (i := 3) sc__law_wish.nd rfl (Or.inl rfl) (pe_cal c__law_take hr (by decide) rfl (pa_cons (pv 0) (pa_cons pe_int pa_nil))))
  (pss_cons (ps_setLc (i := 4) (own := [("i", 5)]) (g := (gName 5)) (tt := tYes) rfl sc__law_wish.nd rfl rfl (sw_true rfl rfl rfl (by decide +kernel)) (pi_range1 (by rfl) T.n_range (pa_cons (pv 1) pa_nil)) (blkOk_by (own := [("i", 5)]) (N := N__law_wish) (sc := defScope s__law_wish) (by decide +kernel)) (fun _ _ _ _ _ => (pg_name (i := 5) sc__law_wish.nd rfl (by first | exact Or.inl rfl | exact Or.inr rfl))) (fun _ _ _ _ _ => pts_nil) (fun _ _ _ _ _ => (pe_op op_addA pe_int (pe_cal c__law_take hr (by decide) rfl (pa_cons (pv 0) (pa_cons pe_int pa_nil))))))
  (pss_cons (ps_set (i := 6) sc__law_wish.nd rfl (Or.inl rfl) (pe_lst pa_nil))
  (pss_cons (ps_for (passes_of rfl) rfl (pi_range1 (by rfl) T.n_range (pa_cons (pv 2) pa_nil)) (pg_name (i := 7) sc__law_wish.nd rfl (Or.inl rfl)) (pss_one (ps_if (pt_cmpR op_gt (pv 3) pe_int (nomark _)) (pss_one (ps_expr (pe_bm PySem.F.plainAttrs_list PySem.F.slot_list_append PySem.F.type_list_append mt_append (pv 6) (pa_cons (pe_callTy call_listOf (by rfl) T.n_list (by decide +kernel) (pa_cons (pv 4) pa_nil)) pa_nil)))) (pss_one (ps_expr (pe_bm PySem.F.plainAttrs_list PySem.F.slot_list_append PySem.F.type_list_append mt_append (pv 6) (pa_cons (pe_lc (own := [("i", 5)]) (g := (gName 5)) (tt := tYes) rfl sc__law_wish.nd (pi_range1 (by rfl) T.n_range (pa_cons (pv 1) pa_nil)) (blkOk_by (own := [("i", 5)]) (N := N__law_wish) (sc := defScope s__law_wish) (by decide +kernel)) (fun _ _ _ _ _ => (pg_name (i := 5) sc__law_wish.nd rfl (by first | exact Or.inl rfl | exact Or.inr rfl))) (fun _ _ _ _ _ => pts_nil) (fun _ _ _ _ _ => (pe_op op_addA pe_int (pe_cal c__law_take hr (by decide) rfl (pa_cons (pv 0) (pa_cons pe_int pa_nil)))))) pa_nil)))))))
  (pss_one (ps_ret (pv 6)))))))
end
def t__law_as_rows (K : PySem.W.Frag) (E : XK) : TS :=
  (tSeq (tIfS (tTest (tOp (rEqD K) (tCall (spF K (fs__law_take K)) [] E0 (tCons (tVar 0) (tCons (tC (.int 2)) tNil))) (tC (.int 0)))) (tRet (tLc (iAny K (tVar 1)) (gName 2) tYes (tCB (rListOf K) (tCons (tVar 2) tNil)) [2])) tNext)
  (tRet (tCB (rTupOf K) (tCons (tLc (iAny K (tVar 1)) (gName 2) tYes (tCB (rTupOf K) (tCons (tVar 2) tNil)) [2]) tNil))))
def fs__law_as_rows (K : PySem.W.Frag) : FS := fsS1 fun x P _ => ∃ (rs : List D) (xss : List (List D)), rowD x = some rs ∧ rs.length = xss.length ∧ rs.length ≤ 1000 ∧ (∀ (n : Nat) (r : D) (xs : List D), rs[n]? = some r → xss[n]? = some xs → rowD r = some xs) ∧
  ∀ d, (d = .list (xss.map .list) ∨ d = .tuple (xss.map .tuple)) → P d
theorem body__law_as_rows {K : PySem.W.Frag} {mg : Str → Option Value} (T : Txt K mg) (E : XK) : ∀ (as : List AV) (P : D → Prop) (PX : XD → Prop), fs__law_as_rows K as P PX → SatS (cn K E PX) (t__law_as_rows K E) (gin as 1) (den P) := bS1 fun k x P PX q => by
  obtain ⟨rs, xss, hr, hl, hb, h, q⟩ := q
  have q1 := q _ (.inl rfl)
  have q2 := q _ (.inr rfl)
  unfold t__law_as_rows
  walk_at "dl"
  intro d _ _
  walk_at "dl"
  refine ⟨fun h1 => ?_, fun h1 => ?_⟩
  · walk_at "dl"
    refine ev_ofL (el_comp (ei_any (ev_var rfl ⟨rs, rowD_seq hr, compI_map (ys := xss.map .list) (by simp [hl]) (by omega) (fun n z y hz hy => egw_name (by simp) ?_) ?_⟩)))
    · rw [List.getElem?_map] at hy
      obtain ⟨xs, e1, rfl⟩ := Option.map_eq_some_iff.mp hy
      exact ev_ofL (el_listOf (ev_var rfl ⟨xs, rowD_or (h n z xs hz e1), rfl⟩))
    · exact q1
  · walk_at "dl"
    refine ev_ofL (el_comp (ei_any (ev_var rfl ⟨rs, rowD_seq hr, compI_map (ys := xss.map .tuple) (by simp [hl]) (by omega) (fun n z y hz hy => egw_name (by simp) ?_) ?_⟩)))
    · rw [List.getElem?_map] at hy
      obtain ⟨xs, e1, rfl⟩ := Option.map_eq_some_iff.mp hy
      exact ev_cb (ea_cons (ev_var rfl (ea_nil (kc_tupOf (rowD_or (h n z xs hz e1)) rfl))))
    · walk_at "dl"
      exact kc_tupOf (.inl rfl) q2
section
variable {P : Program} {w : World} {K : PySem.W.Frag} {mg : Str → Option Value} {base : Heap}
theorem ok__law_as_rows {fd : FuncData} (F : FnP K "_law_as_rows" s__law_as_rows fd) (T : Txt K mg) (c__law_take : Cal P w K mg base 2 "_law_take" ["stream", "many"] (fs__law_take K)) : FnOk P w K mg base (L2.CX P w) 3 (He.ga K "_law_as_rows") fd ["stream", "table"] (spF K (fs__law_as_rows K)) := by
  refine fn_ok (k := 2) F sc__law_as_rows len_S1 (by decide) (t__law_as_rows K) (fun cdv A outer s H E hr => ?_) (body__law_as_rows T)
  exact (pss_cons (ps_if (pt_cmpR (op_eqD hr.units) (pe_cal c__law_take hr (by decide) rfl (pa_cons (pv 0) (pa_cons pe_int pa_nil))) pe_int (nomark _)) (pss_one (ps_ret (pe_lc (own := [("row", 2)]) (g := (gName 2)) (tt := tYes) rfl sc__law_as_rows.nd (pi_any (pv 1)) (blkOk_by (own := [("row", 2)]) (N := N__law_as_rows) (sc := defScope s__law_as_rows) (by decide +kernel)) (fun _ _ _ _ _ => (pg_name (i := 2) sc__law_as_rows.nd rfl (by first | exact Or.inl rfl | exact Or.inr rfl))) (fun _ _ _ _ _ => pts_nil) (fun _ _ _ _ _ => (pe_callTy call_listOf (by rfl) T.n_list (by decide +kernel) (pa_cons (pv 2) pa_nil)))))) pss_nil)
  (pss_one (ps_ret (pe_callTy call_tupOf (by rfl) T.n_tuple (by decide +kernel) (pa_cons (pe_lc (own := [("row", 2)]) (g := (gName 2)) (tt := tYes) rfl sc__law_as_rows.nd (pi_any (pv 1)) (blkOk_by (own := [("row", 2)]) (N := N__law_as_rows) (sc := defScope s__law_as_rows) (by decide +kernel)) (fun _ _ _ _ _ => (pg_name (i := 2) sc__law_as_rows.nd rfl (by first | exact Or.inl rfl | exact Or.inr rfl))) (fun _ _ _ _ _ => pts_nil) (fun _ _ _ _ _ => (pe_callTy call_tupOf (by rfl) T.n_tuple (by decide +kernel) (pa_cons (pv 2) pa_nil)))) pa_nil)))))
end
end X85
end
section
namespace X85
open PySem L2 DL
local macro_rules | `(tactic| walk_at "bi") => `(tactic| first
  | assumption
  | exact Sz.nb (by assumption) (by decide) | exact Sz.db (by assumption) (by decide)
  | (unfold Bi; decide))
local macro_rules | `(tactic| walk_at "sz0") => `(tactic| first
  | assumption
  | exact Sz.one | exact Sz.zero
  | ((apply Sz.neg); (· walk_at "sz0"))
  | ((apply Sz.mul); (· walk_at "sz0"); (· walk_at "sz0"))
  | ((apply Sz.add); (· walk_at "sz0"); (· walk_at "sz0"))
  | ((apply Sz.sub); (· walk_at "sz0"); (· walk_at "sz0"))
  | ((apply Sz.div); (· walk_at "sz0"); (· walk_at "sz0"); (· assumption)))
local macro_rules | `(tactic| walk_at "sz") => `(tactic| first | assumption | ((apply Sz.mono); (· walk_at "sz0"); (· decide)))
local macro_rules | `(tactic| walk_at "d1") => `(tactic| first
  | refine sat_retHot rfl rfl ?_
  | with_reducible refine sat_seq ?_ | with_reducible refine sat_drop ?_ | with_reducible refine sat_if ?_ | with_reducible refine sat_ret ?_ | with_reducible refine sat_retN ?_ | with_reducible refine sat_next ?_ | with_reducible refine sat_par ?_
  | with_reducible refine sat_asgHot (el_lst (ea_nil ⟨_, rfl, Nat.le_of_ble_eq_true rfl, ?_⟩))
  | refine sat_setSt _ rfl (by decide) ?_ | refine sat_append rfl rfl (by simp) ?_
  | with_reducible refine sat_asg ?_ | with_reducible refine sat_asgG ?_ | with_reducible refine eg_tup4 ?_ | with_reducible refine eg_tup2 ?_ | with_reducible refine eg_name ?_
  | with_reducible refine evt_of ?_ | with_reducible refine evt_B ?_ | with_reducible refine evt_and ?_ | with_reducible refine evt_or ?_ | with_reducible refine evt_not ?_ | with_reducible refine evt_yes ?_
  | ((with_reducible apply ev_var); · exact rfl)
  | with_reducible refine ev_int ?_ | with_reducible refine ev_str ?_ | with_reducible refine ev_bl ?_ | with_reducible refine ev_non ?_
  | refine ev_stI _ rfl (by decide) ?_ | refine ev_stL rfl ?_
  | refine ev_ixHot rfl rfl ?_ | refine ev_lenHot rfl rfl ?_
  | with_reducible refine ev_op ?_ | with_reducible refine ev_neg ?_ | with_reducible refine ev_and ?_ | with_reducible refine ev_or ?_ | with_reducible refine ev_not ?_ | with_reducible refine ev_if ?_ | with_reducible refine ev_chain ?_
  | with_reducible refine ev_tup ?_ | with_reducible refine ev_call ?_ | with_reducible refine ev_callS ?_ | with_reducible refine ev_callKS ?_
  | refine ev_isiT (ns := ["list", "tuple"]) (by decide) ?_
  | with_reducible refine ev_cb ?_
  | with_reducible refine ea_nil ?_ | refine ea_val (v := .ty _) ?_ | ((with_reducible apply ea_st); · exact rfl) | with_reducible refine ea_cons ?_
  | refine ev_int ?_
  | refine ix_fr0 ?_ | refine ix_fr1 ?_ | refine k2_ix (.inl rfl) rfl ?_ | refine k2_ix (.inr rfl) rfl ?_
  | refine k2_mul (bi_mulOk (n := 9000) (m := 9000) (by walk_at "bi") (by walk_at "bi") (by decide)) ?_
  | refine k2_add ?_
  | refine k2_eqI ?_ | refine k2_neI ?_ | refine k2_eqF ?_ | refine k2_eqF2 ?_ | refine k2_neB ?_ | refine k2_is ?_ | refine k2_isnot ?_ | refine k2_isB ?_
  | refine k2_IB ?_ | refine k2_II ?_
  | refine kc_abs ?_ | refine kc_intI ?_ | refine kc_isi rfl ?_ | refine kc_len rfl ?_ | refine kc_all ?_
  | refine tup_one ?_ | refine tup_zero ?_ | refine tup_m1 ?_ | refine tup_neg ?_ | refine tup_any rfl (Nat.le_of_ble_eq_true rfl) ?_
  | refine tt_split ?_ | refine ff_split ?_
  | refine bool_any ?_ | refine int_any ?_ | refine fr_any ?_ | refine ⟨_, _, rfl, ?_⟩
  | ((refine cD1 ?_); (try dsimp only)) | ((refine cD2 ?_); (try dsimp only)) | ((refine cD3 ?_); (try dsimp only)) | ((refine cD4 ?_); (try dsimp only)) | ((refine cS0 ?_); (try dsimp only)) | ((refine cS1 ?_); (try dsimp only)) | ((refine cS2 ?_); (try dsimp only)) | ((refine cS3 ?_); (try dsimp only))
  | refine sz_and (by walk_at "sz") ?_
  | refine take_and (by first | decide | omega) (by first | decide | omega) ?_
  | refine ne_and (by assumption) ?_
  | refine ev_c (rp_ONE (by assumption)) ?_ | refine ev_c (rp_ZERO (by assumption)) ?_
  | refine ⟨_, _, rfl, rfl, ?_⟩ | refine ⟨_, _, _, rfl, rfl, rfl, ?_⟩ | refine ⟨_, _, _, _, rfl, rfl, rfl, rfl, ?_⟩)
local macro_rules | `(tactic| walk_at "dl") => `(tactic| repeat (walk_at "d1"))

/-! directions -/
def Cd (D : Int) (x : Rat) : Prop := ∃ n : Int, (n : Rat) = x * (D : Rat)
theorem Cd.add {D : Int} {x y : Rat} (h : Cd D x) (k : Cd D y) : Cd D (x + y) := by
  obtain ⟨n, hn⟩ := h
  obtain ⟨m, hm⟩ := k
  exact ⟨n + m, by rw [Rat.intCast_add, hn, hm]; grind⟩
theorem Cd.neg {D : Int} {x : Rat} (h : Cd D x) : Cd D (-x) := by
  obtain ⟨n, hn⟩ := h
  exact ⟨-n, by rw [Rat.intCast_neg, hn]; grind⟩
theorem Cd.sub {D : Int} {x y : Rat} (h : Cd D x) (k : Cd D y) : Cd D (x - y) := by
  rw [Rat.sub_eq_add_neg]; exact h.add k.neg
theorem Cd.mul {D E : Int} {x y : Rat} (h : Cd D x) (k : Cd E y) : Cd (D * E) (x * y) := by
  obtain ⟨n, hn⟩ := h
  obtain ⟨m, hm⟩ := k
  exact ⟨n * m, by rw [Rat.intCast_mul, Rat.intCast_mul, hn, hm]; grind⟩
/-- a lean direction -/
structure Ln (p : Rat × Rat) : Prop where
  u : p.1 * p.1 + p.2 * p.2 = 1
  a : 4 / 5 ≤ p.1
  b1 : -(1 / 2) ≤ p.2
  b2 : p.2 ≤ 1 / 2
  d : ∃ D : Int, 0 < D ∧ Bi 11 D ∧ Cd D p.1 ∧ Cd D p.2
theorem ln_one : Ln (1, 0) := ⟨by decide +kernel, by decide +kernel, by decide +kernel, by decide +kernel, 1, by decide, by unfold Bi; decide, ⟨1, by decide +kernel⟩, ⟨0, by decide +kernel⟩⟩
/-- whole numbers over D, at most 1: small -/
theorem cd_sz {D : Int} {n : Nat} {x : Rat} (D0 : 0 < D) (hD : Bi n D) (h : Cd D x) (hx : x * x ≤ 1) : Sz n x := by
  obtain ⟨m, hm⟩ := h
  have Dq : (0 : Rat) < (D : Rat) := Rat.intCast_pos.mpr D0
  have Dn : (D : Rat) ≠ 0 := (Rat.ne_of_lt Dq).symm
  have e : x = Rat.divInt m D := by
    rw [Rat.divInt_eq_div, hm]
    exact (Rat.mul_div_cancel Dn).symm
  have bm : m * m ≤ D * D := by
    have : ((m * m : Int) : Rat) ≤ ((D * D : Int) : Rat) := by
      rw [Rat.intCast_mul, Rat.intCast_mul, hm]
      have h1 := Rat.mul_pos Dq Dq
      have h2 := Rat.mul_le_mul_of_nonneg_right hx (Rat.le_of_lt h1)
      grind
    exact Rat.intCast_le_intCast.mp this
  have bm2 : m.natAbs ≤ D.natAbs := by
    have h1 : m.natAbs * m.natAbs ≤ D.natAbs * D.natAbs := by
      have e1 := Int.natAbs_mul_self' m
      have e2 := Int.natAbs_mul_self' D
      omega
    exact Nat.mul_self_le_mul_self_iff.mp h1
  rw [e]
  refine sz_divInt ?_ hD (by omega)
  unfold Bi at *
  omega
theorem unit_le {a b : Rat} (h : a * a + b * b = 1) : a * a ≤ 1 ∧ b * b ≤ 1 := by
  have := sq_nn a
  have := sq_nn b
  constructor <;> grind
theorem Ln.sz {p : Rat × Rat} (h : Ln p) : Sz 11 p.1 ∧ Sz 11 p.2 := by
  obtain ⟨D, D0, hD, h1, h2⟩ := h.d
  have := unit_le h.u
  exact ⟨cd_sz D0 hD h1 this.1, cd_sz D0 hD h2 this.2⟩
/-- the cosine between two leans is above 0 -/
theorem ln_cos {p q : Rat × Rat} (h : Ln p) (k : Ln q) : 0 < p.1 * q.1 + p.2 * q.2 := by
  obtain ⟨a, b⟩ := p
  obtain ⟨c, d⟩ := q
  have ha : 4 / 5 ≤ a := h.a
  have hc : 4 / 5 ≤ c := k.a
  have hb1 : -(1 / 2) ≤ b := h.b1
  have hb2 : b ≤ 1 / 2 := h.b2
  have hd1 : -(1 / 2) ≤ d := k.b1
  have hd2 : d ≤ 1 / 2 := k.b2
  show 0 < a * c + b * d
  have m1 : 0 ≤ (a - 4 / 5) * (c - 4 / 5) := Rat.mul_nonneg (by grind) (by grind)
  have m2 : 0 ≤ (1 / 2 - b) * (1 / 2 + d) := Rat.mul_nonneg (by grind) (by grind)
  have m3 : 0 ≤ (1 / 2 + b) * (1 / 2 - d) := Rat.mul_nonneg (by grind) (by grind)
  have m4 : 0 ≤ (1 / 2 - b) * (1 / 2 - d) := Rat.mul_nonneg (by grind) (by grind)
  have m5 : 0 ≤ (1 / 2 + b) * (1 / 2 + d) := Rat.mul_nonneg (by grind) (by grind)
  grind
/-- a half angle: above 0, small -/
theorem half_ok {a b c d : Rat} {D : Int} {n : Nat} (h1 : a * a + b * b = 1) (h2 : c * c + d * d = 1) (hc : 0 < a * d - b * c) (D0 : 0 < D) (hD : Bi n D) (k1 : Cd D (a * d - b * c)) (k2 : Cd D (a * c + b * d)) :
    1 + (a * c + b * d) ≠ 0 ∧ 0 < (a * d - b * c) / (1 + (a * c + b * d)) ∧ Sz (n + 1) ((a * d - b * c) / (1 + (a * c + b * d))) := by
  have u : (a * d - b * c) * (a * d - b * c) + (a * c + b * d) * (a * c + b * d) = 1 := by
    have : (a * d - b * c) * (a * d - b * c) + (a * c + b * d) * (a * c + b * d) = (a * a + b * b) * (c * c + d * d) := by grind
    rw [this, h1, h2]
    decide +kernel
  generalize a * d - b * c = x at *
  generalize a * c + b * d = y at *
  have hx := Rat.mul_pos hc hc
  have pos : 0 < 1 + y := by
    rcases Rat.le_total (a := 1 + y) (b := 0) with z | z
    · have m : 0 ≤ (-(1 + y)) * (1 - y) := Rat.mul_nonneg (by grind) (by grind)
      grind
    · refine Rat.lt_of_le_of_ne z fun e => ?_
      have : y = -1 := by grind
      subst this
      grind
  refine ⟨(Rat.ne_of_lt pos).symm, ?_, ?_⟩
  · rw [Rat.lt_div_iff pos]
    grind
  · obtain ⟨m, hm⟩ := k1
    obtain ⟨l, hl⟩ := k2
    have Dq : (0 : Rat) < (D : Rat) := Rat.intCast_pos.mpr D0
    have e : x / (1 + y) = Rat.divInt m (D + l) := by
      rw [Rat.divInt_eq_div, Rat.intCast_add, hm, hl]
      have : (D : Rat) + y * D ≠ 0 := by
        have e : (D : Rat) + y * D = (1 + y) * D := by grind
        rw [e]
        exact (Rat.ne_of_lt (Rat.mul_pos pos Dq)).symm
      have := (Rat.ne_of_lt pos).symm
      grind
    have b1 : m * m + l * l = D * D := by
      have : ((m * m + l * l : Int) : Rat) = ((D * D : Int) : Rat) := by
        rw [Rat.intCast_add, Rat.intCast_mul, Rat.intCast_mul, Rat.intCast_mul, hm, hl]
        grind
      exact Rat.intCast_inj.mp this
    have ab : ∀ m l : Int, m * m + l * l = D * D → m.natAbs ≤ D.natAbs := by
      intro m l h
      have e1 := Int.natAbs_mul_self' m
      have e2 := Int.natAbs_mul_self' D
      have e3 := Int.natAbs_mul_self' l
      have h1 : m.natAbs * m.natAbs ≤ D.natAbs * D.natAbs := by
        have : (0 : Int) ≤ (l.natAbs : Int) * l.natAbs := Int.mul_nonneg (by omega) (by omega)
        omega
      exact Nat.mul_self_le_mul_self_iff.mp h1
    have a1 := ab m l b1
    have a2 := ab l m (by omega)
    have pl : 0 < D + l := by
      have : (0 : Rat) < ((D + l : Int) : Rat) := by
        rw [Rat.intCast_add, hl]
        have e : (D : Rat) + y * D = (1 + y) * D := by grind
        rw [e]
        exact Rat.mul_pos pos Dq
      exact Rat.intCast_pos.mp this
    rw [e]
    refine sz_divInt ?_ ?_ (by omega)
    · unfold Bi at *; rw [Nat.pow_succ]; omega
    · unfold Bi at *; rw [Nat.pow_succ]; omega
theorem ln_ray {s : Rat} (h : Sz 5 s) (h1 : -(1 / 4) ≤ s) (h2 : s ≤ 1 / 4) : Ln (rc s, rn s) := by
  have n0 := sq1_ne s
  have ps := sq_nn s
  have pos : 0 < 1 + s * s := by grind
  have e1 : rc s * (1 + s * s) = 1 - s * s := Rat.div_mul_cancel n0
  have e2 : rn s * (1 + s * s) = 2 * s := Rat.div_mul_cancel n0
  have sq : s * s ≤ 1 / 16 := by
    have m : 0 ≤ (1 / 4 - s) * (1 / 4 + s) := Rat.mul_nonneg (by grind) (by grind)
    grind
  refine ⟨?_, ?_, ?_, ?_, (s.den : Int) * s.den + s.num * s.num, ?_, ?_, ?_, ?_⟩
  · show rc s * rc s + rn s * rn s = 1
    have : (rc s * rc s + rn s * rn s) * ((1 + s * s) * (1 + s * s)) = (1 + s * s) * (1 + s * s) := by
      have : (rc s * rc s + rn s * rn s) * ((1 + s * s) * (1 + s * s)) = (rc s * (1 + s * s)) * (rc s * (1 + s * s)) + (rn s * (1 + s * s)) * (rn s * (1 + s * s)) := by grind
      rw [this, e1, e2]
      grind
    have nn : (1 + s * s) * (1 + s * s) ≠ 0 := (Rat.ne_of_lt (Rat.mul_pos pos pos)).symm
    generalize rc s * rc s + rn s * rn s = z at *
    generalize (1 + s * s) * (1 + s * s) = w at *
    grind
  · show 4 / 5 ≤ rc s
    refine Rat.not_lt.mp fun z => ?_
    have := Rat.mul_lt_mul_of_pos_right z pos
    grind
  · show -(1 / 2) ≤ rn s
    refine Rat.not_lt.mp fun z => ?_
    have := Rat.mul_lt_mul_of_pos_right z pos
    grind
  · show rn s ≤ 1 / 2
    refine Rat.not_lt.mp fun z => ?_
    have := Rat.mul_lt_mul_of_pos_right z pos
    grind
  · have h1 : 0 < (s.den : Int) * s.den := Int.mul_pos (den_pos' s) (den_pos' s)
    have h2 : 0 ≤ s.num * s.num := by
      rcases Int.le_total 0 s.num with h | h
      · exact Int.mul_nonneg h h
      · exact Int.mul_nonneg_of_nonpos_of_nonpos h h
    omega
  · exact (h.2.mul h.2).add1 (h.1.mul h.1)
  · refine ⟨(s.den : Int) * s.den - s.num * s.num, ?_⟩
    show _ = rc s * _
    rw [← ray_c, Rat.divInt_eq_div]
    have : (((s.den : Int) * s.den + s.num * s.num : Int) : Rat) ≠ 0 := fun z => ray_den s (Rat.intCast_eq_zero_iff.mp z)
    exact (Rat.div_mul_cancel this).symm
  · refine ⟨2 * s.num * (s.den : Int), ?_⟩
    show _ = rn s * _
    rw [← ray_n, Rat.divInt_eq_div]
    have : (((s.den : Int) * s.den + s.num * s.num : Int) : Rat) ≠ 0 := fun z => ray_den s (Rat.intCast_eq_zero_iff.mp z)
    exact (Rat.div_mul_cancel this).symm
def t__law_leaning (K : PySem.W.Frag) (E : XK) : TS :=
  (tSeq (tAsg (tOp rDivI (tVar 1) (tC (.int 4))) (gName 2))
  (tSeq (tIfS (tTest (tOp rGtI (tVar 1) (tC (.int 8)))) (tAsg (tOp rDivI (tVar 1) (tC (.int 9))) (gName 2)) tNext)
  (tRet (tCall (spF K (fs__law_ray K)) [] E0 (tCons (tCall (spF K (fs__law_low K)) [] E0 (tCons (tOp rSubI (tCall (spF K (fs__law_take K)) [] E0 (tCons (tVar 0) (tCons (tOp (rAddA K) (tOp rMulA (tC (.int 2)) (tVar 2)) (tC (.int 1))) tNil))) (tVar 2)) (tCons (tVar 1) tNil))) tNil)))))
def fs__law_leaning (K : PySem.W.Frag) : FS := fsS1 fun x P _ => ∃ b : Int, x = .int b ∧ 4 ≤ b ∧ b ≤ 18 ∧ ∀ p, Ln p → P (prP p)
theorem lean_ok {t b w : Int} (h4 : 4 ≤ b) (h18 : b ≤ 18) (hw : 4 * w ≤ b) (h1 : -w ≤ t) (h2 : t ≤ w) : Sz 5 (Rat.divInt t b) ∧ -(1 / 4) ≤ Rat.divInt t b ∧ Rat.divInt t b ≤ 1 / 4 := by
  refine ⟨sz_divInt (by unfold Bi; omega) (by unfold Bi; omega) (by omega), ?_, ?_⟩
  · have bq : (0 : Rat) < (b : Rat) := Rat.intCast_pos.mpr (by omega)
    have e : Rat.divInt t b * (b : Rat) = t := by rw [Rat.divInt_eq_div]; exact Rat.div_mul_cancel (Rat.ne_of_lt bq).symm
    have l : ((-b : Int) : Rat) ≤ ((4 * t : Int) : Rat) := Rat.intCast_le_intCast.mpr (by omega)
    rw [Rat.intCast_neg, Rat.intCast_mul] at l
    have e4 : ((4 : Int) : Rat) = 4 := rfl
    rw [e4] at l
    refine Rat.not_lt.mp fun z => ?_
    have := Rat.mul_lt_mul_of_pos_right z bq
    grind
  · have bq : (0 : Rat) < (b : Rat) := Rat.intCast_pos.mpr (by omega)
    have e : Rat.divInt t b * (b : Rat) = t := by rw [Rat.divInt_eq_div]; exact Rat.div_mul_cancel (Rat.ne_of_lt bq).symm
    have l : ((4 * t : Int) : Rat) ≤ ((b : Int) : Rat) := Rat.intCast_le_intCast.mpr (by omega)
    rw [Rat.intCast_mul] at l
    have e4 : ((4 : Int) : Rat) = 4 := rfl
    rw [e4] at l
    refine Rat.not_lt.mp fun z => ?_
    have := Rat.mul_lt_mul_of_pos_right z bq
    grind
theorem body__law_leaning {K : PySem.W.Frag} {mg : Str → Option Value} (T : Txt K mg) (E : XK) : ∀ (as : List AV) (P : D → Prop) (PX : XD → Prop), fs__law_leaning K as P PX → SatS (cn K E PX) (t__law_leaning K E) (gin as 1) (den P) := bS1 fun k x P PX q => by
  obtain ⟨b, rfl, b4, b18, q⟩ := q
  have fin : ∀ w : Int, 0 ≤ w → 4 * w ≤ b → SatS (cn K E PX) (tRet (tCall (spF K (fs__law_ray K)) [] E0 (tCons (tCall (spF K (fs__law_low K)) [] E0 (tCons (tOp rSubI (tCall (spF K (fs__law_take K)) [] E0 (tCons (tVar 0) (tCons (tOp (rAddA K) (tOp rMulA (tC (.int 2)) (tVar 2)) (tC (.int 1))) tNil))) (tVar 2)) (tCons (tVar 1) tNil))) tNil)))
      ⟨[.st k, .d (.int b), .d (.int w)], []⟩ (den P) := by
    intro w w0 hw
    walk_at "dl"
    refine k2_mul (small_mulL (by decide) (by decide)) ?_
    walk_at "dl"
    intro d d0 d1
    walk_at "dl"
    refine ⟨by omega, by unfold Bi; omega, ?_⟩
    obtain ⟨s1, s2, s3⟩ := lean_ok (t := d - w) b4 b18 hw (by omega) (by omega)
    walk_at "dl"
    exact q _ (ln_ray s1 s2 s3)
  unfold t__law_leaning
  walk_at "dl"
  refine k2_C (small_div (by decide) (by decide)) ?_
  walk_at "dl"
  refine ⟨fun h => ?_, fun h => ?_⟩
  · have hb := of_decide_eq_true h
    refine sat_asg (ev_op (ev_var rfl (ev_int (k2_C (small_div (by decide) (by decide)) ?_))))
    have e : b.fdiv 9 = b / 9 := Int.fdiv_eq_ediv_of_nonneg _ (by decide)
    rw [e]
    exact fin (b / 9) (by omega) (by omega)
  · refine sat_next ?_
    have e : b.fdiv 4 = b / 4 := Int.fdiv_eq_ediv_of_nonneg _ (by decide)
    rw [e]
    exact fin (b / 4) (by omega) (by omega)
section
variable {P : Program} {w : World} {K : PySem.W.Frag} {mg : Str → Option Value} {base : Heap}
theorem ok__law_leaning {fd : FuncData} (F : FnP K "_law_leaning" s__law_leaning fd) (T : Txt K mg) (c__law_low : Cal P w K mg base 1 "_law_low" ["top", "bottom"] (fs__law_low K)) (c__law_ray : Cal P w K mg base 2 "_law_ray" ["slope"] (fs__law_ray K)) (c__law_take : Cal P w K mg base 2 "_law_take" ["stream", "many"] (fs__law_take K)) : FnOk P w K mg base (L2.CX P w) 3 (He.ga K "_law_leaning") fd ["stream", "bottom"] (spF K (fs__law_leaning K)) := by
  refine fn_ok (k := 2) F sc__law_leaning len_S1 (by decide) (t__law_leaning K) (fun cdv A outer s H E hr => ?_) (body__law_leaning T)
  exact (pss_cons (ps_set (i := 2) sc__law_leaning.nd rfl (Or.inl rfl) (pe_op op_fdivI (pv 1) pe_int))
  (pss_cons (ps_if (pt_cmpR op_gt (pv 1) pe_int (nomark _)) (pss_one (ps_set (i := 2) sc__law_leaning.nd rfl (Or.inl rfl) (pe_op op_fdivI (pv 1) pe_int))) pss_nil)
  (pss_one (ps_ret (pe_cal c__law_ray hr (by decide) rfl (pa_cons (pe_cal c__law_low hr (by decide) rfl (pa_cons (pe_op op_sub (pe_cal c__law_take hr (by decide) rfl (pa_cons (pv 0) (pa_cons (pe_op op_addA (pe_op op_mulA pe_int (pv 2)) pe_int) pa_nil))) (pv 2)) (pa_cons (pv 1) pa_nil))) pa_nil))))))
end
end X85
end
section
namespace X85
open PySem L2 DL
local macro_rules | `(tactic| walk_at "bi") => `(tactic| first
  | assumption
  | exact Sz.nb (by assumption) (by decide) | exact Sz.db (by assumption) (by decide)
  | (unfold Bi; decide))
local macro_rules | `(tactic| walk_at "sz0") => `(tactic| first
  | assumption
  | exact Sz.one | exact Sz.zero
  | ((apply Sz.neg); (· walk_at "sz0"))
  | ((apply Sz.mul); (· walk_at "sz0"); (· walk_at "sz0"))
  | ((apply Sz.add); (· walk_at "sz0"); (· walk_at "sz0"))
  | ((apply Sz.sub); (· walk_at "sz0"); (· walk_at "sz0"))
  | ((apply Sz.div); (· walk_at "sz0"); (· walk_at "sz0"); (· assumption)))
local macro_rules | `(tactic| walk_at "sz") => `(tactic| first | assumption | ((apply Sz.mono); (· walk_at "sz0"); (· decide)))
local macro_rules | `(tactic| walk_at "d1") => `(tactic| first
  | refine sat_retHot rfl rfl ?_
  | with_reducible refine sat_seq ?_ | with_reducible refine sat_drop ?_ | with_reducible refine sat_if ?_ | with_reducible refine sat_ret ?_ | with_reducible refine sat_retN ?_ | with_reducible refine sat_next ?_ | with_reducible refine sat_par ?_
  | with_reducible refine sat_asgHot (el_lst (ea_nil ⟨_, rfl, Nat.le_of_ble_eq_true rfl, ?_⟩))
  | refine sat_setSt _ rfl (by decide) ?_ | refine sat_append rfl rfl (by simp) ?_
  | with_reducible refine sat_asg ?_ | with_reducible refine sat_asgG ?_ | with_reducible refine eg_tup4 ?_ | with_reducible refine eg_tup2 ?_ | with_reducible refine eg_name ?_
  | with_reducible refine evt_of ?_ | with_reducible refine evt_B ?_ | with_reducible refine evt_and ?_ | with_reducible refine evt_or ?_ | with_reducible refine evt_not ?_ | with_reducible refine evt_yes ?_
  | ((with_reducible apply ev_var); · exact rfl)
  | with_reducible refine ev_int ?_ | with_reducible refine ev_str ?_ | with_reducible refine ev_bl ?_ | with_reducible refine ev_non ?_
  | refine ev_stI _ rfl (by decide) ?_ | refine ev_stL rfl ?_
  | refine ev_ixHot rfl rfl ?_ | refine ev_lenHot rfl rfl ?_
  | with_reducible refine ev_op ?_ | with_reducible refine ev_neg ?_ | with_reducible refine ev_and ?_ | with_reducible refine ev_or ?_ | with_reducible refine ev_not ?_ | with_reducible refine ev_if ?_ | with_reducible refine ev_chain ?_
  | with_reducible refine ev_tup ?_ | with_reducible refine ev_call ?_ | with_reducible refine ev_callS ?_ | with_reducible refine ev_callKS ?_
  | refine ev_isiT (ns := ["list", "tuple"]) (by decide) ?_
  | with_reducible refine ev_cb ?_
  | with_reducible refine ea_nil ?_ | refine ea_val (v := .ty _) ?_ | ((with_reducible apply ea_st); · exact rfl) | with_reducible refine ea_cons ?_
  | refine ev_int ?_
  | refine ix_fr0 ?_ | refine ix_fr1 ?_ | refine k2_ix (.inl rfl) rfl ?_ | refine k2_ix (.inr rfl) rfl ?_
  | refine k2_mul (bi_mulOk (n := 9000) (m := 9000) (by walk_at "bi") (by walk_at "bi") (by decide)) ?_
  | refine k2_add ?_
  | refine k2_eqI ?_ | refine k2_neI ?_ | refine k2_eqF ?_ | refine k2_eqF2 ?_ | refine k2_neB ?_ | refine k2_is ?_ | refine k2_isnot ?_ | refine k2_isB ?_
  | refine k2_IB ?_ | refine k2_II ?_
  | refine kc_abs ?_ | refine kc_intI ?_ | refine kc_isi rfl ?_ | refine kc_len rfl ?_ | refine kc_all ?_
  | refine tup_one ?_ | refine tup_zero ?_ | refine tup_m1 ?_ | refine tup_neg ?_ | refine tup_any rfl (Nat.le_of_ble_eq_true rfl) ?_
  | refine tt_split ?_ | refine ff_split ?_
  | refine bool_any ?_ | refine int_any ?_ | refine fr_any ?_ | refine ⟨_, _, rfl, ?_⟩
  | ((refine cD1 ?_); (try dsimp only)) | ((refine cD2 ?_); (try dsimp only)) | ((refine cD3 ?_); (try dsimp only)) | ((refine cD4 ?_); (try dsimp only)) | ((refine cS0 ?_); (try dsimp only)) | ((refine cS1 ?_); (try dsimp only)) | ((refine cS2 ?_); (try dsimp only)) | ((refine cS3 ?_); (try dsimp only))
  | refine sz_and (by walk_at "sz") ?_
  | refine take_and (by first | decide | omega) (by first | decide | omega) ?_
  | refine ne_and (by assumption) ?_
  | refine ev_c (rp_ONE (by assumption)) ?_ | refine ev_c (rp_ZERO (by assumption)) ?_
  | refine ⟨_, _, rfl, rfl, ?_⟩ | refine ⟨_, _, _, rfl, rfl, rfl, ?_⟩ | refine ⟨_, _, _, _, rfl, rfl, rfl, rfl, ?_⟩)
local macro_rules | `(tactic| walk_at "dl") => `(tactic| repeat (walk_at "d1"))

/-- a column's directions -/
def V0 (b : Rat × Rat) : Rat × Rat := (-b.2, b.1)
def nxU (p q : Rat) (v : Rat × Rat) : Rat × Rat := (-(p * v.1 - q * -v.2), -(p * -v.2 + q * v.1))
def zp (a b : Rat × Rat) : Rat := a.1 * b.1 - a.2 * b.2
def zq (a b : Rat × Rat) : Rat := a.1 * b.2 + a.2 * b.1
def V1 (a a' b : Rat × Rat) : Rat × Rat := nxU (zp a a') (zq a a') (V0 b)
def Vc (a a' b : Rat × Rat) (j : Nat) : Rat × Rat := if j % 2 = 0 then V0 b else V1 a a' b
theorem z_unit {a b : Rat × Rat} (h : a.1 * a.1 + a.2 * a.2 = 1) (k : b.1 * b.1 + b.2 * b.2 = 1) : zp a b * zp a b + zq a b * zq a b = 1 := by
  unfold zp zq
  have : (a.1 * b.1 - a.2 * b.2) * (a.1 * b.1 - a.2 * b.2) + (a.1 * b.2 + a.2 * b.1) * (a.1 * b.2 + a.2 * b.1) = (a.1 * a.1 + a.2 * a.2) * (b.1 * b.1 + b.2 * b.2) := by grind
  rw [this, h, k]
  decide +kernel
theorem nx_nx {p q : Rat} (h : p * p + q * q = 1) (v : Rat × Rat) : nxU p q (nxU p q v) = v := by
  obtain ⟨x, y⟩ := v
  unfold nxU
  apply Prod.ext
  · show -(p * -(p * x - q * -y) - q * - -(p * -y + q * x)) = x
    have : -(p * -(p * x - q * -y) - q * - -(p * -y + q * x)) = (p * p + q * q) * x := by grind
    rw [this, h]; grind
  · show -(p * - -(p * -y + q * x) + q * -(p * x - q * -y)) = y
    have : -(p * - -(p * -y + q * x) + q * -(p * x - q * -y)) = (p * p + q * q) * y := by grind
    rw [this, h]; grind
theorem vc_next {a a' b : Rat × Rat} (h : Ln a) (h' : Ln a') (j : Nat) : nxU (zp a a') (zq a a') (Vc a a' b j) = Vc a a' b (j + 1) := by
  have z := z_unit h.u h'.u
  unfold Vc
  by_cases e : j % 2 = 0
  · rw [if_pos e, if_neg (by omega)]; rfl
  · rw [if_neg e, if_pos (by omega)]
    exact nx_nx z _
theorem v1_eq (a a' b : Rat × Rat) : V1 a a' b = (zp a a' * b.2 - zq a a' * b.1, zp a a' * b.1 + zq a a' * b.2) := by
  unfold V1 nxU V0
  apply Prod.ext
  · show -(zp a a' * -b.2 - zq a a' * -b.1) = _
    grind
  · show -(zp a a' * -b.1 + zq a a' * -b.2) = _
    grind
/-- of size, of length 1, whole over D -/
structure Un (n : Nat) (v : Rat × Rat) : Prop where
  u : v.1 * v.1 + v.2 * v.2 = 1
  d : ∃ D : Int, 0 < D ∧ Bi n D ∧ Cd D v.1 ∧ Cd D v.2
theorem Un.sz {n : Nat} {v : Rat × Rat} (h : Un n v) : Sz n v.1 ∧ Sz n v.2 := by
  obtain ⟨D, D0, hD, h1, h2⟩ := h.d
  have := unit_le h.u
  exact ⟨cd_sz D0 hD h1 this.1, cd_sz D0 hD h2 this.2⟩
theorem Un.mono {n m : Nat} {v : Rat × Rat} (h : Un n v) (l : n ≤ m) : Un m v := ⟨h.u, by obtain ⟨D, a, b, c⟩ := h.d; exact ⟨D, a, b.mono l, c⟩⟩
theorem Ln.un {p : Rat × Rat} (h : Ln p) : Un 11 p := ⟨h.u, h.d⟩
theorem un_v0 {b : Rat × Rat} (h : Ln b) : Un 11 (V0 b) := by
  obtain ⟨D, D0, hD, h1, h2⟩ := h.d
  refine ⟨?_, D, D0, hD, h2.neg, h1⟩
  show -b.2 * -b.2 + b.1 * b.1 = 1
  have := h.u
  grind
theorem un_v1 {a a' b : Rat × Rat} (h : Ln a) (h' : Ln a') (k : Ln b) : Un 33 (V1 a a' b) := by
  rw [v1_eq]
  obtain ⟨D, D0, hD, d1, d2⟩ := h.d
  obtain ⟨E, E0, hE, e1, e2⟩ := h'.d
  obtain ⟨F, F0, hF, f1, f2⟩ := k.d
  have zu := z_unit h.u h'.u
  have ku := k.u
  have zpd : Cd (D * E) (zp a a') := (d1.mul e1).sub (d2.mul e2)
  have zqd : Cd (D * E) (zq a a') := (d1.mul e2).add (d2.mul e1)
  refine ⟨?_, D * E * F, Int.mul_pos (Int.mul_pos D0 E0) F0, (hD.mul hE).mul hF, (zpd.mul f2).sub (zqd.mul f1), (zpd.mul f1).add (zqd.mul f2)⟩
  show (zp a a' * b.2 - zq a a' * b.1) * (zp a a' * b.2 - zq a a' * b.1) + (zp a a' * b.1 + zq a a' * b.2) * (zp a a' * b.1 + zq a a' * b.2) = 1
  have : (zp a a' * b.2 - zq a a' * b.1) * (zp a a' * b.2 - zq a a' * b.1) + (zp a a' * b.1 + zq a a' * b.2) * (zp a a' * b.1 + zq a a' * b.2) = (zp a a' * zp a a' + zq a a' * zq a a') * (b.1 * b.1 + b.2 * b.2) := by grind
  rw [this, zu, ku]
  decide +kernel
theorem un_vc {a a' b : Rat × Rat} (h : Ln a) (h' : Ln a') (k : Ln b) (j : Nat) : Un 33 (Vc a a' b j) := by
  unfold Vc
  split
  · exact (un_v0 k).mono (by decide)
  · exact un_v1 h h' k
def neg2 (p : Rat × Rat) : Rat × Rat := (-p.1, -p.2)
theorem un_ng {n : Nat} {v : Rat × Rat} (h : Un n v) : Un n (neg2 v) := by
  obtain ⟨D, D0, hD, h1, h2⟩ := h.d
  refine ⟨?_, D, D0, hD, h1.neg, h2.neg⟩
  show -v.1 * -v.1 + -v.2 * -v.2 = 1
  have := h.u
  grind
def crs (v w : Rat × Rat) : Rat := v.1 * w.2 - v.2 * w.1
def dt (v w : Rat × Rat) : Rat := v.1 * w.1 + v.2 * w.2
/-- the two angles of a corner: above 0 -/
theorem crs1 {a a' b : Rat × Rat} (h : Ln a) (h' : Ln a') (k : Ln b) (j : Nat) : 0 < crs a' (Vc a a' b j) := by
  unfold Vc crs
  split
  · show 0 < a'.1 * b.1 - a'.2 * -b.2
    have := ln_cos h' k
    grind
  · rw [v1_eq]
    show 0 < a'.1 * (zp a a' * b.1 + zq a a' * b.2) - a'.2 * (zp a a' * b.2 - zq a a' * b.1)
    have e : a'.1 * (zp a a' * b.1 + zq a a' * b.2) - a'.2 * (zp a a' * b.2 - zq a a' * b.1) = (a'.1 * a'.1 + a'.2 * a'.2) * (a.1 * b.1 + a.2 * b.2) := by
      unfold zp zq; grind
    rw [e, h'.u, Rat.one_mul]
    exact ln_cos h k
theorem crs2 {a a' b : Rat × Rat} (h : Ln a) (h' : Ln a') (k : Ln b) (j : Nat) : 0 < crs (Vc a a' b j) (neg2 a) := by
  unfold Vc crs neg2
  split
  · show 0 < -b.2 * -a.2 - b.1 * -a.1
    have := ln_cos h k
    grind
  · rw [v1_eq]
    show 0 < (zp a a' * b.2 - zq a a' * b.1) * -a.2 - (zp a a' * b.1 + zq a a' * b.2) * -a.1
    have e : (zp a a' * b.2 - zq a a' * b.1) * -a.2 - (zp a a' * b.1 + zq a a' * b.2) * -a.1 = (a.1 * a.1 + a.2 * a.2) * (a'.1 * b.1 + a'.2 * b.2) := by
      unfold zp zq; grind
    rw [e, h.u, Rat.one_mul]
    exact ln_cos h' k
def hf (v w : Rat × Rat) : Rat := crs v w / (1 + dt v w)
theorem hf_ok {v w : Rat × Rat} {n m : Nat} (h : Un n v) (k : Un m w) (c : 0 < crs v w) : 1 + dt v w ≠ 0 ∧ 0 < hf v w ∧ Sz (n + m + 1) (hf v w) := by
  obtain ⟨D, D0, hD, d1, d2⟩ := h.d
  obtain ⟨E, E0, hE, e1, e2⟩ := k.d
  exact half_ok h.u k.u c (Int.mul_pos D0 E0) (hD.mul hE) ((d1.mul e2).sub (d2.mul e1)) ((d1.mul e1).add (d2.mul e2))
def leansL (A : Nat → Rat × Rat) (ac : Nat) : D := .list ((List.range (ac + 1)).map fun i => prP (A i))
def colL (a a' b : Rat × Rat) (n : Nat) : D := .list ((List.range n).map fun j => prP (Vc a a' b j))
def colsL (A B : Nat → Rat × Rat) (ac up : Nat) : D := .list ((List.range ac).map fun i => colL (A i) (A (i + 1)) (B i) (up + 1))
theorem pairs_of {ys : List D} (h : ∀ (n : Nat) (y : D), ys[n]? = some y → ∃ p, y = prP p ∧ Ln p) : ∃ A : Nat → Rat × Rat, (∀ i, Ln (A i)) ∧ ys = (List.range ys.length).map fun i => prP (A i) := by
  induction ys with
  | nil => exact ⟨fun _ => (1, 0), fun _ => ln_one, rfl⟩
  | cons y ys ih =>
    obtain ⟨p, rfl, hp⟩ := h 0 y rfl
    obtain ⟨A, h1, h2⟩ := ih fun n z hz => h (n + 1) z (by simpa using hz)
    refine ⟨fun i => match i with | 0 => p | i + 1 => A i, fun i => ?_, ?_⟩
    · cases i with
      | zero => exact hp
      | succ i => exact h1 i
    · rw [List.length_cons, List.range_succ_eq_map, List.map_cons, List.map_map]
      congr 1
def t__law_directions (K : PySem.W.Frag) (E : XK) : TS :=
  (tSeq (tAsg (tLc (iRng1 (tCons (tOp (rAddA K) (tVar 1) (tC (.int 1))) tNil)) (gName 5) tYes (tCall (spF K (fs__law_leaning K)) [] E0 (tCons (tVar 0) (tCons (tVar 3) tNil))) [5]) (gName 4))
  (tSeq (tIfS (tTest (tOp (rEqD K) (tCall (spF K (fs__law_take K)) [] E0 (tCons (tVar 0) (tCons (tC (.int 6)) tNil))) (tC (.int 0)))) (tAsg (tLc (iRng1 (tCons (tOp (rAddA K) (tVar 1) (tC (.int 1))) tNil)) (gName 5) tYes (tOp (rIx K) (tVar 4) (tC (.int 0))) [5]) (gName 4)) tNext)
  (tSeq (tAsg (tLst tNil) (gName 6))
  (tSeq (tFor (iRng1 (tCons (tVar 1) tNil)) (gName 5) (tSeq (tAsg (tLst (tCons (tCall (spF K (fs__law_turn K)) [] E0 (tCons (tTup (tCons (tTup (tCons (tC (.int 0)) (tCons (tC (.int 1)) tNil))) (tCons (tTup (tCons (tC (.int 1)) (tCons (tC (.int 1)) tNil))) tNil))) (tCons (tCall (spF K (fs__law_leaning K)) [] E0 (tCons (tVar 0) (tCons (tVar 3) tNil))) tNil))) tNil)) (gName 7))
  (tSeq (tFor (iRng1 (tCons (tVar 2) tNil)) (gName 8) (tSeq (tAsg (tCall (spF K (fs__law_turn K)) [] E0 (tCons (tOp (rIx K) (tVar 4) (tVar 5)) (tCons (tOp (rIx K) (tVar 4) (tOp (rAddA K) (tVar 5) (tC (.int 1)))) tNil))) (gName 9))
  (tDrop (tBM K "list" rAppend (tVar 7) (tCons (tCall (spF K (fs__law_back K)) [] E0 (tCons (tCall (spF K (fs__law_turn K)) [] E0 (tCons (tVar 9) (tCons (tTup (tCons (tOp (rIx K) (tOp (rIx K) (tVar 7) (tVar 8)) (tC (.int 0))) (tCons (tCall (spF K (fs__law_neg K)) [] E0 (tCons (tOp (rIx K) (tOp (rIx K) (tVar 7) (tVar 8)) (tC (.int 1))) tNil)) tNil))) tNil))) tNil)) tNil)))))
  (tDrop (tBM K "list" rAppend (tVar 6) (tCons (tVar 7) tNil))))))
  (tRet (tTup (tCons (tVar 4) (tCons (tVar 6) tNil))))))))
def fs__law_directions (K : PySem.W.Frag) : FS := fsS3 fun x y z P _ => ∃ (ac up : Nat) (b : Int), x = .int ac ∧ y = .int up ∧ z = .int b ∧ ac ≤ 4 ∧ up ≤ 4 ∧ 4 ≤ b ∧ b ≤ 18 ∧ ∀ A B : Nat → Rat × Rat, (∀ i, Ln (A i)) → (∀ i, Ln (B i)) → P (.tuple [leansL A ac, colsL A B ac up])
theorem body__law_directions {K : PySem.W.Frag} {mg : Str → Option Value} (T : Txt K mg) (E : XK) : ∀ (as : List AV) (P : D → Prop) (PX : XD → Prop), fs__law_directions K as P PX → SatS (cn K E PX) (t__law_directions K E) (gin as 6) (den P) := bS3 fun k x y z P PX q => by
  obtain ⟨ac, up, b, rfl, rfl, rfl, a4, u4, b4, b18, q⟩ := q
  unfold t__law_directions
  have leanix : ∀ {A : Nat → Rat × Rat} {c : Cn} {G : Gm} {i : Int} {n : Nat} {P : D → Prop}, i = n → n ≤ ac → P (prP (A n)) → K2 c G (rIx c.K) (leansL A ac) (.int i) P := fun e l p => by
    refine k2_ix (.inl rfl) (atI_int e ?_) p
    rw [List.getElem?_map, List.getElem?_range (by omega)]
    rfl
  refine sat_seq (sat_asg (ev_ofL (el_comp (ei_rng1 ?_))))
  walk_at "dl"
  refine ⟨_, rfl, by omega, by omega, ?_⟩
  have e1 : ((ac : Int) + 1).toNat = ac + 1 := by omega
  rw [e1]
  refine compI_rel (fun n x y => ∃ p, y = prP p ∧ Ln p) (by rw [rngD_len]; omega) (fun n x hx => egw_name (by simp) ?_) fun ys l1 l2 => ?_
  · walk_at "dl"
    exact ⟨b4, b18, fun p hp => ⟨p, rfl, hp⟩⟩
  rw [rngD_len] at l1
  obtain ⟨A0, hA0, eA0⟩ := pairs_of (ys := ys) fun n y hy => by
    have hl : n < (rngD 0 (ac + 1)).length := by rw [rngD_len, ← l1]; exact (List.getElem?_eq_some_iff.mp hy).1
    exact l2 n _ _ (List.getElem?_eq_getElem hl) hy
  have rest : ∀ A : Nat → Rat × Rat, (∀ i, Ln (A i)) → ∀ s5, SatS (cn K E PX) (tSeq (tAsg (tLst tNil) (gName 6)) (tSeq
      (tFor (iRng1 (tCons (tVar 1) tNil)) (gName 5) (tSeq (tAsg (tLst (tCons (tCall (spF K (fs__law_turn K)) [] E0 (tCons (tTup (tCons (tTup (tCons (tC (.int 0)) (tCons (tC (.int 1)) tNil))) (tCons (tTup (tCons (tC (.int 1)) (tCons (tC (.int 1)) tNil))) tNil))) (tCons (tCall (spF K (fs__law_leaning K)) [] E0 (tCons (tVar 0) (tCons (tVar 3) tNil))) tNil))) tNil)) (gName 7))
      (tSeq (tFor (iRng1 (tCons (tVar 2) tNil)) (gName 8) (tSeq (tAsg (tCall (spF K (fs__law_turn K)) [] E0 (tCons (tOp (rIx K) (tVar 4) (tVar 5)) (tCons (tOp (rIx K) (tVar 4) (tOp (rAddA K) (tVar 5) (tC (.int 1)))) tNil))) (gName 9))
      (tDrop (tBM K "list" rAppend (tVar 7) (tCons (tCall (spF K (fs__law_back K)) [] E0 (tCons (tCall (spF K (fs__law_turn K)) [] E0 (tCons (tVar 9) (tCons (tTup (tCons (tOp (rIx K) (tOp (rIx K) (tVar 7) (tVar 8)) (tC (.int 0))) (tCons (tCall (spF K (fs__law_neg K)) [] E0 (tCons (tOp (rIx K) (tOp (rIx K) (tVar 7) (tVar 8)) (tC (.int 1))) tNil)) tNil))) tNil))) tNil)) tNil)))))
      (tDrop (tBM K "list" rAppend (tVar 6) (tCons (tVar 7) tNil))))))
      (tRet (tTup (tCons (tVar 4) (tCons (tVar 6) tNil)))))) ⟨[.st k, .d (.int ac), .d (.int up), .d (.int b), .d (leansL A ac), s5, .any, .any, .any, .any], []⟩ (den P) := by
    intro A hA s5
    walk_at "dl"
    refine sat_for (ei_rng1 ?_)
    walk_at "dl"
    refine ⟨_, rfl, by omega, by omega, ?_⟩
    rw [Int.toNat_natCast]
    refine ⟨fun n G' => n ≤ 4 ∧ ∃ B : Nat → Rat × Rat, (∀ i, Ln (B i)) ∧ ∃ s5 s7 s8 s9, (∀ h, s7 ≠ .hot h) ∧ G' = ⟨[.st k, .d (.int ac), .d (.int up), .d (.int b), .d (leansL A ac), s5, .hot 0, s7, s8, s9], [.lst ((List.range n).map fun i => colL (A i) (A (i + 1)) (B i) (up + 1))]⟩, ⟨by omega, fun _ => (1, 0), fun _ => ln_one, s5, .any, .any, .any, by simp, rfl⟩, ?_, ?_⟩
    · rintro n z G' hz ⟨hn4, B, hB, s5, s7, s8, s9, h7, rfl⟩
      obtain ⟨hn, rfl⟩ := rngD_of hz
      have sA := (hA n).sz
      have sA' := (hA (n + 1)).sz
      refine eg_name (sat_seq (sat_asgHot (el_lst ?_)))
      walk_at "dl"
      refine ⟨b4, b18, fun p hp => ?_⟩
      have sp := hp.sz
      walk_at "dl"
      refine ⟨_, _, _, _, rfl, rfl, Sz.zero.mono (by decide), Sz.one.mono (by decide), sp.1.mono (by decide), sp.2.mono (by decide), ?_⟩
      walk_at "dl"
      have e0 : prD (0 * p.1 - 1 * p.2) (0 * p.2 + 1 * p.1) = prP (V0 p) := by
        show _ = prD (-p.2) p.1
        have h1 : (0 : Rat) * p.1 - 1 * p.2 = -p.2 := by grind
        have h2 : (0 : Rat) * p.2 + 1 * p.1 = p.1 := by grind
        rw [h1, h2]
      rw [e0]
      refine sat_for (ei_rng1 ?_)
      walk_at "dl"
      refine ⟨_, rfl, by omega, by omega, ?_⟩
      rw [Int.toNat_natCast]
      refine ⟨fun m G' => m ≤ 4 ∧ ∃ s8 s9, G' = ⟨[.st k, .d (.int ac), .d (.int up), .d (.int b), .d (leansL A ac), .d (.int (0 + (n : Int))), .hot 0, .hot 1, s8, s9], [.lst ((List.range n).map fun i => colL (A i) (A (i + 1)) (B i) (up + 1)), .lst ((List.range (m + 1)).map fun j => prP (Vc (A n) (A (n + 1)) p j))]⟩, ⟨by omega, s8, s9, rfl⟩, ?_, ?_⟩
      · rintro m z G' hz ⟨hm4, s8, s9, rfl⟩
        obtain ⟨hm, rfl⟩ := rngD_of hz
        have sz1 : Sz 50 (zp (A n) (A (n + 1))) := (Sz.sub (Sz.mul sA.1 sA'.1) (Sz.mul sA.2 sA'.2)).mono (by decide)
        have sz2 : Sz 50 (zq (A n) (A (n + 1))) := (Sz.add (Sz.mul sA.1 sA'.2) (Sz.mul sA.2 sA'.1)).mono (by decide)
        have sv := (un_vc (hA n) (hA (n + 1)) hp m).sz
        obtain ⟨sv1, sv2⟩ := id sv
        have hv : ((List.range (m + 1)).map fun j => prP (Vc (A n) (A (n + 1)) p j))[m]? = some (prP (Vc (A n) (A (n + 1)) p m)) := by rw [List.getElem?_map, List.getElem?_range (by omega)]; rfl
        walk_at "dl"
        refine leanix (n := n) (by omega) (by omega) ?_
        walk_at "dl"
        refine leanix (n := n + 1) (by omega) (by omega) ?_
        walk_at "dl"
        refine ⟨_, _, _, _, rfl, rfl, sA.1.mono (by decide), sA.2.mono (by decide), sA'.1.mono (by decide), sA'.2.mono (by decide), ?_⟩
        refine sat_append rfl rfl (by rw [List.length_map, List.length_range]; omega) ?_
        walk_at "dl"
        refine ⟨_, _, rfl, atI_int (n := m) (by omega) hv, ?_⟩
        unfold prP prD
        walk_at "dl"
        refine ⟨_, _, rfl, atI_int (n := m) (by omega) hv, ?_⟩
        unfold prP prD
        walk_at "dl"
        refine ⟨_, _, _, _, rfl, rfl, sz1.mono (by decide), sz2.mono (by decide), sv.1.mono (by decide), sv.2.neg.mono (by decide), ?_⟩
        walk_at "dl"
        refine ⟨by omega, .d (.int (0 + (m : Int))), .d (prD (zp (A n) (A (n + 1))) (zq (A n) (A (n + 1)))), ?_⟩
        rw [List.range_succ (n := m + 1), List.map_append, List.map_singleton, ← vc_next (hA n) (hA (n + 1)) m]
        rfl
      · rintro G' ⟨hm4, s8, s9, rfl⟩
        rw [rngD_len]
        refine sat_coolpop (hot := [.lst _]) ?_
        refine sat_append rfl rfl (by rw [List.length_map, List.length_range]; omega) ?_
        walk_at "dl"
        refine ⟨by omega, fun i => if i = n then p else B i, fun i => by (show Ln (if i = n then p else B i)); split; exact hp; exact hB i, .d (.int (0 + (n : Int))), .d (colL (A n) (A (n + 1)) p (up + 1)), SV.cool 1 (colL (A n) (A (n + 1)) p (up + 1)) s8, SV.cool 1 (colL (A n) (A (n + 1)) p (up + 1)) s9, by simp, ?_⟩
        have em : ((List.range n).map fun i => colL (A i) (A (i + 1)) (if i = n then p else B i) (up + 1)) = (List.range n).map fun i => colL (A i) (A (i + 1)) (B i) (up + 1) := by
          refine List.map_congr_left fun i hi => ?_
          have := List.mem_range.mp hi
          rw [if_neg (by omega)]
        show _ = Gm.mk _ [.lst ((List.range (n + 1)).map fun i => colL (A i) (A (i + 1)) (if i = n then p else B i) (up + 1))]
        rw [List.range_succ (n := n), List.map_append, List.map_singleton, em, if_pos rfl]
        rfl
    · rintro G' ⟨hn4, B, hB, s5, s7, s8, s9, h7, rfl⟩
      rw [rngD_len]
      refine sat_coolpop (hot := []) ?_
      walk_at "dl"
      exact q A B hA hB
  rw [eA0, l1]
  walk_at "dl"
  intro d _ _
  walk_at "dl"
  refine ⟨fun h => ?_, fun h => ?_⟩
  · refine sat_asg (ev_ofL (el_comp (ei_rng1 ?_)))
    walk_at "dl"
    refine ⟨_, rfl, by omega, by omega, ?_⟩
    rw [e1]
    refine compI_map (ys := (List.range (ac + 1)).map fun _ => prP (A0 0)) (by simp [rngD_len]) (by rw [rngD_len]; omega) (fun n z y hz hy => egw_name (by simp) ?_) ?_
    · obtain ⟨hn, rfl⟩ := rngD_of hz
      rw [List.getElem?_map, List.getElem?_range hn] at hy
      cases hy
      walk_at "dl"
      exact leanix (A := A0) (n := 0) rfl (by omega) rfl
    · exact rest (fun _ => A0 0) (fun _ => hA0 0) .any
  · refine sat_next ?_
    exact rest A0 hA0 .any
section
variable {P : Program} {w : World} {K : PySem.W.Frag} {mg : Str → Option Value} {base : Heap}
theorem ok__law_directions {fd : FuncData} (F : FnP K "_law_directions" s__law_directions fd) (T : Txt K mg) (c__law_back : Cal P w K mg base 4 "_law_back" ["step"] (fs__law_back K)) (c__law_leaning : Cal P w K mg base 3 "_law_leaning" ["stream", "bottom"] (fs__law_leaning K)) (c__law_neg : Cal P w K mg base 1 "_law_neg" ["one"] (fs__law_neg K)) (c__law_take : Cal P w K mg base 2 "_law_take" ["stream", "many"] (fs__law_take K)) (c__law_turn : Cal P w K mg base 3 "_law_turn" ["one", "other"] (fs__law_turn K)) : FnOk P w K mg base (L2.CX P w) 5 (He.ga K "_law_directions") fd ["stream", "across", "up", "bottom"] (spF K (fs__law_directions K)) := by
  refine fn_ok (k := 4) F sc__law_directions len_S3 (by decide) (t__law_directions K) (fun cdv A outer s H E hr => ?_) (body__law_directions T)
  exact (pss_cons (ps_set (i := 4) sc__law_directions.nd rfl (Or.inr rfl) (pe_lc (own := [("i", 5)]) (g := (gName 5)) (tt := tYes) rfl sc__law_directions.nd (pi_range1 (by rfl) T.n_range (pa_cons (pe_op op_addA (pv 1) pe_int) pa_nil)) (blkOk_by (own := [("i", 5)]) (N := N__law_directions) (sc := defScope s__law_directions) (by decide +kernel)) (fun _ _ _ _ _ => (pg_name (i := 5) sc__law_directions.nd rfl (by first | exact Or.inl rfl | exact Or.inr rfl))) (fun _ _ _ _ _ => pts_nil) (fun _ _ _ _ _ => (pe_cal c__law_leaning hr (by decide) rfl (pa_cons (pv 0) (pa_cons (pv 3) pa_nil))))))
  (pss_cons (ps_if (pt_cmpR (op_eqD hr.units) (pe_cal c__law_take hr (by decide) rfl (pa_cons (pv 0) (pa_cons pe_int pa_nil))) pe_int (nomark _)) (pss_one (ps_set (i := 4) sc__law_directions.nd rfl (Or.inr rfl) (pe_lc (own := [("i", 5)]) (g := (gName 5)) (tt := tYes) rfl sc__law_directions.nd (pi_range1 (by rfl) T.n_range (pa_cons (pe_op op_addA (pv 1) pe_int) pa_nil)) (blkOk_by (own := [("i", 5)]) (N := N__law_directions) (sc := defScope s__law_directions) (by decide +kernel)) (fun _ _ _ _ _ => (pg_name (i := 5) sc__law_directions.nd rfl (by first | exact Or.inl rfl | exact Or.inr rfl))) (fun _ _ _ _ _ => pts_nil) (fun _ _ _ _ _ => (pe_ix ix_seq (pv 4) pe_int (fun _ _ => rfl)))))) pss_nil)
  (pss_cons (ps_set (i := 6) sc__law_directions.nd rfl (Or.inl rfl) (pe_lst pa_nil))
  (pss_cons (ps_for (passes_of rfl) rfl (pi_range1 (by rfl) T.n_range (pa_cons (pv 1) pa_nil)) (pg_name (i := 5) sc__law_directions.nd rfl (Or.inl rfl)) (pss_cons (ps_set (i := 7) sc__law_directions.nd rfl (Or.inl rfl) (pe_lst (pa_cons (pe_cal c__law_turn hr (by decide) rfl (pa_cons (pe_tup (pa_cons (pe_tup (pa_cons pe_int (pa_cons pe_int pa_nil))) (pa_cons (pe_tup (pa_cons pe_int (pa_cons pe_int pa_nil))) pa_nil))) (pa_cons (pe_cal c__law_leaning hr (by decide) rfl (pa_cons (pv 0) (pa_cons (pv 3) pa_nil))) pa_nil))) pa_nil)))
  (pss_cons (ps_for (passes_of rfl) rfl (pi_range1 (by rfl) T.n_range (pa_cons (pv 2) pa_nil)) (pg_name (i := 8) sc__law_directions.nd rfl (Or.inl rfl)) (pss_cons (ps_set (i := 9) sc__law_directions.nd rfl (Or.inl rfl) (pe_cal c__law_turn hr (by decide) rfl (pa_cons (pe_ix ix_seq (pv 4) (pv 5) (fun _ _ => rfl)) (pa_cons (pe_ix ix_seq (pv 4) (pe_op op_addA (pv 5) pe_int) (fun _ _ => rfl)) pa_nil))))
  (pss_one (ps_expr (pe_bm PySem.F.plainAttrs_list PySem.F.slot_list_append PySem.F.type_list_append mt_append (pv 7) (pa_cons (pe_cal c__law_back hr (by decide) rfl (pa_cons (pe_cal c__law_turn hr (by decide) rfl (pa_cons (pv 9) (pa_cons (pe_tup (pa_cons (pe_ix ix_seq (pe_ix ix_seq (pv 7) (pv 8) (fun _ _ => rfl)) pe_int (fun _ _ => rfl)) (pa_cons (pe_cal c__law_neg hr (by decide) rfl (pa_cons (pe_ix ix_seq (pe_ix ix_seq (pv 7) (pv 8) (fun _ _ => rfl)) pe_int (fun _ _ => rfl)) pa_nil)) pa_nil))) pa_nil))) pa_nil)) pa_nil))))))
  (pss_one (ps_expr (pe_bm PySem.F.plainAttrs_list PySem.F.slot_list_append PySem.F.type_list_append mt_append (pv 6) (pa_cons (pv 7) pa_nil)))))))
  (pss_one (ps_ret (pe_tup (pa_cons (pv 4) (pa_cons (pv 6) pa_nil)))))))))
end
structure OkB (p : Rat × Rat) : Prop where
  s1 : Sz 190 p.1
  s2 : Sz 190 p.2
  p1 : 0 < p.1
  p2 : 0 < p.2
def tabL (tl : List (List (Rat × Rat))) : D := .list (tl.map fun r => .list (r.map prP))
def GoodL (up ac : Nat) (tl : List (List (Rat × Rat))) : Prop := tl.length = up ∧ ∀ r ∈ tl, r.length = ac ∧ ∀ p ∈ r, OkB p
def t__law_level_table (K : PySem.W.Frag) (E : XK) : TS :=
  (tSeq (tAsg (tLst tNil) (gName 2))
  (tSeq (tFor (iRng2 (tCons (tC (.int 1)) (tCons (tCB (rLenB K) (tCons (tOp (rIx K) (tVar 1) (tC (.int 0))) tNil)) tNil))) (gName 3) (tSeq (tAsg (tLst tNil) (gName 4))
  (tSeq (tFor (iRng1 (tCons (tCB (rLenB K) (tCons (tVar 1) tNil)) tNil)) (gName 5) (tSeq (tAsg (tOp (rIx K) (tOp (rIx K) (tVar 1) (tVar 5)) (tVar 3)) (gName 6))
  (tDrop (tBM K "list" rAppend (tVar 4) (tCons (tTup (tCons (tCall (spF K (fs__law_half K)) [] E0 (tCons (tOp (rIx K) (tVar 0) (tOp (rAddA K) (tVar 5) (tC (.int 1)))) (tCons (tVar 6) tNil))) (tCons (tCall (spF K (fs__law_half K)) [] E0 (tCons (tVar 6) (tCons (tCall (spF K (fs__law_back K)) [] E0 (tCons (tOp (rIx K) (tVar 0) (tVar 5)) tNil)) tNil))) tNil))) tNil)))))
  (tDrop (tBM K "list" rAppend (tVar 2) (tCons (tVar 4) tNil))))))
  (tRet (tVar 2))))
def fs__law_level_table (K : PySem.W.Frag) : FS := fsD2 fun x y P _ => ∃ (A B : Nat → Rat × Rat) (ac up : Nat), x = leansL A ac ∧ y = colsL A B ac up ∧ 1 ≤ ac ∧ ac ≤ 4 ∧ 1 ≤ up ∧ up ≤ 4 ∧ (∀ i, Ln (A i)) ∧ (∀ i, Ln (B i)) ∧ ∀ tl, GoodL up ac tl → P (tabL tl)
theorem body__law_level_table {K : PySem.W.Frag} {mg : Str → Option Value} (T : Txt K mg) (E : XK) : ∀ (as : List AV) (P : D → Prop) (PX : XD → Prop), fs__law_level_table K as P PX → SatS (cn K E PX) (t__law_level_table K E) (gin as 5) (den P) := bD2 fun x y P PX q => by
  obtain ⟨A, B, ac, up, rfl, rfl, a1, a4, u1, u4, hA, hB, q⟩ := q
  have leanix : ∀ {c : Cn} {G : Gm} {i : Int} {n : Nat} {P : D → Prop}, i = n → n ≤ ac → P (prP (A n)) → K2 c G (rIx c.K) (leansL A ac) (.int i) P := fun e l p => by
    refine k2_ix (.inl rfl) (atI_int e ?_) p
    rw [List.getElem?_map, List.getElem?_range (by omega)]
    rfl
  have colix : ∀ {c : Cn} {G : Gm} {i : Int} {n : Nat} {P : D → Prop}, i = n → n < ac → P (colL (A n) (A (n + 1)) (B n) (up + 1)) → K2 c G (rIx c.K) (colsL A B ac up) (.int i) P := fun e l p => by
    refine k2_ix (.inl rfl) (atI_int e ?_) p
    rw [List.getElem?_map, List.getElem?_range (by omega)]
    rfl
  have lenc : ∀ n, rowD (colL (A n) (A (n + 1)) (B n) (up + 1)) = some ((List.range (up + 1)).map fun j => prP (Vc (A n) (A (n + 1)) (B n) j)) := fun _ => rfl
  unfold t__law_level_table
  walk_at "dl"
  refine sat_for (ei_rng2 ?_)
  walk_at "dl"
  refine colix (n := 0) rfl (by omega) ?_
  walk_at "dl"
  rw [List.length_map, List.length_range]
  refine ⟨by omega, by omega, by omega, by omega, ?_⟩
  have en : (((up + 1 : Nat) : Int) - 1).toNat = up := by omega
  rw [en]
  refine ⟨fun n G' => n ≤ 4 ∧ ∃ tl, GoodL n ac tl ∧ ∃ s3 s4 s5 s6, G' = ⟨[.d (leansL A ac), .d (colsL A B ac up), .hot 0, s3, s4, s5, s6], [.lst (tl.map fun r => .list (r.map prP))]⟩, ⟨by omega, [], ⟨rfl, by simp⟩, .any, .any, .any, .any, rfl⟩, ?_, ?_⟩
  · rintro n z G' hz ⟨hn4, tl, htl, s3, s4, s5, s6, rfl⟩
    obtain ⟨hn, rfl⟩ := rngD_of hz
    refine eg_name (sat_seq (sat_asgHot (el_lst (ea_nil ⟨_, rfl, by decide, ?_⟩))))
    walk_at "dl"
    refine sat_for (ei_rng1 ?_)
    walk_at "dl"
    rw [List.length_map, List.length_range]
    refine ⟨_, rfl, by omega, by omega, ?_⟩
    rw [Int.toNat_natCast]
    refine ⟨fun m G' => m ≤ 4 ∧ ∃ r : List (Rat × Rat), r.length = m ∧ (∀ p ∈ r, OkB p) ∧ ∃ s5 s6, G' = ⟨[.d (leansL A ac), .d (colsL A B ac up), .hot 0, .d (.int (1 + (n : Int))), .hot 1, s5, s6], [.lst (tl.map fun r => .list (r.map prP)), .lst (r.map prP)]⟩, ⟨by omega, [], rfl, by simp, s5, s6, rfl⟩, ?_, ?_⟩
    · rintro m z G' hz ⟨hm4, r, hr, hok, s5, s6, rfl⟩
      obtain ⟨hm, rfl⟩ := rngD_of hz
      have uv := un_vc (hA m) (hA (m + 1)) (hB m) (n + 1)
      have ua := (hA m).un
      have ua' := (hA (m + 1)).un
      obtain ⟨g1, g2, g3⟩ := hf_ok ua' uv (crs1 (hA m) (hA (m + 1)) (hB m) (n + 1))
      obtain ⟨k1, k2, k3⟩ := hf_ok uv (un_ng ua) (crs2 (hA m) (hA (m + 1)) (hB m) (n + 1))
      have sv := uv.sz
      have sa := ua.sz
      have sa' := ua'.sz
      obtain ⟨sa1, sa2⟩ := id sa
      walk_at "dl"
      refine colix (n := m) (by omega) hm ?_
      walk_at "dl"
      refine ix_row (n := n + 1) (lenc m) (by omega) (by rw [List.getElem?_map, List.getElem?_range (by omega)]; rfl) ?_
      refine sat_append rfl rfl (by rw [List.length_map]; omega) ?_
      walk_at "dl"
      refine leanix (n := m + 1) (by omega) (by omega) ?_
      walk_at "dl"
      refine ⟨_, _, _, _, rfl, rfl, sa'.1.mono (by decide), sa'.2.mono (by decide), sv.1.mono (by decide), sv.2.mono (by decide), g1, ?_⟩
      walk_at "dl"
      refine leanix (n := m) (by omega) (by omega) ?_
      walk_at "dl"
      refine ⟨_, _, _, _, rfl, rfl, sv.1.mono (by decide), sv.2.mono (by decide), sa.1.neg.mono (by decide), sa.2.neg.mono (by decide), k1, ?_⟩
      walk_at "dl"
      refine ⟨by omega, r ++ [(hf (A (m + 1)) (Vc (A m) (A (m + 1)) (B m) (n + 1)), hf (Vc (A m) (A (m + 1)) (B m) (n + 1)) (neg2 (A m)))], by simp [hr], fun p hp => ?_, .d (.int (0 + (m : Int))), .d (prP (Vc (A m) (A (m + 1)) (B m) (n + 1))), ?_⟩
      · rcases List.mem_append.mp hp with h | h
        · exact hok p h
        · have : p = _ := List.mem_singleton.mp h
          subst this
          exact ⟨g3.mono (by decide), k3.mono (by decide), g2, k2⟩
      · rw [List.map_append]
        rfl
    · rintro G' ⟨hm4, r, hr, hok, s5, s6, rfl⟩
      rw [rngD_len] at hr
      refine sat_coolpop (hot := [.lst _]) ?_
      refine sat_append rfl rfl (by rw [List.length_map, htl.1]; omega) ?_
      walk_at "dl"
      refine ⟨by omega, tl ++ [r], ⟨by simp [htl.1], fun r' hr' => ?_⟩, .d (.int (1 + (n : Int))), .d (.list (r.map prP)), SV.cool 1 (.list (r.map prP)) s5, SV.cool 1 (.list (r.map prP)) s6, ?_⟩
      · rcases List.mem_append.mp hr' with h | h
        · exact htl.2 r' h
        · have : r' = r := List.mem_singleton.mp h
          subst this
          exact ⟨hr, hok⟩
      · rw [List.map_append]
        rfl
  · rintro G' ⟨hn4, tl, htl, s3, s4, s5, s6, rfl⟩
    rw [rngD_len] at htl
    refine sat_retHot rfl rfl ?_
    exact q tl htl
section
variable {P : Program} {w : World} {K : PySem.W.Frag} {mg : Str → Option Value} {base : Heap}
theorem ok__law_level_table {fd : FuncData} (F : FnP K "_law_level_table" s__law_level_table fd) (T : Txt K mg) (c__law_back : Cal P w K mg base 4 "_law_back" ["step"] (fs__law_back K)) (c__law_half : Cal P w K mg base 4 "_law_half" ["one", "other"] (fs__law_half K)) : FnOk P w K mg base (L2.CX P w) 5 (He.ga K "_law_level_table") fd ["leans", "columns"] (spF K (fs__law_level_table K)) := by
  refine fn_ok (k := 4) F sc__law_level_table len_D2 (by decide) (t__law_level_table K) (fun cdv A outer s H E hr => ?_) (body__law_level_table T)
  exact (pss_cons (ps_set (i := 2) sc__law_level_table.nd rfl (Or.inl rfl) (pe_lst pa_nil))
  (pss_cons (ps_for (passes_of rfl) rfl (pi_range2 (by rfl) T.n_range (pa_cons pe_int (pa_cons (pe_callB call_len (by rfl) T.n_len (by decide +kernel) (pa_cons (pe_ix ix_seq (pv 1) pe_int (fun _ _ => rfl)) pa_nil)) pa_nil))) (pg_name (i := 3) sc__law_level_table.nd rfl (Or.inl rfl)) (pss_cons (ps_set (i := 4) sc__law_level_table.nd rfl (Or.inl rfl) (pe_lst pa_nil))
  (pss_cons (ps_for (passes_of rfl) rfl (pi_range1 (by rfl) T.n_range (pa_cons (pe_callB call_len (by rfl) T.n_len (by decide +kernel) (pa_cons (pv 1) pa_nil)) pa_nil)) (pg_name (i := 5) sc__law_level_table.nd rfl (Or.inl rfl)) (pss_cons (ps_set (i := 6) sc__law_level_table.nd rfl (Or.inl rfl) (pe_ix ix_seq (pe_ix ix_seq (pv 1) (pv 5) (fun _ _ => rfl)) (pv 3) (fun _ _ => rfl)))
  (pss_one (ps_expr (pe_bm PySem.F.plainAttrs_list PySem.F.slot_list_append PySem.F.type_list_append mt_append (pv 4) (pa_cons (pe_tup (pa_cons (pe_cal c__law_half hr (by decide) rfl (pa_cons (pe_ix ix_seq (pv 0) (pe_op op_addA (pv 5) pe_int) (fun _ _ => rfl)) (pa_cons (pv 6) pa_nil))) (pa_cons (pe_cal c__law_half hr (by decide) rfl (pa_cons (pv 6) (pa_cons (pe_cal c__law_back hr (by decide) rfl (pa_cons (pe_ix ix_seq (pv 0) (pv 5) (fun _ _ => rfl)) pa_nil)) pa_nil))) pa_nil))) pa_nil))))))
  (pss_one (ps_expr (pe_bm PySem.F.plainAttrs_list PySem.F.slot_list_append PySem.F.type_list_append mt_append (pv 2) (pa_cons (pv 4) pa_nil)))))))
  (pss_one (ps_ret (pv 2)))))
end
end X85
end
section
namespace X85
open PySem L2 DL
local macro_rules | `(tactic| walk_at "bi") => `(tactic| first
  | assumption
  | exact Sz.nb (by assumption) (by decide) | exact Sz.db (by assumption) (by decide)
  | (unfold Bi; decide))
local macro_rules | `(tactic| walk_at "sz0") => `(tactic| first
  | assumption
  | exact Sz.one | exact Sz.zero
  | ((apply Sz.neg); (· walk_at "sz0"))
  | ((apply Sz.mul); (· walk_at "sz0"); (· walk_at "sz0"))
  | ((apply Sz.add); (· walk_at "sz0"); (· walk_at "sz0"))
  | ((apply Sz.sub); (· walk_at "sz0"); (· walk_at "sz0"))
  | ((apply Sz.div); (· walk_at "sz0"); (· walk_at "sz0"); (· assumption)))
local macro_rules | `(tactic| walk_at "sz") => `(tactic| first | assumption | ((apply Sz.mono); (· walk_at "sz0"); (· decide)))
local macro_rules | `(tactic| walk_at "d1") => `(tactic| first
  | refine sat_retHot rfl rfl ?_
  | with_reducible refine sat_seq ?_ | with_reducible refine sat_drop ?_ | with_reducible refine sat_if ?_ | with_reducible refine sat_ret ?_ | with_reducible refine sat_retN ?_ | with_reducible refine sat_next ?_ | with_reducible refine sat_par ?_
  | with_reducible refine sat_asgHot (el_lst (ea_nil ⟨_, rfl, Nat.le_of_ble_eq_true rfl, ?_⟩))
  | refine sat_setSt _ rfl (by decide) ?_ | refine sat_append rfl rfl (by simp) ?_
  | with_reducible refine sat_asg ?_ | with_reducible refine sat_asgG ?_ | with_reducible refine eg_tup4 ?_ | with_reducible refine eg_tup2 ?_ | with_reducible refine eg_name ?_
  | with_reducible refine evt_of ?_ | with_reducible refine evt_B ?_ | with_reducible refine evt_and ?_ | with_reducible refine evt_or ?_ | with_reducible refine evt_not ?_ | with_reducible refine evt_yes ?_
  | ((with_reducible apply ev_var); · exact rfl)
  | with_reducible refine ev_int ?_ | with_reducible refine ev_str ?_ | with_reducible refine ev_bl ?_ | with_reducible refine ev_non ?_
  | refine ev_stI _ rfl (by decide) ?_ | refine ev_stL rfl ?_
  | refine ev_ixHot rfl rfl ?_ | refine ev_lenHot rfl rfl ?_
  | with_reducible refine ev_op ?_ | with_reducible refine ev_neg ?_ | with_reducible refine ev_and ?_ | with_reducible refine ev_or ?_ | with_reducible refine ev_not ?_ | with_reducible refine ev_if ?_ | with_reducible refine ev_chain ?_
  | with_reducible refine ev_tup ?_ | with_reducible refine ev_call ?_ | with_reducible refine ev_callS ?_ | with_reducible refine ev_callKS ?_
  | refine ev_isiT (ns := ["list", "tuple"]) (by decide) ?_
  | with_reducible refine ev_cb ?_
  | with_reducible refine ea_nil ?_ | refine ea_val (v := .ty _) ?_ | ((with_reducible apply ea_st); · exact rfl) | with_reducible refine ea_cons ?_
  | refine ev_int ?_
  | refine ix_fr0 ?_ | refine ix_fr1 ?_ | refine k2_ix (.inl rfl) rfl ?_ | refine k2_ix (.inr rfl) rfl ?_
  | refine k2_mul (bi_mulOk (n := 9000) (m := 9000) (by walk_at "bi") (by walk_at "bi") (by decide)) ?_
  | refine k2_add ?_
  | refine k2_eqI ?_ | refine k2_neI ?_ | refine k2_eqF ?_ | refine k2_eqF2 ?_ | refine k2_neB ?_ | refine k2_is ?_ | refine k2_isnot ?_ | refine k2_isB ?_
  | refine k2_IB ?_ | refine k2_II ?_
  | refine kc_abs ?_ | refine kc_intI ?_ | refine kc_isi rfl ?_ | refine kc_len rfl ?_ | refine kc_all ?_
  | refine tup_one ?_ | refine tup_zero ?_ | refine tup_m1 ?_ | refine tup_neg ?_ | refine tup_any rfl (Nat.le_of_ble_eq_true rfl) ?_
  | refine tt_split ?_ | refine ff_split ?_
  | refine bool_any ?_ | refine int_any ?_ | refine fr_any ?_ | refine ⟨_, _, rfl, ?_⟩
  | ((refine cD1 ?_); (try dsimp only)) | ((refine cD2 ?_); (try dsimp only)) | ((refine cD3 ?_); (try dsimp only)) | ((refine cD4 ?_); (try dsimp only)) | ((refine cS0 ?_); (try dsimp only)) | ((refine cS1 ?_); (try dsimp only)) | ((refine cS2 ?_); (try dsimp only)) | ((refine cS3 ?_); (try dsimp only))
  | refine sz_and (by walk_at "sz") ?_
  | refine take_and (by first | decide | omega) (by first | decide | omega) ?_
  | refine ne_and (by assumption) ?_
  | refine ev_c (rp_ONE (by assumption)) ?_ | refine ev_c (rp_ZERO (by assumption)) ?_
  | refine ⟨_, _, rfl, rfl, ?_⟩ | refine ⟨_, _, _, rfl, rfl, rfl, ?_⟩ | refine ⟨_, _, _, _, rfl, rfl, rfl, rfl, ?_⟩)
local macro_rules | `(tactic| walk_at "dl") => `(tactic| repeat (walk_at "d1"))

def sl0 (f s r : Rat) : Rat := (1 * 1 - f * s) * 1 - (1 * s + f * 1) * -r
def sl1 (f s r : Rat) : Rat := (1 * 1 - f * s) * -r + (1 * s + f * 1) * 1
theorem slope_sz {n : Nat} {f s r : Rat} (sf : Sz n f) (ss : Sz 10 s) (sr : Sz 10 r) (h : sl0 f s r ≠ 0) : Sz (n + 22) (sl1 f s r / sl0 f s r) := by
  obtain ⟨ef, df⟩ := nd_eq f
  obtain ⟨es, ds⟩ := nd_eq s
  obtain ⟨er, dr⟩ := nd_eq r
  have e0 : ((((f.den : Int) * s.den - f.num * s.num) * r.den - (f.den * s.num + f.num * s.den) * -r.num : Int) : Rat) = sl0 f s r * ((f.den : Int) : Rat) * ((s.den : Int) : Rat) * ((r.den : Int) : Rat) := by
    rw [Rat.intCast_sub, Rat.intCast_mul, Rat.intCast_sub, Rat.intCast_mul, Rat.intCast_mul, Rat.intCast_mul, Rat.intCast_add, Rat.intCast_mul, Rat.intCast_mul, Rat.intCast_neg, ef, es, er]
    unfold sl0
    grind
  have e1 : ((((f.den : Int) * s.den - f.num * s.num) * -r.num + (f.den * s.num + f.num * s.den) * r.den : Int) : Rat) = sl1 f s r * ((f.den : Int) : Rat) * ((s.den : Int) : Rat) * ((r.den : Int) : Rat) := by
    rw [Rat.intCast_add, Rat.intCast_mul, Rat.intCast_sub, Rat.intCast_mul, Rat.intCast_mul, Rat.intCast_mul, Rat.intCast_add, Rat.intCast_mul, Rat.intCast_mul, Rat.intCast_neg, ef, es, er]
    unfold sl1
    grind
  have nz : sl0 f s r * ((f.den : Int) : Rat) * ((s.den : Int) : Rat) * ((r.den : Int) : Rat) ≠ 0 := by
    intro z
    rcases Rat.mul_eq_zero.mp z with z | z
    · rcases Rat.mul_eq_zero.mp z with z | z
      · rcases Rat.mul_eq_zero.mp z with z | z
        · exact h z
        · exact df z
      · exact ds z
    · exact dr z
  have e : sl1 f s r / sl0 f s r = Rat.divInt (((f.den : Int) * s.den - f.num * s.num) * -r.num + (f.den * s.num + f.num * s.den) * r.den) (((f.den : Int) * s.den - f.num * s.num) * r.den - (f.den * s.num + f.num * s.den) * -r.num) := by
    rw [Rat.divInt_eq_div, e0, e1]
    grind
  have b1 : Bi (n + 11) ((f.den : Int) * s.den - f.num * s.num) := ((sf.2.mul ss.2).sub1 (sf.1.mul ss.1)).mono (by omega)
  have b2 : Bi (n + 11) ((f.den : Int) * s.num + f.num * s.den) := ((sf.2.mul ss.1).add1 (sf.1.mul ss.2)).mono (by omega)
  rw [e]
  refine sz_divInt ?_ ?_ (fun z => nz (by rw [← e0, z]; rfl))
  · exact ((b1.mul sr.1.neg).add1 (b2.mul sr.2)).mono (by omega)
  · exact ((b1.mul sr.2).sub1 (b2.mul sr.1.neg)).mono (by omega)
theorem not_le_num {q : Rat} (h : decide (q.num ≤ 0) = false) : 0 < q := by
  have := of_decide_eq_false h
  exact num_pos.mp (by omega)
def t__law_new_slope (K : PySem.W.Frag) (E : XK) : TS :=
  (tSeq (tAsg (tCall (spF K (fs__law_turn K)) [] E0 (tCons (tTup (tCons (tTup (tCons (tC (.int 1)) (tCons (tC (.int 1)) tNil))) (tCons (tVar 0) tNil))) (tCons (tTup (tCons (tTup (tCons (tC (.int 1)) (tCons (tC (.int 1)) tNil))) (tCons (tVar 1) tNil))) tNil))) (gName 3))
  (tSeq (tAsg (tCall (spF K (fs__law_turn K)) [] E0 (tCons (tVar 3) (tCons (tTup (tCons (tTup (tCons (tC (.int 1)) (tCons (tC (.int 1)) tNil))) (tCons (tCall (spF K (fs__law_neg K)) [] E0 (tCons (tVar 2) tNil)) tNil))) tNil))) (gName 4))
  (tSeq (tIfS (tOr (tTest (tOp rLeI (tOp (rIx K) (tOp (rIx K) (tVar 4) (tC (.int 0))) (tC (.int 0))) (tC (.int 0)))) (tTest (tOp rLeI (tOp (rIx K) (tOp (rIx K) (tVar 4) (tC (.int 1))) (tC (.int 0))) (tC (.int 0))))) (tRet (tC .non)) tNext)
  (tRet (tCall (spF K (fs__law_div K)) [] E0 (tCons (tOp (rIx K) (tVar 4) (tC (.int 1))) (tCons (tOp (rIx K) (tVar 4) (tC (.int 0))) tNil)))))))
def fs__law_new_slope (K : PySem.W.Frag) : FS := fsD3 fun x y z P _ => ∃ (f s r : Rat) (n : Nat), x = fr f ∧ y = fr s ∧ z = fr r ∧ n ≤ 80 ∧ Sz n f ∧ Sz 10 s ∧ Sz 10 r ∧ P .none ∧ ∀ g, 0 < g → Sz (n + 22) g → P (fr g)
theorem body__law_new_slope {K : PySem.W.Frag} {mg : Str → Option Value} (T : Txt K mg) (E : XK) : ∀ (as : List AV) (P : D → Prop) (PX : XD → Prop), fs__law_new_slope K as P PX → SatS (cn K E PX) (t__law_new_slope K E) (gin as 2) (den P) := bD3 fun x y z P PX q => by
  obtain ⟨f, s, r, n, rfl, rfl, rfl, hn, sf, ss, sr, q1, q2⟩ := q
  have sf8 := sf.mono hn
  have sx : Sz 93 (1 * 1 - f * s) := by walk_at "sz"
  have sy : Sz 93 (1 * s + f * 1) := by walk_at "sz"
  have s0 : Sz 900 (sl0 f s r) := by unfold sl0; walk_at "sz"
  have s1 : Sz 900 (sl1 f s r) := by unfold sl1; walk_at "sz"
  have o9 : Sz 900 1 := Sz.one.mono (by decide)
  unfold t__law_new_slope
  walk_at "dl"
  refine ⟨_, _, _, _, rfl, rfl, o9, sf8.mono (by decide), o9, ss.mono (by decide), ?_⟩
  walk_at "dl"
  refine ⟨_, _, _, _, rfl, rfl, sx.mono (by decide), sy.mono (by decide), o9, sr.neg.mono (by decide), ?_⟩
  have e : prD ((1 * 1 - f * s) * 1 - (1 * s + f * 1) * -r) ((1 * 1 - f * s) * -r + (1 * s + f * 1) * 1) = .tuple [fr (sl0 f s r), fr (sl1 f s r)] := rfl
  rw [e]
  walk_at "dl"
  refine ⟨fun h => ?_, fun h => ?_⟩
  · walk_at "dl"
    exact q1
  · have p0 := not_le_num h
    walk_at "dl"
    refine ⟨fun h2 => ?_, fun h2 => ?_⟩
    · walk_at "dl"
      exact q1
    · have p1 := not_le_num h2
      have n0 : sl0 f s r ≠ 0 := (Rat.ne_of_lt p0).symm
      walk_at "dl"
      refine q2 _ ?_ (slope_sz sf ss sr n0)
      rw [Rat.lt_div_iff p0]
      grind
section
variable {P : Program} {w : World} {K : PySem.W.Frag} {mg : Str → Option Value} {base : Heap}
theorem ok__law_new_slope {fd : FuncData} (F : FnP K "_law_new_slope" s__law_new_slope fd) (T : Txt K mg) (c__law_div : Cal P w K mg base 2 "_law_div" ["one", "other"] (fs__law_div K)) (c__law_neg : Cal P w K mg base 1 "_law_neg" ["one"] (fs__law_neg K)) (c__law_turn : Cal P w K mg base 3 "_law_turn" ["one", "other"] (fs__law_turn K)) : FnOk P w K mg base (L2.CX P w) 4 (He.ga K "_law_new_slope") fd ["first", "second", "third"] (spF K (fs__law_new_slope K)) := by
  refine fn_ok (k := 3) F sc__law_new_slope len_D3 (by decide) (t__law_new_slope K) (fun cdv A outer s H E hr => ?_) (body__law_new_slope T)
  exact (pss_cons (ps_set (i := 3) sc__law_new_slope.nd rfl (Or.inl rfl) (pe_cal c__law_turn hr (by decide) rfl (pa_cons (pe_tup (pa_cons (pe_tup (pa_cons pe_int (pa_cons pe_int pa_nil))) (pa_cons (pv 0) pa_nil))) (pa_cons (pe_tup (pa_cons (pe_tup (pa_cons pe_int (pa_cons pe_int pa_nil))) (pa_cons (pv 1) pa_nil))) pa_nil))))
  (pss_cons (ps_set (i := 4) sc__law_new_slope.nd rfl (Or.inl rfl) (pe_cal c__law_turn hr (by decide) rfl (pa_cons (pv 3) (pa_cons (pe_tup (pa_cons (pe_tup (pa_cons pe_int (pa_cons pe_int pa_nil))) (pa_cons (pe_cal c__law_neg hr (by decide) rfl (pa_cons (pv 2) pa_nil)) pa_nil))) pa_nil))))
  (pss_cons (ps_if (PW.pt (pw_or (pt_cmpR op_le (pe_ix ix_seq (pe_ix ix_seq (pv 4) pe_int (fun _ _ => rfl)) pe_int (fun _ _ => rfl)) pe_int (nomark _)) (pw_or1 (pt_cmpR op_le (pe_ix ix_seq (pe_ix ix_seq (pv 4) pe_int (fun _ _ => rfl)) pe_int (fun _ _ => rfl)) pe_int (nomark _))))) (pss_one (ps_ret pe_non)) pss_nil)
  (pss_one (ps_ret (pe_cal c__law_div hr (by decide) rfl (pa_cons (pe_ix ix_seq (pv 4) pe_int (fun _ _ => rfl)) (pa_cons (pe_ix ix_seq (pv 4) pe_int (fun _ _ => rfl)) pa_nil))))))))
end
structure OkF (n : Nat) (p : Rat × Rat) : Prop where
  s1 : Sz (10 + 22 * n) p.1
  s2 : Sz 10 p.2
  p1 : 0 < p.1
  p2 : 0 < p.2
def FreeL (ac : Nat) (tl : List (List (Rat × Rat))) : Prop := ∀ (j : Nat) (r : List (Rat × Rat)), tl[j]? = some r → r.length = ac ∧ ∀ p ∈ r, OkF j p
theorem atI_last {xs : List D} {n : Nat} {x : D} (hl : xs.length = n + 1) (h : xs[n]? = some x) : atI xs (-1) = some x := by
  unfold atI ixN
  rw [if_neg (by omega), if_pos (by omega), hl]
  have : ((-1 : Int) + ((n + 1 : Nat) : Int)).toNat = n := by omega
  show xs[((-1 : Int) + ((n + 1 : Nat) : Int)).toNat]? = _
  rw [this]; exact h
theorem rowF {ys : List D} {n : Nat} (h : ∀ (k : Nat) (y : D), ys[k]? = some y → ∃ p, y = prP p ∧ OkF n p) : ∃ r : List (Rat × Rat), ys = r.map prP ∧ r.length = ys.length ∧ ∀ p ∈ r, OkF n p := by
  induction ys with
  | nil => exact ⟨[], rfl, rfl, by simp⟩
  | cons y ys ih =>
    obtain ⟨p, rfl, hp⟩ := h 0 y rfl
    obtain ⟨w, e1, e2, e3⟩ := ih fun k z hz => h (k + 1) z (by simpa using hz)
    refine ⟨p :: w, by rw [e1]; rfl, by simp [e2], fun j hj => ?_⟩
    rcases List.mem_cons.mp hj with rfl | hj
    · exact hp
    · exact e3 j hj
def t__law_free_table (K : PySem.W.Frag) (E : XK) : TS :=
  (tSeq (tAsg (tLst (tCons (tLc (iRng1 (tCons (tVar 1) tNil)) (gName 4) tYes (tCall (spF K (fs__law_pair K)) [] E0 (tCons (tVar 0) tNil)) [4]) tNil)) (gName 3))
  (tSeq (tFor (iRng2 (tCons (tC (.int 1)) (tCons (tVar 2) tNil))) (gName 5) (tSeq (tAsg (tLst tNil) (gName 6))
  (tSeq (tAsg (tOp (rIx K) (tVar 3) (tUn uNeg (tC (.int 1)))) (gName 7))
  (tSeq (tFor (iRng1 (tCons (tVar 1) tNil)) (gName 4) (tSeq (tAsg (tCall (spF K (fs__law_pair K)) [] E0 (tCons (tVar 0) tNil)) (gTup K 2 (gCons (gName 8) (gCons (gName 9) gNil))))
  (tSeq (tIfS (tTest (tOp rGtI (tVar 4) (tC (.int 0)))) (tSeq (tAsg (tCall (spF K (fs__law_new_slope K)) [] E0 (tCons (tOp (rIx K) (tOp (rIx K) (tVar 7) (tOp rSubI (tVar 4) (tC (.int 1)))) (tC (.int 0))) (tCons (tOp (rIx K) (tOp (rIx K) (tVar 7) (tVar 4)) (tC (.int 1))) (tCons (tOp (rIx K) (tOp (rIx K) (tVar 6) (tOp rSubI (tVar 4) (tC (.int 1)))) (tC (.int 1))) tNil)))) (gName 10))
  (tIfS (tTest (tOp rIsntNo (tVar 10) (tC .non))) (tAsg (tVar 10) (gName 8)) tNext)) tNext)
  (tSeq (tFor (iRng1 (tCons (tC (.int 4)) tNil)) (gName 11) (tIfS (tAnd (tTest (tOp rLtI (tOp (rAddA K) (tVar 4) (tC (.int 1))) (tVar 1))) (tTest (tOp rIsNo (tCall (spF K (fs__law_new_slope K)) [] E0 (tCons (tOp (rIx K) (tOp (rIx K) (tVar 7) (tVar 4)) (tC (.int 0))) (tCons (tOp (rIx K) (tOp (rIx K) (tVar 7) (tOp (rAddA K) (tVar 4) (tC (.int 1)))) (tC (.int 1))) (tCons (tVar 9) tNil)))) (tC .non)))) (tAsg (tCall (spF K (fs__law_slope K)) [] E0 (tCons (tVar 0) (tCons (tC (.int 7)) tNil))) (gName 9)) tNext))
  (tDrop (tBM K "list" rAppend (tVar 6) (tCons (tTup (tCons (tVar 8) (tCons (tVar 9) tNil))) tNil)))))))
  (tDrop (tBM K "list" rAppend (tVar 3) (tCons (tVar 6) tNil)))))))
  (tRet (tVar 3))))
def fs__law_free_table (K : PySem.W.Frag) : FS := fsS2 fun x y P _ => ∃ ac up : Nat, x = .int ac ∧ y = .int up ∧ 1 ≤ ac ∧ ac ≤ 4 ∧ 1 ≤ up ∧ up ≤ 4 ∧ ∀ tl, GoodL up ac tl → P (tabL tl)
theorem body__law_free_table {K : PySem.W.Frag} {mg : Str → Option Value} (T : Txt K mg) (E : XK) : ∀ (as : List AV) (P : D → Prop) (PX : XD → Prop), fs__law_free_table K as P PX → SatS (cn K E PX) (t__law_free_table K E) (gin as 9) (den P) := bS2 fun k x y P PX q => by
  obtain ⟨ac, up, rfl, rfl, a1, a4, u1, u4, q⟩ := q
  unfold t__law_free_table
  refine sat_seq (sat_asgHot (el_lst (ea_cons (ev_ofL (el_comp (ei_rng1 ?_))))))
  walk_at "dl"
  refine ⟨_, rfl, by omega, by omega, ?_⟩
  rw [Int.toNat_natCast]
  refine compI_rel (fun n x y => ∃ p, y = prP p ∧ OkF 0 p) (by rw [rngD_len]; omega) (fun n x hx => egw_name (by simp) ?_) fun ys l1 l2 => ?_
  · walk_at "dl"
    intro u v hu hv su sv
    exact ⟨(u, v), rfl, su, sv, hu, hv⟩
  rw [rngD_len] at l1
  obtain ⟨r0, er0, lr0, hr0⟩ := rowF (n := 0) (ys := ys) fun n y hy => by
    have hl : n < (rngD 0 ac).length := by rw [rngD_len, ← l1]; exact (List.getElem?_eq_some_iff.mp hy).1
    exact l2 n _ _ (List.getElem?_eq_getElem hl) hy
  rw [er0]
  walk_at "dl"
  refine sat_for (ei_rng2 ?_)
  walk_at "dl"
  refine ⟨by omega, by omega, by omega, by omega, ?_⟩
  have en : ((up : Int) - 1).toNat = up - 1 := by omega
  rw [en]
  refine ⟨fun n G' => n ≤ 4 ∧ ∃ tl, tl.length = n + 1 ∧ FreeL ac tl ∧ ∃ s4 s5 s6 s7 s8 s9 s10 s11, G' = ⟨[.st k, .d (.int ac), .d (.int up), .hot 0, s4, s5, s6, s7, s8, s9, s10, s11], [.lst (tl.map fun r => .list (r.map prP))]⟩, ⟨by omega, [r0], rfl, fun j r h => ?_, .any, .any, .any, .any, .any, .any, .any, .any, rfl⟩, ?_, ?_⟩
  · cases j with
    | zero => simp at h; subst h; exact ⟨by rw [lr0, l1], hr0⟩
    | succ j => simp at h
  · rintro n z G' hz ⟨hn4, tl, ltl, htl, s4, s5, s6, s7, s8, s9, s10, s11, rfl⟩
    obtain ⟨hn, rfl⟩ := rngD_of hz
    have hlast : tl[n]? = some tl[n] := List.getElem?_eq_getElem (by omega)
    obtain ⟨lb, hb⟩ := htl n _ hlast
    generalize tl[n] = below at hlast lb hb
    refine eg_name (sat_seq (sat_asgHot (el_lst (ea_nil ⟨_, rfl, by decide, ?_⟩))))
    refine sat_seq (sat_asg (ev_ixHot rfl rfl ?_))
    walk_at "dl"
    refine ⟨_, .list (below.map prP), rfl, atI_last (n := n) (by rw [List.length_map, ltl]) (by rw [List.getElem?_map, hlast]; rfl), ?_⟩
    have hnb : 10 + 22 * n ≤ 80 := by omega
    have bel : ∀ {i : Nat}, i < ac → ∃ p, (below.map prP)[i]? = some (.tuple [fr p.1, fr p.2]) ∧ OkF n p := fun {i} hi => by
      have h1 : below[i]? = some below[i] := List.getElem?_eq_getElem (by omega)
      exact ⟨below[i], by rw [List.getElem?_map, h1]; rfl, hb _ (List.mem_of_getElem? h1)⟩
    refine sat_seq (sat_for (ei_rng1 ?_))
    walk_at "dl"
    refine ⟨_, rfl, by omega, by omega, ?_⟩
    rw [Int.toNat_natCast]
    refine ⟨fun m G' => m ≤ 4 ∧ ∃ r : List (Rat × Rat), r.length = m ∧ (∀ p ∈ r, OkF (n + 1) p) ∧ ∃ s4 s8 s9 s10 s11, G' = ⟨[.st k, .d (.int ac), .d (.int up), .hot 0, s4, .d (.int (1 + (n : Int))), .hot 1, .d (.list (below.map prP)), s8, s9, s10, s11], [.lst (tl.map fun r => .list (r.map prP)), .lst (r.map prP)]⟩, ⟨by omega, [], rfl, by simp, s4, s8, s9, s10, s11, rfl⟩, ?_, ?_⟩
    · rintro m z G' hz ⟨hm4, r, hr, hok, s4, s8, s9, s10, s11, rfl⟩
      obtain ⟨hm, rfl⟩ := rngD_of hz
      refine eg_name (sat_seq (sat_asgG ?_))
      walk_at "dl"
      intro u0 v0 hu0 hv0 su0 sv0
      refine eg_tup2 ?_
      refine sat_join (fun G' => ∃ u s10, 0 < u ∧ Sz (10 + 22 * (n + 1)) u ∧ G' = ⟨[.st k, .d (.int ac), .d (.int up), .hot 0, .d (.int (0 + (m : Int))), .d (.int (1 + (n : Int))), .hot 1, .d (.list (below.map prP)), .d (fr u), .d (fr v0), s10, s11], [.lst (tl.map fun r => .list (r.map prP)), .lst (r.map prP)]⟩) ?_ ?_
      · walk_at "dl"
        refine ⟨fun h => ?_, fun h => ?_⟩
        · have hm1 := of_decide_eq_true h
          obtain ⟨pa, ea, oa⟩ := bel (i := m - 1) (by omega)
          obtain ⟨pb, eb, ob⟩ := bel (i := m) hm
          have hrl : r[m - 1]? = some r[m - 1] := List.getElem?_eq_getElem (by omega)
          have oc := hok _ (List.mem_of_getElem? hrl)
          generalize r[m - 1] = pc at hrl oc
          walk_at "dl"
          refine k2_ix (.inl rfl) (atI_int (n := m - 1) (by omega) ea) ?_
          walk_at "dl"
          refine k2_ix (.inl rfl) (atI_int (n := m) (by omega) eb) ?_
          walk_at "dl"
          refine ⟨_, .tuple [fr pc.1, fr pc.2], rfl, atI_int (n := m - 1) (by omega) (by rw [List.getElem?_map, hrl]; rfl), ?_⟩
          walk_at "dl"
          refine ⟨pa.1, pb.2, pc.2, 10 + 22 * n, rfl, rfl, rfl, hnb, oa.s1, ob.s2, oc.s2, ?_, fun g hg sg => ?_⟩
          · walk_at "dl"
            exact ⟨u0, .d .none, hu0, su0.mono (by omega), rfl⟩
          · walk_at "dl"
            exact ⟨g, .d (fr g), hg, sg.mono (by omega), rfl⟩
        · walk_at "dl"
          exact ⟨u0, s10, hu0, su0.mono (by omega), rfl⟩
      · rintro G' ⟨u, s10, hu, su, rfl⟩
        refine sat_seq (sat_for (ei_rng1 ?_))
        walk_at "dl"
        refine ⟨_, rfl, by decide, by decide, ?_⟩
        refine ⟨fun _ G' => ∃ v s11, 0 < v ∧ Sz 10 v ∧ G' = ⟨[.st k, .d (.int ac), .d (.int up), .hot 0, .d (.int (0 + (m : Int))), .d (.int (1 + (n : Int))), .hot 1, .d (.list (below.map prP)), .d (fr u), .d (fr v), s10, s11], [.lst (tl.map fun r => .list (r.map prP)), .lst (r.map prP)]⟩, ⟨v0, s11, hv0, sv0, rfl⟩, ?_, ?_⟩
        · rintro t z G' hz ⟨v, s11, hv, sv, rfl⟩
          obtain ⟨ht, rfl⟩ := rngD_of hz
          walk_at "dl"
          refine ⟨fun h => ?_, fun h => ?_⟩
          · have hm1 := of_decide_eq_true h
            obtain ⟨pa, ea, oa⟩ := bel (i := m) hm
            obtain ⟨pb, eb, ob⟩ := bel (i := m + 1) (by omega)
            walk_at "dl"
            refine k2_ix (.inl rfl) (atI_int (n := m) (by omega) ea) ?_
            walk_at "dl"
            refine k2_ix (.inl rfl) (atI_int (n := m + 1) (by omega) eb) ?_
            walk_at "dl"
            refine ⟨pa.1, pb.2, v, 10 + 22 * n, rfl, rfl, rfl, hnb, oa.s1, ob.s2, sv, ?_, fun g hg sg => ?_⟩
            · walk_at "dl"
              refine ⟨by decide, by decide, fun g hg sg => ?_⟩
              exact ⟨g, .d (.int (0 + (t : Int))), hg, sg, rfl⟩
            · walk_at "dl"
              exact ⟨v, .d (.int (0 + (t : Int))), hv, sv, rfl⟩
          · walk_at "dl"
            exact ⟨v, .d (.int (0 + (t : Int))), hv, sv, rfl⟩
        · rintro G' ⟨v, s11, hv, sv, rfl⟩
          refine sat_append rfl rfl (by rw [List.length_map]; omega) ?_
          walk_at "dl"
          refine ⟨by omega, r ++ [(u, v)], by simp [hr], fun p hp => ?_, .d (.int (0 + (m : Int))), .d (fr u), .d (fr v), s10, s11, ?_⟩
          · rcases List.mem_append.mp hp with h | h
            · exact hok p h
            · have : p = (u, v) := List.mem_singleton.mp h
              subst this
              exact ⟨su, sv, hu, hv⟩
          · rw [List.map_append]
            rfl
    · rintro G' ⟨hm4, r, hr, hok, s4, s8, s9, s10, s11, rfl⟩
      rw [rngD_len] at hr
      refine sat_coolpop (hot := [.lst _]) ?_
      refine sat_append rfl rfl (by rw [List.length_map, ltl]; omega) ?_
      walk_at "dl"
      refine ⟨by omega, tl ++ [r], by simp [ltl], fun j r' hr' => ?_, SV.cool 1 (.list (r.map prP)) s4, .d (.int (1 + (n : Int))), .d (.list (r.map prP)), .d (.list (below.map prP)), SV.cool 1 (.list (r.map prP)) s8, SV.cool 1 (.list (r.map prP)) s9, SV.cool 1 (.list (r.map prP)) s10, SV.cool 1 (.list (r.map prP)) s11, ?_⟩
      · by_cases hj : j < tl.length
        · rw [List.getElem?_append_left hj] at hr'
          exact htl j r' hr'
        · rw [List.getElem?_append_right (by omega)] at hr'
          have hj2 : j = n + 1 := by
            have := (List.getElem?_eq_some_iff.mp hr').1
            simp at this
            omega
          subst hj2
          rw [ltl] at hr'
          simp at hr'
          subst hr'
          exact ⟨hr, hok⟩
      · rw [List.map_append]
        rfl
  · rintro G' ⟨hn4, tl, ltl, htl, s4, s5, s6, s7, s8, s9, s10, s11, rfl⟩
    rw [rngD_len] at ltl
    refine sat_retHot rfl rfl ?_
    refine q tl ⟨by omega, fun r hr => ?_⟩
    obtain ⟨j, hj⟩ := List.mem_iff_getElem?.mp hr
    have hj4 : j < tl.length := (List.getElem?_eq_some_iff.mp hj).1
    obtain ⟨h1, h2⟩ := htl j r hj
    exact ⟨h1, fun p hp => ⟨(h2 p hp).s1.mono (by omega), (h2 p hp).s2.mono (by omega), (h2 p hp).p1, (h2 p hp).p2⟩⟩
section
variable {P : Program} {w : World} {K : PySem.W.Frag} {mg : Str → Option Value} {base : Heap}
theorem ok__law_free_table {fd : FuncData} (F : FnP K "_law_free_table" s__law_free_table fd) (T : Txt K mg) (c__law_new_slope : Cal P w K mg base 4 "_law_new_slope" ["first", "second", "third"] (fs__law_new_slope K)) (c__law_pair : Cal P w K mg base 4 "_law_pair" ["stream"] (fs__law_pair K)) (c__law_slope : Cal P w K mg base 3 "_law_slope" ["stream", "most"] (fs__law_slope K)) : FnOk P w K mg base (L2.CX P w) 5 (He.ga K "_law_free_table") fd ["stream", "across", "up"] (spF K (fs__law_free_table K)) := by
  refine fn_ok (k := 4) F sc__law_free_table len_S2 (by decide) (t__law_free_table K) (fun cdv A outer s H E hr => ?_) (body__law_free_table T)
  exact (pss_cons (ps_set (i := 3) sc__law_free_table.nd rfl (Or.inl rfl) (pe_lst (pa_cons (pe_lc (own := [("i", 4)]) (g := (gName 4)) (tt := tYes) rfl sc__law_free_table.nd (pi_range1 (by rfl) T.n_range (pa_cons (pv 1) pa_nil)) (blkOk_by (own := [("i", 4)]) (N := N__law_free_table) (sc := defScope s__law_free_table) (by decide +kernel)) (fun _ _ _ _ _ => (pg_name (i := 4) sc__law_free_table.nd rfl (by first | exact Or.inl rfl | exact Or.inr rfl))) (fun _ _ _ _ _ => pts_nil) (fun _ _ _ _ _ => (pe_cal c__law_pair hr (by decide) rfl (pa_cons (pv 0) pa_nil)))) pa_nil)))
  (pss_cons (ps_for (passes_of rfl) rfl (pi_range2 (by rfl) T.n_range (pa_cons pe_int (pa_cons (pv 2) pa_nil))) (pg_name (i := 5) sc__law_free_table.nd rfl (Or.inl rfl)) (pss_cons (ps_set (i := 6) sc__law_free_table.nd rfl (Or.inl rfl) (pe_lst pa_nil))
  (pss_cons (ps_set (i := 7) sc__law_free_table.nd rfl (Or.inl rfl) (pe_ix ix_seq (pv 3) (pe_un un_neg pe_int) (fun _ _ => rfl)))
  (pss_cons (ps_for (passes_of rfl) rfl (pi_range1 (by rfl) T.n_range (pa_cons (pv 1) pa_nil)) (pg_name (i := 4) sc__law_free_table.nd rfl (Or.inl rfl)) (pss_cons (ps_asg (pe_cal c__law_pair hr (by decide) rfl (pa_cons (pv 0) pa_nil)) (pg_tup (by rfl) (pgs_cons (pg_name (i := 8) sc__law_free_table.nd rfl (Or.inl rfl)) (pgs_cons (pg_name (i := 9) sc__law_free_table.nd rfl (Or.inl rfl)) pgs_nil))))
  (pss_cons (ps_if (pt_cmpR op_gt (pv 4) pe_int (nomark _)) (pss_cons (ps_set (i := 10) sc__law_free_table.nd rfl (Or.inl rfl) (pe_cal c__law_new_slope hr (by decide) rfl (pa_cons (pe_ix ix_seq (pe_ix ix_seq (pv 7) (pe_op op_sub (pv 4) pe_int) (fun _ _ => rfl)) pe_int (fun _ _ => rfl)) (pa_cons (pe_ix ix_seq (pe_ix ix_seq (pv 7) (pv 4) (fun _ _ => rfl)) pe_int (fun _ _ => rfl)) (pa_cons (pe_ix ix_seq (pe_ix ix_seq (pv 6) (pe_op op_sub (pv 4) pe_int) (fun _ _ => rfl)) pe_int (fun _ _ => rfl)) pa_nil)))))
  (pss_one (ps_if (pt_cmpR op_notN (pv 10) pe_non (nomark _)) (pss_one (ps_set (i := 8) sc__law_free_table.nd rfl (Or.inl rfl) (pv 10))) pss_nil))) pss_nil)
  (pss_cons (ps_for (passes_of rfl) rfl (pi_range1 (by rfl) T.n_range (pa_cons pe_int pa_nil)) (pg_name (i := 11) sc__law_free_table.nd rfl (Or.inl rfl)) (pss_one (ps_if (PW.pt (pw_and (pt_cmpR op_lt (pe_op op_addA (pv 4) pe_int) (pv 1) (nomark _)) (pw_and1 (pt_cmpR op_isN (pe_cal c__law_new_slope hr (by decide) rfl (pa_cons (pe_ix ix_seq (pe_ix ix_seq (pv 7) (pv 4) (fun _ _ => rfl)) pe_int (fun _ _ => rfl)) (pa_cons (pe_ix ix_seq (pe_ix ix_seq (pv 7) (pe_op op_addA (pv 4) pe_int) (fun _ _ => rfl)) pe_int (fun _ _ => rfl)) (pa_cons (pv 9) pa_nil)))) pe_non (nomark _))))) (pss_one (ps_set (i := 9) sc__law_free_table.nd rfl (Or.inl rfl) (pe_cal c__law_slope hr (by decide) rfl (pa_cons (pv 0) (pa_cons pe_int pa_nil))))) pss_nil)))
  (pss_one (ps_expr (pe_bm PySem.F.plainAttrs_list PySem.F.slot_list_append PySem.F.type_list_append mt_append (pv 6) (pa_cons (pe_tup (pa_cons (pv 8) (pa_cons (pv 9) pa_nil))) pa_nil))))))))
  (pss_one (ps_expr (pe_bm PySem.F.plainAttrs_list PySem.F.slot_list_append PySem.F.type_list_append mt_append (pv 3) (pa_cons (pv 6) pa_nil))))))))
  (pss_one (ps_ret (pv 3)))))
end
end X85
end
section
namespace X85
open PySem L2 DL
local macro_rules | `(tactic| walk_at "bi") => `(tactic| first
  | assumption
  | exact Sz.nb (by assumption) (by decide) | exact Sz.db (by assumption) (by decide)
  | (unfold Bi; decide))
local macro_rules | `(tactic| walk_at "sz0") => `(tactic| first
  | assumption
  | exact Sz.one | exact Sz.zero
  | ((apply Sz.neg); (· walk_at "sz0"))
  | ((apply Sz.mul); (· walk_at "sz0"); (· walk_at "sz0"))
  | ((apply Sz.add); (· walk_at "sz0"); (· walk_at "sz0"))
  | ((apply Sz.sub); (· walk_at "sz0"); (· walk_at "sz0"))
  | ((apply Sz.div); (· walk_at "sz0"); (· walk_at "sz0"); (· assumption)))
local macro_rules | `(tactic| walk_at "sz") => `(tactic| first | assumption | ((apply Sz.mono); (· walk_at "sz0"); (· decide)))
local macro_rules | `(tactic| walk_at "e1") => `(tactic| first
  | with_reducible refine evt_of ?_ | with_reducible refine evt_B ?_ | with_reducible refine evt_and ?_ | with_reducible refine evt_or ?_ | with_reducible refine evt_not ?_ | with_reducible refine evt_yes ?_
  | ((with_reducible apply ev_var); · exact rfl)
  | with_reducible refine ev_int ?_ | with_reducible refine ev_str ?_ | with_reducible refine ev_bl ?_ | with_reducible refine ev_non ?_
  | refine ev_stI _ rfl (by decide) ?_ | refine ev_stL rfl ?_
  | refine ev_ixHot rfl rfl ?_ | refine ev_lenHot rfl rfl ?_
  | with_reducible refine ev_op ?_ | with_reducible refine ev_neg ?_ | with_reducible refine ev_and ?_ | with_reducible refine ev_or ?_ | with_reducible refine ev_not ?_ | with_reducible refine ev_if ?_ | with_reducible refine ev_chain ?_
  | with_reducible refine ev_tup ?_ | with_reducible refine ev_call ?_ | with_reducible refine ev_callS ?_ | with_reducible refine ev_callKS ?_
  | refine ev_isiT (ns := ["list", "tuple"]) (by decide) ?_
  | with_reducible refine ev_cb ?_
  | with_reducible refine ea_nil ?_ | refine ea_val (v := .ty _) ?_ | ((with_reducible apply ea_st); · exact rfl) | with_reducible refine ea_cons ?_
  | refine ev_int ?_
  | refine ix_fr0 ?_ | refine ix_fr1 ?_ | refine k2_ix (.inl rfl) rfl ?_ | refine k2_ix (.inr rfl) rfl ?_
  | refine k2_mul (bi_mulOk (n := 9000) (m := 9000) (by walk_at "bi") (by walk_at "bi") (by decide)) ?_
  | refine k2_add ?_
  | refine k2_eqI ?_ | refine k2_neI ?_ | refine k2_eqF ?_ | refine k2_eqF2 ?_ | refine k2_neB ?_ | refine k2_is ?_ | refine k2_isnot ?_ | refine k2_isB ?_
  | refine k2_IB ?_ | refine k2_II ?_
  | refine kc_abs ?_ | refine kc_intI ?_ | refine kc_isi rfl ?_ | refine kc_len rfl ?_ | refine kc_all ?_
  | refine tup_one ?_ | refine tup_zero ?_ | refine tup_m1 ?_ | refine tup_neg ?_ | refine tup_any rfl (Nat.le_of_ble_eq_true rfl) ?_
  | refine tt_split ?_ | refine ff_split ?_
  | refine bool_any ?_ | refine int_any ?_ | refine fr_any ?_ | refine ⟨_, _, rfl, ?_⟩
  | ((refine cD1 ?_); (try dsimp only)) | ((refine cD2 ?_); (try dsimp only)) | ((refine cD3 ?_); (try dsimp only)) | ((refine cD4 ?_); (try dsimp only)) | ((refine cS0 ?_); (try dsimp only)) | ((refine cS1 ?_); (try dsimp only)) | ((refine cS2 ?_); (try dsimp only)) | ((refine cS3 ?_); (try dsimp only))
  | refine sz_and (by walk_at "sz") ?_
  | refine take_and (by first | decide | omega) (by first | decide | omega) ?_
  | refine ne_and (by assumption) ?_
  | refine ev_c (rp_ONE (by assumption)) ?_ | refine ev_c (rp_ZERO (by assumption)) ?_
  | refine ⟨_, _, rfl, rfl, ?_⟩ | refine ⟨_, _, _, rfl, rfl, rfl, ?_⟩ | refine ⟨_, _, _, _, rfl, rfl, rfl, rfl, ?_⟩)
local macro_rules | `(tactic| walk_at "d1") => `(tactic| first
  | refine sat_retHot rfl rfl ?_
  | with_reducible refine sat_seq ?_ | with_reducible refine sat_if ?_ | with_reducible refine sat_ret ?_ | with_reducible refine sat_retN ?_ | with_reducible refine sat_next ?_ | with_reducible refine sat_par ?_
  | with_reducible refine sat_asgHot (el_lst (ea_nil ⟨_, rfl, Nat.le_of_ble_eq_true rfl, ?_⟩))
  | refine sat_setSt _ rfl (by decide) ?_
  | with_reducible refine sat_asg ?_ | with_reducible refine sat_asgG ?_ | with_reducible refine eg_tup4 ?_ | with_reducible refine eg_tup2 ?_ | with_reducible refine eg_name ?_
  | (with_reducible refine sat_drop (te := tCallS _ _ _) ?_)
  | walk_at "e1")
local macro_rules | `(tactic| walk_at "dl") => `(tactic| repeat (walk_at "d1"))
local macro_rules | `(tactic| walk_at "de") => `(tactic| repeat (walk_at "e1"))

/-- an arm of a mill -/
structure Arm (t : Rat × Rat × Rat) : Prop where
  s0 : Sz 40 t.1
  s1 : Sz 40 t.2.1
  s2 : Sz 40 t.2.2
  p0 : 0 < t.1
  p1 : 0 < t.2.1
  p2 : 0 < t.2.2
def armD (t : Rat × Rat × Rat) : D := .tuple [fr t.1, fr t.2.1, fr t.2.2]
theorem first_ok {a b : Int} (h0 : 0 ≤ a) (h1 : a < 9) (h2 : 0 ≤ b) (h3 : b < 3) : Sz 4 (Rat.divInt (a - 2) (7 + b)) ∧ Rat.divInt (a - 2) (7 + b) < 1 ∧ -1 < Rat.divInt (a - 2) (7 + b) := by
  have bq : (0 : Rat) < ((7 + b : Int) : Rat) := Rat.intCast_pos.mpr (by omega)
  have e : Rat.divInt (a - 2) (7 + b) * ((7 + b : Int) : Rat) = ((a - 2 : Int) : Rat) := by rw [Rat.divInt_eq_div]; exact Rat.div_mul_cancel (Rat.ne_of_lt bq).symm
  refine ⟨sz_divInt (by unfold Bi; omega) (by unfold Bi; omega) (by omega), ?_, ?_⟩
  · have l : ((a - 2 : Int) : Rat) < ((7 + b : Int) : Rat) := Rat.intCast_lt_intCast.mpr (by omega)
    refine Rat.not_le.mp fun z => ?_
    have := Rat.mul_le_mul_of_nonneg_right z (Rat.le_of_lt bq)
    grind
  · have l : ((-(7 + b) : Int) : Rat) < ((a - 2 : Int) : Rat) := Rat.intCast_lt_intCast.mpr (by omega)
    rw [Rat.intCast_neg] at l
    refine Rat.not_le.mp fun z => ?_
    have := Rat.mul_le_mul_of_nonneg_right z (Rat.le_of_lt bq)
    grind
theorem div_pos {a b : Rat} (ha : 0 < a) (hb : 0 < b) : 0 < a / b := by
  rw [Rat.lt_div_iff hb]
  grind
theorem four_of {ys : List D} {R : Rat → Prop} (hl : ys.length = 4) (h : ∀ (k : Nat) (y : D), ys[k]? = some y → ∃ q, y = fr q ∧ R q) : ∃ a b c d, ys = [fr a, fr b, fr c, fr d] ∧ R a ∧ R b ∧ R c ∧ R d := by
  match ys, hl with
  | [w, x, y, z], _ =>
    obtain ⟨a, rfl, ha⟩ := h 0 w rfl
    obtain ⟨b, rfl, hb⟩ := h 1 x rfl
    obtain ⟨c, rfl, hc⟩ := h 2 y rfl
    obtain ⟨d, rfl, hd⟩ := h 3 z rfl
    exact ⟨a, b, c, d, rfl, ha, hb, hc, hd⟩
theorem not_le_pos {q : Rat} (h : decide (q.num ≤ 0) = true) : ¬ 0 < q := by
  have := of_decide_eq_true h
  intro z
  have := num_pos.mpr z
  omega
def t__law_mill (K : PySem.W.Frag) (E : XK) : TS :=
  (tSeq (tAsg (tLst tNil) (gName 1))
  (tSeq (tFor (iRng1 (tCons (tC (.int 4)) tNil)) (gName 2) (tSeq (tAsg (tCall (spF K (fs__law_low K)) [] E0 (tCons (tOp rSubI (tCall (spF K (fs__law_take K)) [] E0 (tCons (tVar 0) (tCons (tC (.int 9)) tNil))) (tC (.int 2))) (tCons (tOp (rAddA K) (tC (.int 7)) (tCall (spF K (fs__law_take K)) [] E0 (tCons (tVar 0) (tCons (tC (.int 3)) tNil)))) tNil))) (gName 3))
  (tSeq (tAsg (tCall (spF K (fs__law_slope K)) [] E0 (tCons (tVar 0) (tCons (tC (.int 3)) tNil))) (gName 4))
  (tSeq (tAsg (tCall (spF K (fs__law_sub K)) [] E0 (tCons (tTup (tCons (tC (.int 1)) (tCons (tC (.int 1)) tNil))) (tCons (tCall (spF K (fs__law_mul K)) [] E0 (tCons (tVar 3) (tCons (tVar 4) tNil))) tNil))) (gName 5))
  (tSeq (tIfS (tOr (tTest (tOp rLeI (tOp (rIx K) (tCall (spF K (fs__law_add K)) [] E0 (tCons (tVar 3) (tCons (tVar 4) tNil))) (tC (.int 0))) (tC (.int 0)))) (tTest (tOp rLeI (tOp (rIx K) (tVar 5) (tC (.int 0))) (tC (.int 0))))) (tSeq (tAsg (tTup (tCons (tC (.int 1)) (tCons (tC (.int 1)) tNil))) (gName 4))
  (tAsg (tCall (spF K (fs__law_sub K)) [] E0 (tCons (tTup (tCons (tC (.int 1)) (tCons (tC (.int 1)) tNil))) (tCons (tVar 3) tNil))) (gName 5))) tNext)
  (tSeq (tAsg (tCall (spF K (fs__law_div K)) [] E0 (tCons (tCall (spF K (fs__law_add K)) [] E0 (tCons (tVar 3) (tCons (tVar 4) tNil))) (tCons (tVar 5) tNil))) (gName 6))
  (tSeq (tAsg (tCall (spF K (fs__law_div K)) [] E0 (tCons (tCall (spF K (fs__law_sub K)) [] E0 (tCons (tTup (tCons (tC (.int 1)) (tCons (tC (.int 1)) tNil))) (tCons (tVar 3) tNil))) (tCons (tCall (spF K (fs__law_add K)) [] E0 (tCons (tTup (tCons (tC (.int 1)) (tCons (tC (.int 1)) tNil))) (tCons (tVar 3) tNil))) tNil))) (gName 7))
  (tDrop (tBM K "list" rAppend (tVar 1) (tCons (tTup (tCons (tVar 6) (tCons (tVar 7) (tCons (tVar 4) tNil)))) tNil))))))))))
  (tSeq (tAsg (tLc (iRng1 (tCons (tC (.int 4)) tNil)) (gName 2) tYes (tCall (spF K (fs__law_slope K)) [] E0 (tCons (tVar 0) (tCons (tC (.int 4)) tNil))) [2]) (gName 8))
  (tSeq (tAsg (tTup (tCons (tC (.int 1)) (tCons (tC (.int 1)) tNil))) (gName 9))
  (tSeq (tAsg (tLst (tCons (tLst (tCons (tTup (tCons (tOp (rIx K) (tOp (rIx K) (tVar 1) (tC (.int 0))) (tC (.int 0))) (tCons (tOp (rIx K) (tVar 8) (tC (.int 0))) tNil))) (tCons (tTup (tCons (tCall (spF K (fs__law_div K)) [] E0 (tCons (tVar 9) (tCons (tOp (rIx K) (tOp (rIx K) (tVar 1) (tC (.int 1))) (tC (.int 2))) tNil))) (tCons (tOp (rIx K) (tOp (rIx K) (tVar 1) (tC (.int 0))) (tC (.int 1))) tNil))) (tCons (tTup (tCons (tOp (rIx K) (tVar 8) (tC (.int 1))) (tCons (tOp (rIx K) (tOp (rIx K) (tVar 1) (tC (.int 1))) (tC (.int 0))) tNil))) tNil)))) tNil)) (gName 10))
  (tSeq (tDrop (tBM K "list" rAppend (tVar 10) (tCons (tLst (tCons (tTup (tCons (tOp (rIx K) (tOp (rIx K) (tVar 1) (tC (.int 3))) (tC (.int 1))) (tCons (tOp (rIx K) (tOp (rIx K) (tVar 1) (tC (.int 0))) (tC (.int 2))) tNil))) (tCons (tTup (tCons (tVar 9) (tCons (tVar 9) tNil))) (tCons (tTup (tCons (tCall (spF K (fs__law_div K)) [] E0 (tCons (tVar 9) (tCons (tOp (rIx K) (tOp (rIx K) (tVar 1) (tC (.int 1))) (tC (.int 1))) tNil))) (tCons (tCall (spF K (fs__law_div K)) [] E0 (tCons (tVar 9) (tCons (tOp (rIx K) (tOp (rIx K) (tVar 1) (tC (.int 2))) (tC (.int 2))) tNil))) tNil))) tNil)))) tNil)))
  (tSeq (tAsg (tLst (tCons (tTup (tCons (tOp (rIx K) (tVar 8) (tC (.int 3))) (tCons (tCall (spF K (fs__law_div K)) [] E0 (tCons (tVar 9) (tCons (tOp (rIx K) (tOp (rIx K) (tVar 1) (tC (.int 3))) (tC (.int 0))) tNil))) tNil))) (tCons (tTup (tCons (tOp (rIx K) (tOp (rIx K) (tVar 1) (tC (.int 3))) (tC (.int 2))) (tCons (tCall (spF K (fs__law_div K)) [] E0 (tCons (tVar 9) (tCons (tOp (rIx K) (tOp (rIx K) (tVar 1) (tC (.int 2))) (tC (.int 1))) tNil))) tNil))) tNil))) (gName 11))
  (tSeq (tDrop (tBM K "list" rAppend (tVar 10) (tCons (tOp (rAddA K) (tVar 11) (tLst (tCons (tTup (tCons (tCall (spF K (fs__law_div K)) [] E0 (tCons (tVar 9) (tCons (tOp (rIx K) (tOp (rIx K) (tVar 1) (tC (.int 2))) (tC (.int 0))) tNil))) (tCons (tOp (rIx K) (tVar 8) (tC (.int 2))) tNil))) tNil))) tNil)))
  (tRet (tVar 10))))))))))
def fs__law_mill (K : PySem.W.Frag) : FS := fsS0 fun P _ => ∀ tl, GoodL 3 3 tl → P (tabL tl)
theorem body__law_mill {K : PySem.W.Frag} {mg : Str → Option Value} (T : Txt K mg) (E : XK) : ∀ (as : List AV) (P : D → Prop) (PX : XD → Prop), fs__law_mill K as P PX → SatS (cn K E PX) (t__law_mill K E) (gin as 11) (den P) := bS0 fun k P PX q => by
  unfold t__law_mill
  walk_at "dl"
  refine sat_for (ei_rng1 ?_)
  walk_at "dl"
  refine ⟨_, rfl, by decide, by decide, ?_⟩
  refine ⟨fun n G' => n ≤ 4 ∧ ∃ al : List (Rat × Rat × Rat), al.length = n ∧ (∀ a ∈ al, Arm a) ∧ ∃ s2 s3 s4 s5 s6 s7, G' = ⟨[.st k, .hot 0, s2, s3, s4, s5, s6, s7, .any, .any, .any, .any], [.lst (al.map armD)]⟩, ⟨by decide, [], rfl, by simp, .any, .any, .any, .any, .any, .any, rfl⟩, ?_, ?_⟩
  · rintro n z G' hz ⟨hn4, al, hl, hal, s2, s3, s4, s5, s6, s7, rfl⟩
    obtain ⟨hn, rfl⟩ := rngD_of hz
    have hn5 : n < 4 := hn
    refine eg_name (sat_seq (sat_asg ?_))
    walk_at "de"
    intro a a0 a1
    walk_at "de"
    intro b b0 b1
    walk_at "de"
    refine ⟨by omega, by unfold Bi; omega, ?_⟩
    obtain ⟨sf, f1, f2⟩ := first_ok a0 a1 b0 b1
    generalize Rat.divInt (a - 2) (7 + b) = f at sf f1 f2
    refine sat_seq (sat_asg ?_)
    walk_at "de"
    refine ⟨by decide, by decide, fun s s0 ss => ?_⟩
    refine sat_seq (sat_asg ?_)
    walk_at "de"
    refine sat_join (fun G' => ∃ t h : Rat, 0 < t ∧ 0 < h ∧ 0 < f + t ∧ Sz 10 t ∧ Sz 20 h ∧ G' = ⟨[.st k, .hot 0, .d (.int (0 + (n : Int))), .d (fr f), .d (fr t), .d (fr h), s6, s7, .any, .any, .any, .any], [.lst (al.map armD)]⟩) ?_ ?_
    · have alt : SatS (cn K E PX) (tSeq (tAsg (tTup (tCons (tC (.int 1)) (tCons (tC (.int 1)) tNil))) (gName 4)) (tAsg (tCall (spF K (fs__law_sub K)) [] E0 (tCons (tTup (tCons (tC (.int 1)) (tCons (tC (.int 1)) tNil))) (tCons (tVar 3) tNil))) (gName 5)))
          ⟨[.st k, .hot 0, .d (.int (0 + (n : Int))), .d (fr f), .d (fr s), .d (fr (1 - f * s)), s6, s7, .any, .any, .any, .any], [.lst (al.map armD)]⟩
          { nx := fun G' => ∃ t h : Rat, 0 < t ∧ 0 < h ∧ 0 < f + t ∧ Sz 10 t ∧ Sz 20 h ∧ G' = ⟨[.st k, .hot 0, .d (.int (0 + (n : Int))), .d (fr f), .d (fr t), .d (fr h), s6, s7, .any, .any, .any, .any], [.lst (al.map armD)]⟩ } := by
        walk_at "dl"
        exact ⟨1, 1 - f, by decide +kernel, by grind, by grind, Sz.one.mono (by decide), (Sz.sub Sz.one sf).mono (by decide), rfl⟩
      walk_at "dl"
      refine ⟨fun h => ?_, fun h => ?_⟩
      · walk_at "de"
        refine sat_mono alt (fun _ p => p) (fun _ p => p.elim) (fun _ p => p.elim) (fun _ p => p.elim)
      · have p0 := not_le_num h
        walk_at "dl"
        refine ⟨fun h2 => ?_, fun h2 => ?_⟩
        · refine sat_mono alt (fun _ p => p) (fun _ p => p.elim) (fun _ p => p.elim) (fun _ p => p.elim)
        · have p1 := not_le_num h2
          walk_at "dl"
          exact ⟨s, 1 - f * s, s0, p1, p0, ss, (Sz.sub Sz.one (Sz.mul sf ss)).mono (by decide), rfl⟩
    · rintro G' ⟨t, h, ht, hh, hft, st, sh, rfl⟩
      have hn0 : h ≠ 0 := (Rat.ne_of_lt hh).symm
      have fn0 : 1 + f ≠ 0 := by grind
      refine sat_seq (sat_asg ?_)
      walk_at "de"
      refine sat_seq (sat_asg ?_)
      walk_at "de"
      refine sat_append rfl rfl (by rw [List.length_map, hl]; omega) ?_
      walk_at "dl"
      refine ⟨by omega, al ++ [((f + t) / h, (1 - f) / (1 + f), t)], by simp [hl], fun x hx => ?_, .d (.int (0 + (n : Int))), .d (fr f), .d (fr t), .d (fr h), .d (fr ((f + t) / h)), .d (fr ((1 - f) / (1 + f))), ?_⟩
      · rcases List.mem_append.mp hx with z | z
        · exact hal x z
        · have : x = _ := List.mem_singleton.mp z
          subst this
          exact ⟨by show Sz 40 ((f + t) / h); walk_at "sz", by show Sz 40 ((1 - f) / (1 + f)); walk_at "sz", st.mono (by decide), div_pos hft hh, div_pos (by grind) (by grind), ht⟩
      · rw [List.map_append]
        rfl
  · rintro G' ⟨hn4, al, hl, hal, s2, s3, s4, s5, s6, s7, rfl⟩
    have hl4 : al.length = 4 := hl
    refine sat_coolpop (hot := []) ?_
    obtain ⟨w, x, y, z, rfl⟩ : ∃ w x y z, al = [w, x, y, z] := by
      match al, hl4 with
      | [w, x, y, z], _ => exact ⟨w, x, y, z, rfl⟩
    obtain ⟨w0, w1, w2⟩ := w
    obtain ⟨x0, x1, x2⟩ := x
    obtain ⟨y0, y1, y2⟩ := y
    obtain ⟨z0, z1, z2⟩ := z
    have aw := hal (w0, w1, w2) (by simp)
    have ax := hal (x0, x1, x2) (by simp)
    have ay := hal (y0, y1, y2) (by simp)
    have az := hal (z0, z1, z2) (by simp)
    obtain ⟨ws0, ws1, ws2, wp0, wp1, wp2⟩ := aw
    obtain ⟨xs0, xs1, xs2, xp0, xp1, xp2⟩ := ax
    obtain ⟨ys0, ys1, ys2, yp0, yp1, yp2⟩ := ay
    obtain ⟨zs0, zs1, zs2, zp0, zp1, zp2⟩ := az
    dsimp only at ws0 ws1 ws2 wp0 wp1 wp2 xs0 xs1 xs2 xp0 xp1 xp2 ys0 ys1 ys2 yp0 yp1 yp2 zs0 zs1 zs2 zp0 zp1 zp2
    have nx0 := (Rat.ne_of_lt xp0).symm
    have nx1 := (Rat.ne_of_lt xp1).symm
    have nx2 := (Rat.ne_of_lt xp2).symm
    have ny0 := (Rat.ne_of_lt yp0).symm
    have ny1 := (Rat.ne_of_lt yp1).symm
    have ny2 := (Rat.ne_of_lt yp2).symm
    have nz0 := (Rat.ne_of_lt zp0).symm
    refine sat_seq (sat_asg (ev_ofL (el_comp (ei_rng1 ?_))))
    walk_at "dl"
    refine ⟨_, rfl, by decide, by decide, ?_⟩
    refine compI_rel (fun n x y => ∃ q, y = fr q ∧ (0 < q ∧ Sz 10 q)) (by decide) (fun n x hx => egw_name (by simp) ?_) fun fs l1 l2 => ?_
    · walk_at "dl"
      exact ⟨by decide, by decide, fun q hq sq => ⟨q, rfl, hq, sq⟩⟩
    obtain ⟨fa, fb, fc, fd, rfl, ⟨pa, sa⟩, ⟨pb, sb⟩, ⟨pc, sc⟩, ⟨pd, sd⟩⟩ := four_of (R := fun q => 0 < q ∧ Sz 10 q) (ys := fs) l1 fun n y hy => by
      have hl : n < (rngD 0 (Int.toNat 4)).length := by rw [← l1]; exact (List.getElem?_eq_some_iff.mp hy).1
      exact l2 n _ _ (List.getElem?_eq_getElem hl) hy
    have o1 : Sz 190 1 := Sz.one.mono (by decide)
    have op : (0 : Rat) < 1 := by decide +kernel
    refine sat_seq (sat_asg ?_)
    walk_at "de"
    refine sat_seq (sat_asgHot (el_lst (ea_cons (ev_ofL (el_lst ?_)))))
    walk_at "de"
    refine sat_seq (sat_append rfl rfl (by simp) (ev_ofL (el_lst ?_)))
    walk_at "de"
    refine sat_seq (sat_asg (ev_ofL (el_lst ?_)))
    walk_at "de"
    refine sat_seq (sat_append rfl rfl (by simp) (ev_ofL (el_add ?_)))
    walk_at "de"
    refine ⟨_, rfl, ev_ofL (el_lst ?_)⟩
    walk_at "de"
    refine ⟨_, rfl, by simp, ?_⟩
    refine sat_retHot rfl rfl ?_
    refine q [[(w0, fa), (1 / x2, w1), (fb, x0)], [(z1, w2), (1, 1), (1 / x1, 1 / y2)], [(fd, 1 / z0), (z2, 1 / y1), (1 / y0, fc)]] ⟨rfl, fun r hr => ?_⟩
    have m40 : ∀ {x : Rat}, Sz 40 x → Sz 190 x := fun h => h.mono (by decide)
    have m10 : ∀ {x : Rat}, Sz 10 x → Sz 190 x := fun h => h.mono (by decide)
    have dv : ∀ {x : Rat}, Sz 40 x → x ≠ 0 → Sz 190 (1 / x) := fun h n => (Sz.div Sz.one h n).mono (by decide)
    have hr' : r = [(w0, fa), (1 / x2, w1), (fb, x0)] ∨ r = [(z1, w2), (1, 1), (1 / x1, 1 / y2)] ∨ r = [(fd, 1 / z0), (z2, 1 / y1), (1 / y0, fc)] := by simpa using hr
    rcases hr' with rfl | rfl | rfl
    · refine ⟨rfl, fun p hp => ?_⟩
      have : p = (w0, fa) ∨ p = (1 / x2, w1) ∨ p = (fb, x0) := by simpa using hp
      rcases this with rfl | rfl | rfl
      · exact ⟨m40 ws0, m10 sa, wp0, pa⟩
      · exact ⟨dv xs2 nx2, m40 ws1, div_pos op xp2, wp1⟩
      · exact ⟨m10 sb, m40 xs0, pb, xp0⟩
    · refine ⟨rfl, fun p hp => ?_⟩
      have : p = (z1, w2) ∨ p = (1, 1) ∨ p = (1 / x1, 1 / y2) := by simpa using hp
      rcases this with rfl | rfl | rfl
      · exact ⟨m40 zs1, m40 ws2, zp1, wp2⟩
      · exact ⟨o1, o1, op, op⟩
      · exact ⟨dv xs1 nx1, dv ys2 ny2, div_pos op xp1, div_pos op yp2⟩
    · refine ⟨rfl, fun p hp => ?_⟩
      have : p = (fd, 1 / z0) ∨ p = (z2, 1 / y1) ∨ p = (1 / y0, fc) := by simpa using hp
      rcases this with rfl | rfl | rfl
      · exact ⟨m10 sd, dv zs0 nz0, pd, div_pos op zp0⟩
      · exact ⟨m40 zs2, dv ys1 ny1, zp2, div_pos op yp1⟩
      · exact ⟨dv ys0 ny0, m10 sc, div_pos op yp0, pc⟩
section
variable {P : Program} {w : World} {K : PySem.W.Frag} {mg : Str → Option Value} {base : Heap}
theorem ok__law_mill {fd : FuncData} (F : FnP K "_law_mill" s__law_mill fd) (T : Txt K mg) (c__law_add : Cal P w K mg base 2 "_law_add" ["one", "other"] (fs__law_add K)) (c__law_div : Cal P w K mg base 2 "_law_div" ["one", "other"] (fs__law_div K)) (c__law_low : Cal P w K mg base 1 "_law_low" ["top", "bottom"] (fs__law_low K)) (c__law_mul : Cal P w K mg base 2 "_law_mul" ["one", "other"] (fs__law_mul K)) (c__law_slope : Cal P w K mg base 3 "_law_slope" ["stream", "most"] (fs__law_slope K)) (c__law_sub : Cal P w K mg base 2 "_law_sub" ["one", "other"] (fs__law_sub K)) (c__law_take : Cal P w K mg base 2 "_law_take" ["stream", "many"] (fs__law_take K)) : FnOk P w K mg base (L2.CX P w) 4 (He.ga K "_law_mill") fd ["stream"] (spF K (fs__law_mill K)) := by
  refine fn_ok (k := 3) F sc__law_mill len_S0 (by decide) (t__law_mill K) (fun cdv A outer s H E hr => ?_) (body__law_mill T)
  exact (pss_cons (ps_set (i := 1) sc__law_mill.nd rfl (Or.inl rfl) (pe_lst pa_nil))
  (pss_cons (ps_for (passes_of rfl) rfl (pi_range1 (by rfl) T.n_range (pa_cons pe_int pa_nil)) (pg_name (i := 2) sc__law_mill.nd rfl (Or.inl rfl)) (pss_cons (ps_set (i := 3) sc__law_mill.nd rfl (Or.inl rfl) (pe_cal c__law_low hr (by decide) rfl (pa_cons (pe_op op_sub (pe_cal c__law_take hr (by decide) rfl (pa_cons (pv 0) (pa_cons pe_int pa_nil))) pe_int) (pa_cons (pe_op op_addA pe_int (pe_cal c__law_take hr (by decide) rfl (pa_cons (pv 0) (pa_cons pe_int pa_nil)))) pa_nil))))
  (pss_cons (ps_set (i := 4) sc__law_mill.nd rfl (Or.inl rfl) (pe_cal c__law_slope hr (by decide) rfl (pa_cons (pv 0) (pa_cons pe_int pa_nil))))
  (pss_cons (ps_set (i := 5) sc__law_mill.nd rfl (Or.inl rfl) (pe_cal c__law_sub hr (by decide) rfl (pa_cons (pe_tup (pa_cons pe_int (pa_cons pe_int pa_nil))) (pa_cons (pe_cal c__law_mul hr (by decide) rfl (pa_cons (pv 3) (pa_cons (pv 4) pa_nil))) pa_nil))))
  (pss_cons (ps_if (PW.pt (pw_or (pt_cmpR op_le (pe_ix ix_seq (pe_cal c__law_add hr (by decide) rfl (pa_cons (pv 3) (pa_cons (pv 4) pa_nil))) pe_int (fun _ _ => rfl)) pe_int (nomark _)) (pw_or1 (pt_cmpR op_le (pe_ix ix_seq (pv 5) pe_int (fun _ _ => rfl)) pe_int (nomark _))))) (pss_cons (ps_set (i := 4) sc__law_mill.nd rfl (Or.inl rfl) (pe_tup (pa_cons pe_int (pa_cons pe_int pa_nil))))
  (pss_one (ps_set (i := 5) sc__law_mill.nd rfl (Or.inl rfl) (pe_cal c__law_sub hr (by decide) rfl (pa_cons (pe_tup (pa_cons pe_int (pa_cons pe_int pa_nil))) (pa_cons (pv 3) pa_nil)))))) pss_nil)
  (pss_cons (ps_set (i := 6) sc__law_mill.nd rfl (Or.inl rfl) (pe_cal c__law_div hr (by decide) rfl (pa_cons (pe_cal c__law_add hr (by decide) rfl (pa_cons (pv 3) (pa_cons (pv 4) pa_nil))) (pa_cons (pv 5) pa_nil))))
  (pss_cons (ps_set (i := 7) sc__law_mill.nd rfl (Or.inl rfl) (pe_cal c__law_div hr (by decide) rfl (pa_cons (pe_cal c__law_sub hr (by decide) rfl (pa_cons (pe_tup (pa_cons pe_int (pa_cons pe_int pa_nil))) (pa_cons (pv 3) pa_nil))) (pa_cons (pe_cal c__law_add hr (by decide) rfl (pa_cons (pe_tup (pa_cons pe_int (pa_cons pe_int pa_nil))) (pa_cons (pv 3) pa_nil))) pa_nil))))
  (pss_one (ps_expr (pe_bm PySem.F.plainAttrs_list PySem.F.slot_list_append PySem.F.type_list_append mt_append (pv 1) (pa_cons (pe_tup (pa_cons (pv 6) (pa_cons (pv 7) (pa_cons (pv 4) pa_nil)))) pa_nil)))))))))))
  (pss_cons (ps_setLc (i := 8) (own := [("k", 2)]) (g := (gName 2)) (tt := tYes) rfl sc__law_mill.nd rfl rfl (sw_true rfl rfl rfl (by decide +kernel)) (pi_range1 (by rfl) T.n_range (pa_cons pe_int pa_nil)) (blkOk_by (own := [("k", 2)]) (N := N__law_mill) (sc := defScope s__law_mill) (by decide +kernel)) (fun _ _ _ _ _ => (pg_name (i := 2) sc__law_mill.nd rfl (by first | exact Or.inl rfl | exact Or.inr rfl))) (fun _ _ _ _ _ => pts_nil) (fun _ _ _ _ _ => (pe_cal c__law_slope hr (by decide) rfl (pa_cons (pv 0) (pa_cons pe_int pa_nil)))))
  (pss_cons (ps_set (i := 9) sc__law_mill.nd rfl (Or.inl rfl) (pe_tup (pa_cons pe_int (pa_cons pe_int pa_nil))))
  (pss_cons (ps_set (i := 10) sc__law_mill.nd rfl (Or.inl rfl) (pe_lst (pa_cons (pe_lst (pa_cons (pe_tup (pa_cons (pe_ix ix_seq (pe_ix ix_seq (pv 1) pe_int (fun _ _ => rfl)) pe_int (fun _ _ => rfl)) (pa_cons (pe_ix ix_seq (pv 8) pe_int (fun _ _ => rfl)) pa_nil))) (pa_cons (pe_tup (pa_cons (pe_cal c__law_div hr (by decide) rfl (pa_cons (pv 9) (pa_cons (pe_ix ix_seq (pe_ix ix_seq (pv 1) pe_int (fun _ _ => rfl)) pe_int (fun _ _ => rfl)) pa_nil))) (pa_cons (pe_ix ix_seq (pe_ix ix_seq (pv 1) pe_int (fun _ _ => rfl)) pe_int (fun _ _ => rfl)) pa_nil))) (pa_cons (pe_tup (pa_cons (pe_ix ix_seq (pv 8) pe_int (fun _ _ => rfl)) (pa_cons (pe_ix ix_seq (pe_ix ix_seq (pv 1) pe_int (fun _ _ => rfl)) pe_int (fun _ _ => rfl)) pa_nil))) pa_nil)))) pa_nil)))
  (pss_cons (ps_expr (pe_bm PySem.F.plainAttrs_list PySem.F.slot_list_append PySem.F.type_list_append mt_append (pv 10) (pa_cons (pe_lst (pa_cons (pe_tup (pa_cons (pe_ix ix_seq (pe_ix ix_seq (pv 1) pe_int (fun _ _ => rfl)) pe_int (fun _ _ => rfl)) (pa_cons (pe_ix ix_seq (pe_ix ix_seq (pv 1) pe_int (fun _ _ => rfl)) pe_int (fun _ _ => rfl)) pa_nil))) (pa_cons (pe_tup (pa_cons (pv 9) (pa_cons (pv 9) pa_nil))) (pa_cons (pe_tup (pa_cons (pe_cal c__law_div hr (by decide) rfl (pa_cons (pv 9) (pa_cons (pe_ix ix_seq (pe_ix ix_seq (pv 1) pe_int (fun _ _ => rfl)) pe_int (fun _ _ => rfl)) pa_nil))) (pa_cons (pe_cal c__law_div hr (by decide) rfl (pa_cons (pv 9) (pa_cons (pe_ix ix_seq (pe_ix ix_seq (pv 1) pe_int (fun _ _ => rfl)) pe_int (fun _ _ => rfl)) pa_nil))) pa_nil))) pa_nil)))) pa_nil)))
  (pss_cons (ps_set (i := 11) sc__law_mill.nd rfl (Or.inl rfl) (pe_lst (pa_cons (pe_tup (pa_cons (pe_ix ix_seq (pv 8) pe_int (fun _ _ => rfl)) (pa_cons (pe_cal c__law_div hr (by decide) rfl (pa_cons (pv 9) (pa_cons (pe_ix ix_seq (pe_ix ix_seq (pv 1) pe_int (fun _ _ => rfl)) pe_int (fun _ _ => rfl)) pa_nil))) pa_nil))) (pa_cons (pe_tup (pa_cons (pe_ix ix_seq (pe_ix ix_seq (pv 1) pe_int (fun _ _ => rfl)) pe_int (fun _ _ => rfl)) (pa_cons (pe_cal c__law_div hr (by decide) rfl (pa_cons (pv 9) (pa_cons (pe_ix ix_seq (pe_ix ix_seq (pv 1) pe_int (fun _ _ => rfl)) pe_int (fun _ _ => rfl)) pa_nil))) pa_nil))) pa_nil))))
  (pss_cons (ps_expr (pe_bm PySem.F.plainAttrs_list PySem.F.slot_list_append PySem.F.type_list_append mt_append (pv 10) (pa_cons (pe_op op_addA (pv 11) (pe_lst (pa_cons (pe_tup (pa_cons (pe_cal c__law_div hr (by decide) rfl (pa_cons (pv 9) (pa_cons (pe_ix ix_seq (pe_ix ix_seq (pv 1) pe_int (fun _ _ => rfl)) pe_int (fun _ _ => rfl)) pa_nil))) (pa_cons (pe_ix ix_seq (pv 8) pe_int (fun _ _ => rfl)) pa_nil))) pa_nil))) pa_nil)))
  (pss_one (ps_ret (pv 10)))))))))))
end
def t__law_table (K : PySem.W.Frag) (E : XK) : TS :=
  (tSeq (tAsg (tCall (spF K (fs__law_take K)) [] E0 (tCons (tVar 0) (tCons (tC (.int 8)) tNil))) (gName 2))
  (tSeq (tAsg (tOp (rAddA K) (tC (.int 1)) (tCall (spF K (fs__law_take K)) [] E0 (tCons (tVar 0) (tCons (tC (.int 3)) tNil)))) (gName 3))
  (tSeq (tAsg (tOp (rAddA K) (tC (.int 1)) (tCall (spF K (fs__law_take K)) [] E0 (tCons (tVar 0) (tCons (tC (.int 3)) tNil)))) (gName 4))
  (tSeq (tIfS (tTest (tOp (rEqD K) (tCall (spF K (fs__law_take K)) [] E0 (tCons (tVar 0) (tCons (tC (.int 6)) tNil))) (tC (.int 0)))) (tSeq (tAsg (tOp (rAddA K) (tC (.int 1)) (tCall (spF K (fs__law_take K)) [] E0 (tCons (tVar 0) (tCons (tVar 1) tNil)))) (gName 3))
  (tAsg (tOp (rAddA K) (tC (.int 1)) (tCall (spF K (fs__law_take K)) [] E0 (tCons (tVar 0) (tCons (tVar 1) tNil)))) (gName 4))) tNext)
  (tSeq (tIfS (tTest (tOp (rEqD K) (tVar 2) (tC (.int 0)))) (tRet (tCall (spF K (fs__law_mill K)) [] E0 (tCons (tVar 0) tNil))) tNext)
  (tSeq (tIfS (tTest (tOp rLtI (tVar 2) (tC (.int 4)))) (tSeq (tAsg (tCall (spF K (fs__law_directions K)) [] E0 (tCons (tVar 0) (tCons (tVar 3) (tCons (tVar 4) (tCons (tOp (rAddA K) (tC (.int 4)) (tCall (spF K (fs__law_take K)) [] E0 (tCons (tVar 0) (tCons (tC (.int 15)) tNil)))) tNil))))) (gTup K 2 (gCons (gName 5) (gCons (gName 6) gNil))))
  (tRet (tCall (spF K (fs__law_level_table K)) [] E0 (tCons (tVar 5) (tCons (tVar 6) tNil))))) tNext)
  (tRet (tCall (spF K (fs__law_free_table K)) [] E0 (tCons (tVar 0) (tCons (tVar 3) (tCons (tVar 4) tNil)))))))))))
def fs__law_table (K : PySem.W.Frag) : FS := fsS1 fun x P _ => x = .int 4 ∧ ∀ up ac tl, 1 ≤ up → up ≤ 4 → 1 ≤ ac → ac ≤ 4 → GoodL up ac tl → P (tabL tl)
theorem body__law_table {K : PySem.W.Frag} {mg : Str → Option Value} (T : Txt K mg) (E : XK) : ∀ (as : List AV) (P : D → Prop) (PX : XD → Prop), fs__law_table K as P PX → SatS (cn K E PX) (t__law_table K E) (gin as 5) (den P) := bS1 fun k x P PX q => by
  obtain ⟨rfl, q⟩ := q
  unfold t__law_table
  refine sat_seq (sat_asg ?_)
  walk_at "de"
  intro kind k0 k8
  refine sat_seq (sat_asg ?_)
  walk_at "de"
  intro a a0 a1
  walk_at "de"
  refine sat_seq (sat_asg ?_)
  walk_at "de"
  intro b b0 b1
  walk_at "de"
  refine sat_join (fun G' => ∃ ac up : Nat, 1 ≤ ac ∧ ac ≤ 4 ∧ 1 ≤ up ∧ up ≤ 4 ∧ G' = ⟨[.st k, .d (.int 4), .d (.int kind), .d (.int ac), .d (.int up), .any, .any], []⟩) ?_ ?_
  · refine sat_if ?_
    walk_at "de"
    intro c c0 c1
    walk_at "de"
    refine ⟨fun h => ?_, fun h => ?_⟩
    · refine sat_seq (sat_asg ?_)
      walk_at "de"
      intro e e0 e1
      walk_at "de"
      refine sat_asg ?_
      walk_at "de"
      intro f f0 f1
      walk_at "de"
      refine ⟨(1 + e).toNat, (1 + f).toNat, by omega, by omega, by omega, by omega, ?_⟩
      have h1 : (((1 + e).toNat : Nat) : Int) = 1 + e := by omega
      have h2 : (((1 + f).toNat : Nat) : Int) = 1 + f := by omega
      rw [h1, h2]
      rfl
    · refine sat_next ?_
      refine ⟨(1 + a).toNat, (1 + b).toNat, by omega, by omega, by omega, by omega, ?_⟩
      have h1 : (((1 + a).toNat : Nat) : Int) = 1 + a := by omega
      have h2 : (((1 + b).toNat : Nat) : Int) = 1 + b := by omega
      rw [h1, h2]
      rfl
  · rintro G' ⟨ac, up, a1, a4, u1, u4, rfl⟩
    walk_at "dl"
    refine ⟨fun h => ?_, fun h => ?_⟩
    · walk_at "dl"
      intro tl htl
      exact q 3 3 tl (by decide) (by decide) (by decide) (by decide) htl
    · walk_at "dl"
      refine ⟨fun h => ?_, fun h => ?_⟩
      · walk_at "dl"
        intro d d0 d1
        walk_at "dl"
        refine ⟨a4, u4, by omega, by omega, fun A B hA hB => ?_⟩
        walk_at "dl"
        refine ⟨A, B, ac, up, rfl, rfl, a1, a4, u1, u4, hA, hB, fun tl htl => ?_⟩
        exact q up ac tl u1 u4 a1 a4 htl
      · walk_at "dl"
        refine ⟨a1, a4, u1, u4, fun tl htl => ?_⟩
        exact q up ac tl u1 u4 a1 a4 htl
section
variable {P : Program} {w : World} {K : PySem.W.Frag} {mg : Str → Option Value} {base : Heap}
theorem ok__law_table {fd : FuncData} (F : FnP K "_law_table" s__law_table fd) (T : Txt K mg) (c__law_directions : Cal P w K mg base 5 "_law_directions" ["stream", "across", "up", "bottom"] (fs__law_directions K)) (c__law_free_table : Cal P w K mg base 5 "_law_free_table" ["stream", "across", "up"] (fs__law_free_table K)) (c__law_level_table : Cal P w K mg base 5 "_law_level_table" ["leans", "columns"] (fs__law_level_table K)) (c__law_mill : Cal P w K mg base 4 "_law_mill" ["stream"] (fs__law_mill K)) (c__law_take : Cal P w K mg base 2 "_law_take" ["stream", "many"] (fs__law_take K)) : FnOk P w K mg base (L2.CX P w) 6 (He.ga K "_law_table") fd ["stream", "most"] (spF K (fs__law_table K)) := by
  refine fn_ok (k := 5) F sc__law_table len_S1 (by decide) (t__law_table K) (fun cdv A outer s H E hr => ?_) (body__law_table T)
  exact (pss_cons (ps_set (i := 2) sc__law_table.nd rfl (Or.inl rfl) (pe_cal c__law_take hr (by decide) rfl (pa_cons (pv 0) (pa_cons pe_int pa_nil))))
  (pss_cons (ps_set (i := 3) sc__law_table.nd rfl (Or.inl rfl) (pe_op op_addA pe_int (pe_cal c__law_take hr (by decide) rfl (pa_cons (pv 0) (pa_cons pe_int pa_nil)))))
  (pss_cons (ps_set (i := 4) sc__law_table.nd rfl (Or.inl rfl) (pe_op op_addA pe_int (pe_cal c__law_take hr (by decide) rfl (pa_cons (pv 0) (pa_cons pe_int pa_nil)))))
  (pss_cons (ps_if (pt_cmpR (op_eqD hr.units) (pe_cal c__law_take hr (by decide) rfl (pa_cons (pv 0) (pa_cons pe_int pa_nil))) pe_int (nomark _)) (pss_cons (ps_set (i := 3) sc__law_table.nd rfl (Or.inl rfl) (pe_op op_addA pe_int (pe_cal c__law_take hr (by decide) rfl (pa_cons (pv 0) (pa_cons (pv 1) pa_nil)))))
  (pss_one (ps_set (i := 4) sc__law_table.nd rfl (Or.inl rfl) (pe_op op_addA pe_int (pe_cal c__law_take hr (by decide) rfl (pa_cons (pv 0) (pa_cons (pv 1) pa_nil))))))) pss_nil)
  (pss_cons (ps_if (pt_cmpR (op_eqD hr.units) (pv 2) pe_int (nomark _)) (pss_one (ps_ret (pe_cal c__law_mill hr (by decide) rfl (pa_cons (pv 0) pa_nil)))) pss_nil)
  (pss_cons (ps_if (pt_cmpR op_lt (pv 2) pe_int (nomark _)) (pss_cons (ps_asg (pe_cal c__law_directions hr (by decide) rfl (pa_cons (pv 0) (pa_cons (pv 3) (pa_cons (pv 4) (pa_cons (pe_op op_addA pe_int (pe_cal c__law_take hr (by decide) rfl (pa_cons (pv 0) (pa_cons pe_int pa_nil)))) pa_nil))))) (pg_tup (by rfl) (pgs_cons (pg_name (i := 5) sc__law_table.nd rfl (Or.inl rfl)) (pgs_cons (pg_name (i := 6) sc__law_table.nd rfl (Or.inl rfl)) pgs_nil))))
  (pss_one (ps_ret (pe_cal c__law_level_table hr (by decide) rfl (pa_cons (pv 5) (pa_cons (pv 6) pa_nil)))))) pss_nil)
  (pss_one (ps_ret (pe_cal c__law_free_table hr (by decide) rfl (pa_cons (pv 0) (pa_cons (pv 3) (pa_cons (pv 4) pa_nil))))))))))))
end
end X85
end
section
namespace X85
open PySem L2 DL
local macro_rules | `(tactic| walk_at "bi") => `(tactic| first
  | assumption
  | exact Sz.nb (by assumption) (by decide) | exact Sz.db (by assumption) (by decide)
  | (unfold Bi; decide))
local macro_rules | `(tactic| walk_at "sz0") => `(tactic| first
  | assumption
  | exact Sz.one | exact Sz.zero
  | ((apply Sz.neg); (· walk_at "sz0"))
  | ((apply Sz.mul); (· walk_at "sz0"); (· walk_at "sz0"))
  | ((apply Sz.add); (· walk_at "sz0"); (· walk_at "sz0"))
  | ((apply Sz.sub); (· walk_at "sz0"); (· walk_at "sz0"))
  | ((apply Sz.div); (· walk_at "sz0"); (· walk_at "sz0"); (· assumption)))
local macro_rules | `(tactic| walk_at "sz") => `(tactic| first | assumption | ((apply Sz.mono); (· walk_at "sz0"); (· decide)))
local macro_rules | `(tactic| walk_at "e1") => `(tactic| first
  | with_reducible refine evt_of ?_ | with_reducible refine evt_B ?_ | with_reducible refine evt_and ?_ | with_reducible refine evt_or ?_ | with_reducible refine evt_not ?_ | with_reducible refine evt_yes ?_
  | ((with_reducible apply ev_var); · exact rfl)
  | with_reducible refine ev_int ?_ | with_reducible refine ev_str ?_ | with_reducible refine ev_bl ?_ | with_reducible refine ev_non ?_
  | refine ev_stI _ rfl (by decide) ?_ | refine ev_stL rfl ?_
  | refine ev_rowIx rfl rfl ?_ | refine ev_rowLen rfl rfl ?_ | refine ev_rowsLen rfl rfl ?_ | refine ev_tupOfHot rfl rfl ?_ | refine ev_dnew ?_
  | with_reducible refine ev_ofL (el_lst ?_)
  | refine ev_ixHot rfl rfl ?_ | refine ev_lenHot rfl rfl ?_
  | with_reducible refine ev_op ?_ | with_reducible refine ev_neg ?_ | with_reducible refine ev_and ?_ | with_reducible refine ev_or ?_ | with_reducible refine ev_not ?_ | with_reducible refine ev_if ?_ | with_reducible refine ev_chain ?_
  | with_reducible refine ev_tup ?_ | with_reducible refine ev_call ?_ | with_reducible refine ev_callS ?_ | with_reducible refine ev_callKS ?_
  | refine ev_isiT (ns := ["list", "tuple"]) (by decide) ?_
  | with_reducible refine ev_cb ?_
  | with_reducible refine ea_nil ?_ | refine ea_val (v := .ty _) ?_ | ((with_reducible apply ea_st); · exact rfl) | with_reducible refine ea_cons ?_
  | refine ev_int ?_
  | refine ix_fr0 ?_ | refine ix_fr1 ?_ | refine k2_ix (.inl rfl) rfl ?_ | refine k2_ix (.inr rfl) rfl ?_
  | refine k2_mul (bi_mulOk (n := 9000) (m := 9000) (by walk_at "bi") (by walk_at "bi") (by decide)) ?_
  | refine k2_add ?_
  | refine k2_eqI ?_ | refine k2_neI ?_ | refine k2_eqF ?_ | refine k2_eqF2 ?_ | refine k2_neB ?_ | refine k2_is ?_ | refine k2_isnot ?_ | refine k2_isB ?_
  | refine k2_IB ?_ | refine k2_II ?_
  | refine kc_abs ?_ | refine kc_intI ?_ | refine kc_isi rfl ?_ | refine kc_len rfl ?_ | refine kc_all ?_
  | refine tup_one ?_ | refine tup_zero ?_ | refine tup_m1 ?_ | refine tup_neg ?_ | refine tup_any rfl (Nat.le_of_ble_eq_true rfl) ?_
  | refine tt_split ?_ | refine ff_split ?_
  | refine bool_any ?_ | refine int_any ?_ | refine fr_any ?_ | refine ⟨_, _, rfl, ?_⟩
  | ((refine cD1 ?_); (try dsimp only)) | ((refine cD2 ?_); (try dsimp only)) | ((refine cD3 ?_); (try dsimp only)) | ((refine cD4 ?_); (try dsimp only)) | ((refine cS0 ?_); (try dsimp only)) | ((refine cS1 ?_); (try dsimp only)) | ((refine cS2 ?_); (try dsimp only)) | ((refine cS3 ?_); (try dsimp only))
  | refine sz_and (by walk_at "sz") ?_
  | refine take_and (by first | decide | omega) (by first | decide | omega) ?_
  | refine ne_and (by assumption) ?_
  | refine ev_c (rp_ONE (by assumption)) ?_ | refine ev_c (rp_ZERO (by assumption)) ?_
  | refine ⟨_, _, rfl, rfl, ?_⟩ | refine ⟨_, _, _, rfl, rfl, rfl, ?_⟩ | refine ⟨_, _, _, _, rfl, rfl, rfl, rfl, ?_⟩)
local macro_rules | `(tactic| walk_at "d1") => `(tactic| first
  | refine sat_retHot rfl rfl ?_ | refine sat_retR rfl rfl ?_
  | with_reducible refine sat_seq ?_ | with_reducible refine sat_if ?_ | with_reducible refine sat_ret ?_ | with_reducible refine sat_retN ?_ | with_reducible refine sat_next ?_ | with_reducible refine sat_par ?_
  | with_reducible refine sat_asgHot (el_lst (ea_nil ⟨_, rfl, Nat.le_of_ble_eq_true rfl, ?_⟩))
  | refine sat_setSt _ rfl (by decide) ?_
  | with_reducible refine sat_asg ?_ | with_reducible refine sat_asgG ?_ | with_reducible refine eg_tup4 ?_ | with_reducible refine eg_tup2 ?_ | with_reducible refine eg_name ?_
  | (with_reducible refine sat_drop (te := tCallS _ _ _) ?_)
  | walk_at "e1")
local macro_rules | `(tactic| walk_at "dl") => `(tactic| repeat (walk_at "d1"))
local macro_rules | `(tactic| walk_at "de") => `(tactic| repeat (walk_at "e1"))

def GoodT (up ac : Nat) (tl : List (List (Rat × Rat))) : Prop := tl.length = up ∧ ∀ r ∈ tl, r.length = ac ∧ ∀ p ∈ r, OkP p
theorem GoodL.t {up ac : Nat} {tl : List (List (Rat × Rat))} (h : GoodL up ac tl) : GoodT up ac tl := ⟨h.1, fun r hr => ⟨(h.2 r hr).1, fun p hp => ⟨((h.2 r hr).2 p hp).s1.mono (by decide), ((h.2 r hr).2 p hp).s2.mono (by decide), ((h.2 r hr).2 p hp).p1, ((h.2 r hr).2 p hp).p2⟩⟩⟩
def rowsOf (tl : List (List (Rat × Rat))) : List (List D) := tl.map fun r => r.map prP
theorem rowsOf_at {tl : List (List (Rat × Rat))} {n : Nat} {r : List (Rat × Rat)} (h : tl[n]? = some r) : (rowsOf tl)[n]? = some (r.map prP) := by unfold rowsOf; rw [List.getElem?_map, h]; rfl
theorem seq_tabL {tl : List (List (Rat × Rat))} : seqD (tabL tl) = some (tl.map fun r => .list (r.map prP)) := rfl
theorem rows_copy {tl : List (List (Rat × Rat))} : ∀ (n : Nat) (x : D), (tl.map fun r => PyData.list (r.map prP))[n]? = some x → ∃ xs, (rowsOf tl)[n]? = some xs ∧ rowD x = some xs := fun n x h => by
  rw [List.getElem?_map] at h
  obtain ⟨r, e, rfl⟩ := Option.map_eq_some_iff.mp h
  exact ⟨_, rowsOf_at e, rfl⟩
def t__law_nudged (K : PySem.W.Frag) (E : XK) : TS :=
  (tSeq (tAsg (tLc (iAny K (tVar 1)) (gName 3) tYes (tCB (rListOf K) (tCons (tVar 3) tNil)) [3]) (gName 2))
  (tSeq (tAsg (tCall (spF K (fs__law_take K)) [] E0 (tCons (tVar 0) (tCons (tCB (rLenB K) (tCons (tVar 2) tNil)) tNil))) (gName 4))
  (tSeq (tAsg (tCall (spF K (fs__law_take K)) [] E0 (tCons (tVar 0) (tCons (tCB (rLenB K) (tCons (tOp (rIx K) (tVar 2) (tC (.int 0))) tNil)) tNil))) (gName 5))
  (tSeq (tAsg (tCB (rListOf K) (tCons (tOp (rIx K) (tOp (rIx K) (tVar 2) (tVar 4)) (tVar 5)) tNil)) (gName 6))
  (tSeq (tAsg (tCall (spF K (fs__law_take K)) [] E0 (tCons (tVar 0) (tCons (tC (.int 2)) tNil))) (gName 7))
  (tSeq (tAsg (tCall (spF K (fs__law_mul K)) [] E0 (tCons (tOp (rIx K) (tVar 6) (tVar 7)) (tCons (tCall (spF K (fs__law_slope K)) [] E0 (tCons (tVar 0) (tCons (tC (.int 3)) tNil))) tNil))) (gSub (tVar 6) (tVar 7) rSetL))
  (tSeq (tAsg (tCB (rTupOf K) (tCons (tVar 6) tNil)) (gSub (tOp (rIx K) (tVar 2) (tVar 4)) (tVar 5) rSetL))
  (tRet (tVar 2)))))))))
def fs__law_nudged (K : PySem.W.Frag) : FS := fsS1 fun x P _ => ∃ up ac tl, x = tabL tl ∧ GoodL up ac tl ∧ 1 ≤ up ∧ up ≤ 4 ∧ 1 ≤ ac ∧ ac ≤ 4 ∧ ∀ tl, GoodT up ac tl → P (tabL tl)
theorem body__law_nudged {K : PySem.W.Frag} {mg : Str → Option Value} (T : Txt K mg) (E : XK) : ∀ (as : List AV) (P : D → Prop) (PX : XD → Prop), fs__law_nudged K as P PX → SatS (cn K E PX) (t__law_nudged K E) (gin as 6) (den P) := bS1 fun k x P PX q => by
  obtain ⟨up, ac, tl, rfl, g, u1, u4, a1, a4, q⟩ := q
  have ltl := g.1
  have h0 : tl[0]? = some tl[0] := List.getElem?_eq_getElem (by omega)
  have l0 := (g.2 _ (List.mem_of_getElem? h0)).1
  unfold t__law_nudged
  refine sat_seq (sat_asgRows (ev_var rfl ⟨_, rowsOf tl, seq_tabL, by unfold rowsOf; simp, by rw [List.length_map]; omega, rows_copy, by simp, ?_⟩))
  refine sat_seq (sat_asg ?_)
  walk_at "de"
  have lr : (rowsOf tl).length = up := by unfold rowsOf; rw [List.length_map, ltl]
  rw [lr]
  refine ⟨by omega, by omega, fun j j0 j1 => ?_⟩
  refine sat_seq (sat_asg ?_)
  walk_at "de"
  refine ⟨_, 0, _, rfl, by rw [lr]; exact ixN_nat' (m := 0) (by omega), rowsOf_at h0, ?_⟩
  walk_at "de"
  rw [List.length_map, l0]
  refine ⟨by omega, by omega, fun i i0 i1 => ?_⟩
  have hj : tl[j.toNat]? = some tl[j.toNat] := List.getElem?_eq_getElem (by omega)
  obtain ⟨lj, oj⟩ := g.2 _ (List.mem_of_getElem? hj)
  generalize tl[j.toNat] = row at hj lj oj
  have hi : row[i.toNat]? = some row[i.toNat] := List.getElem?_eq_getElem (by omega)
  have oi := oj _ (List.mem_of_getElem? hi)
  generalize row[i.toNat] = p at hi oi
  have ej : (j.toNat : Int) = j := by omega
  have ei : (i.toNat : Int) = i := by omega
  have ixj : ixN (rowsOf tl).length j = some j.toNat := by
    rw [lr]
    conv => lhs; rw [← ej]
    exact ixN_nat' (by omega)
  refine sat_seq (sat_asgHot (el_listOf ?_))
  walk_at "de"
  refine ⟨_, _, _, rfl, ixj, rowsOf_at hj, ?_⟩
  walk_at "de"
  refine ⟨_, _, rfl, atI_int (n := i.toNat) (by omega) (by rw [List.getElem?_map, hi]; rfl), [fr p.1, fr p.2], .inr rfl, ?_⟩
  refine sat_seq (sat_asg ?_)
  walk_at "de"
  intro side sd0 sd1
  refine sat_seq (sat_setitem rfl rfl ?_)
  have sd : side = 0 ∨ side = 1 := by omega
  have pos : ∀ {a b : Rat}, 0 < a → 0 < b → 0 < a * b := fun h k => Rat.mul_pos h k
  obtain ⟨s1, s2, p1, p2⟩ := oi
  have fin : ∀ p' : Rat × Rat, OkP p' → P (.list (((rowsOf tl).set j.toNat ((row.map prP).set i.toNat (prP p'))).map .list)) := fun p' h => by
    have e : PyData.list (((rowsOf tl).set j.toNat ((row.map prP).set i.toNat (prP p'))).map .list) = tabL (tl.set j.toNat (row.set i.toNat p')) := by
      unfold tabL rowsOf
      rw [← List.map_set, ← List.map_set, List.map_map]
      rfl
    rw [e]
    refine q _ ⟨by rw [List.length_set, ltl], fun r hr => ?_⟩
    rcases List.mem_or_eq_of_mem_set hr with z | z
    · exact g.t.2 r z
    · subst z
      refine ⟨by rw [List.length_set, lj], fun x hx => ?_⟩
      rcases List.mem_or_eq_of_mem_set hx with z | z
      · exact (g.t.2 row (List.mem_of_getElem? hj)).2 x z
      · subst z; exact h
  have tail : ∀ p' : Rat × Rat, OkP p' → SatS (cn K E PX) (tSeq (tAsg (tCB (rTupOf K) (tCons (tVar 6) tNil)) (gSub (tOp (rIx K) (tVar 2) (tVar 4)) (tVar 5) rSetL)) (tRet (tVar 2)))
      ⟨[.st k, .d (tabL tl), .hot 0, .any, .d (.int j), .d (.int i), .hot 1, .d (.int side)], [.rows (rowsOf tl), .lst [fr p'.1, fr p'.2]]⟩ (den P) := fun p' h => by
    refine sat_seq (sat_rowSet rfl rfl ?_)
    walk_at "de"
    refine ⟨_, _, _, rfl, ixj, rowsOf_at hj, ?_⟩
    walk_at "de"
    refine ⟨_, i.toNat, rfl, ?_, ?_⟩
    · rw [List.length_map, lj]
      conv => lhs; rw [← ei]
      exact ixN_nat' (by omega)
    · refine sat_retR rfl rfl ?_
      exact fin p' h
  rcases sd with rfl | rfl
  · walk_at "de"
    refine ⟨by decide, by decide, fun s s0 ss => ?_⟩
    walk_at "de"
    exact tail (p.1 * s, p.2) ⟨(Sz.mul s1 ss).mono (by decide), s2.mono (by decide), pos p1 s0, p2⟩
  · walk_at "de"
    refine ⟨by decide, by decide, fun s s0 ss => ?_⟩
    walk_at "de"
    exact tail (p.1, p.2 * s) ⟨s1.mono (by decide), (Sz.mul s2 ss).mono (by decide), p1, pos p2 s0⟩
section
variable {P : Program} {w : World} {K : PySem.W.Frag} {mg : Str → Option Value} {base : Heap}
theorem ok__law_nudged {fd : FuncData} (F : FnP K "_law_nudged" s__law_nudged fd) (T : Txt K mg) (c__law_mul : Cal P w K mg base 2 "_law_mul" ["one", "other"] (fs__law_mul K)) (c__law_slope : Cal P w K mg base 3 "_law_slope" ["stream", "most"] (fs__law_slope K)) (c__law_take : Cal P w K mg base 2 "_law_take" ["stream", "many"] (fs__law_take K)) : FnOk P w K mg base (L2.CX P w) 4 (He.ga K "_law_nudged") fd ["stream", "table"] (spF K (fs__law_nudged K)) := by
  refine fn_ok (k := 3) F sc__law_nudged len_S1 (by decide) (t__law_nudged K) (fun cdv A outer s H E hr => ?_) (body__law_nudged T)
  exact (pss_cons (ps_setLc (i := 2) (own := [("row", 3)]) (g := (gName 3)) (tt := tYes) rfl sc__law_nudged.nd rfl rfl (sw_true rfl rfl rfl (by decide +kernel)) (pi_any (pv 1)) (blkOk_by (own := [("row", 3)]) (N := N__law_nudged) (sc := defScope s__law_nudged) (by decide +kernel)) (fun _ _ _ _ _ => (pg_name (i := 3) sc__law_nudged.nd rfl (by first | exact Or.inl rfl | exact Or.inr rfl))) (fun _ _ _ _ _ => pts_nil) (fun _ _ _ _ _ => (pe_callTy call_listOf (by rfl) T.n_list (by decide +kernel) (pa_cons (pv 3) pa_nil))))
  (pss_cons (ps_set (i := 4) sc__law_nudged.nd rfl (Or.inl rfl) (pe_cal c__law_take hr (by decide) rfl (pa_cons (pv 0) (pa_cons (pe_callB call_len (by rfl) T.n_len (by decide +kernel) (pa_cons (pv 2) pa_nil)) pa_nil))))
  (pss_cons (ps_set (i := 5) sc__law_nudged.nd rfl (Or.inl rfl) (pe_cal c__law_take hr (by decide) rfl (pa_cons (pv 0) (pa_cons (pe_callB call_len (by rfl) T.n_len (by decide +kernel) (pa_cons (pe_ix ix_seq (pv 2) pe_int (fun _ _ => rfl)) pa_nil)) pa_nil))))
  (pss_cons (ps_set (i := 6) sc__law_nudged.nd rfl (Or.inl rfl) (pe_callTy call_listOf (by rfl) T.n_list (by decide +kernel) (pa_cons (pe_ix ix_seq (pe_ix ix_seq (pv 2) (pv 4) (fun _ _ => rfl)) (pv 5) (fun _ _ => rfl)) pa_nil)))
  (pss_cons (ps_set (i := 7) sc__law_nudged.nd rfl (Or.inl rfl) (pe_cal c__law_take hr (by decide) rfl (pa_cons (pv 0) (pa_cons pe_int pa_nil))))
  (pss_cons (ps_asg (pe_cal c__law_mul hr (by decide) rfl (pa_cons (pe_ix ix_seq (pv 6) (pv 7) (fun _ _ => rfl)) (pa_cons (pe_cal c__law_slope hr (by decide) rfl (pa_cons (pv 0) (pa_cons pe_int pa_nil))) pa_nil))) (pg_sub (pv 6) (pv 7) set_list))
  (pss_cons (ps_asg (pe_callTy call_tupOf (by rfl) T.n_tuple (by decide +kernel) (pa_cons (pv 6) pa_nil)) (pg_sub (pe_ix ix_seq (pv 2) (pv 4) (fun _ _ => rfl)) (pv 5) set_list))
  (pss_one (ps_ret (pv 2))))))))))
end

/-! what a spoiled table is, bounded -/
theorem bdF_no {x : D} (h : ∀ a b : Int, x ≠ .tuple [.int a, .int b]) : BdF x := fun a b e => absurd e (h a b)
theorem bdF_ii {a b : Int} (h : Bi 200 a) (k : Bi 200 b) : BdF (.tuple [.int a, .int b]) := fun c d e => by
  simp only [PyData.tuple.injEq, List.cons.injEq, PyData.int.injEq, and_true] at e
  rw [← e.1, ← e.2]; exact ⟨h, k⟩
theorem bdF_fr {q : Rat} (h : Sz 200 q) : BdF (fr q) := bdF_ii h.1 h.2
theorem bdS_no {x : D} (h : ∀ a b : D, x ≠ .tuple [a, b]) : BdS x := fun a b e => absurd e (h a b)
theorem bdS_of {a b : D} (h : BdF a) (k : BdF b) : BdS (.tuple [a, b]) := fun c d e => by
  simp only [PyData.tuple.injEq, List.cons.injEq, and_true] at e
  rw [← e.1, ← e.2]; exact ⟨h, k⟩
theorem bdS_pr {p : Rat × Rat} (h : OkP p) : BdS (prP p) := bdS_of (bdF_fr h.s1) (bdF_fr h.s2)
theorem bdT_rows {xss : List (List D)} (h : ∀ xs ∈ xss, ∀ x ∈ xs, BdS x) : BdT (.list (xss.map .list)) := by
  intro ys e x hx
  have e2 : some (xss.map PyData.list) = some ys := e
  cases e2
  obtain ⟨xs, hxs, rfl⟩ := List.mem_map.mp hx
  intro zs e3 z hz
  have e4 : some xs = some zs := e3
  cases e4
  exact h xs hxs z hz
theorem bdT_no {x : D} (h : rowD x = none) : BdT x := fun xs e => by rw [h] at e; cases e
theorem bdR_no {x : D} (h : rowD x = none) : BdR x := fun xs e => by rw [h] at e; cases e
theorem pick_of {ds : List D} {R : D → Prop} {i : Int} (h0 : 0 ≤ i) (h1 : i < ds.length) (h : ∀ x ∈ ds, R x) : ∃ x, atI ds i = some x ∧ R x := by
  have hl : i.toNat < ds.length := by omega
  have e : ds[i.toNat]? = some ds[i.toNat] := List.getElem?_eq_getElem hl
  exact ⟨_, atI_int (n := i.toNat) (by omega) e, h _ (List.mem_of_getElem? e)⟩
theorem rows_bd {up ac : Nat} {tl : List (List (Rat × Rat))} (g : GoodT up ac tl) : ∀ xs ∈ rowsOf tl, ∀ x ∈ xs, BdS x := by
  intro xs hxs x hx
  unfold rowsOf at hxs
  obtain ⟨r, hr, rfl⟩ := List.mem_map.mp hxs
  obtain ⟨p, hp, rfl⟩ := List.mem_map.mp hx
  exact bdS_pr ((g.2 r hr).2 p hp)
theorem set_bd {xss : List (List D)} {xs : List D} {m : Nat} (h : ∀ xs ∈ xss, ∀ x ∈ xs, BdS x) (k : ∀ x ∈ xs, BdS x) : ∀ ys ∈ xss.set m xs, ∀ x ∈ ys, BdS x := fun ys hy x hx => by
  rcases List.mem_or_eq_of_mem_set hy with z | z
  · exact h ys z x hx
  · subst z; exact k x hx
theorem setx_bd {xs : List D} {m : Nat} {y : D} (h : ∀ x ∈ xs, BdS x) (k : BdS y) : ∀ x ∈ xs.set m y, BdS x := fun x hx => by
  rcases List.mem_or_eq_of_mem_set hx with z | z
  · exact h x z
  · subst z; exact k
def t__law_spoiled_table (K : PySem.W.Frag) (E : XK) : TS :=
  (tSeq (tAsg (tLc (iAny K (tVar 1)) (gName 3) tYes (tCB (rListOf K) (tCons (tVar 3) tNil)) [3]) (gName 2))
  (tSeq (tAsg (tCall (spF K (fs__law_take K)) [] E0 (tCons (tVar 0) (tCons (tCB (rLenB K) (tCons (tVar 2) tNil)) tNil))) (gName 4))
  (tSeq (tAsg (tCall (spF K (fs__law_take K)) [] E0 (tCons (tVar 0) (tCons (tCB (rLenB K) (tCons (tOp (rIx K) (tVar 2) (tC (.int 0))) tNil)) tNil))) (gName 5))
  (tSeq (tAsg (tCall (spF K (fs__law_take K)) [] E0 (tCons (tVar 0) (tCons (tC (.int 2)) tNil))) (gName 6))
  (tSeq (tAsg (tCall (spF K (fs__law_take K)) [] E0 (tCons (tVar 0) (tCons (tC (.int 12)) tNil))) (gName 7))
  (tSeq (tAsg (tOp (rIx K) (tLst (tCons (tTup (tCons (tC (.int 0)) (tCons (tC (.int 1)) tNil))) (tCons (tTup (tCons (tUn uNeg (tC (.int 1))) (tCons (tC (.int 2)) tNil))) (tCons (tTup (tCons (tC (.int 2)) (tCons (tC (.int 4)) tNil))) (tCons (tC (.int 1)) (tCons (tC (.bl true)) (tCons (tC .non) (tCons (tC (.str "1")) (tCons (tLst (tCons (tC (.int 1)) (tCons (tC (.int 2)) tNil))) (tCons (tTup (tCons (tC (.int 1)) (tCons (tC (.int 0)) tNil))) (tCons (tTup (tCons (tC (.bl true)) (tCons (tC (.int 2)) tNil))) (tCons (tTup (tCons (tC (.int 1)) (tCons (tC (.int 2)) (tCons (tC (.int 3)) tNil)))) (tCons (tTup (tCons (tC (.int 1)) (tCons (tUn uNeg (tC (.int 2))) tNil))) tNil))))))))))))) (tVar 7)) (gName 8))
  (tSeq (tAsg (tCall (spF K (fs__law_take K)) [] E0 (tCons (tVar 0) (tCons (tC (.int 7)) tNil))) (gName 9))
  (tSeq (tAsg (tCB (rListOf K) (tCons (tOp (rIx K) (tOp (rIx K) (tVar 2) (tVar 4)) (tVar 5)) tNil)) (gName 10))
  (tSeq (tAsg (tVar 8) (gSub (tVar 10) (tVar 6) rSetL))
  (tSeq (tIfS (tTest (tOp (rEqD K) (tVar 9) (tC (.int 0)))) (tRet (tOp (rIx K) (tLst (tCons (tC .non) (tCons (tC (.int 7)) (tCons (tC (.str "table")) (tCons (tLst tNil) (tCons tDNewK (tCons (tC (.bl true)) (tCons (tLst (tCons (tLst tNil) tNil)) (tCons (tLst (tCons (tC .non) tNil)) tNil))))))))) (tOp rModI (tVar 7) (tC (.int 8))))) tNext)
  (tSeq (tIfS (tTest (tOp (rEqD K) (tVar 9) (tC (.int 1)))) (tSeq (tDrop (tBM K "list" rAppend (tOp (rIx K) (tVar 2) (tVar 4)) (tCons (tOp (rIx K) (tOp (rIx K) (tVar 2) (tVar 4)) (tVar 5)) tNil)))
  (tIfS (tTest (tOp (rEqD K) (tCB (rLenB K) (tCons (tVar 2) tNil)) (tC (.int 1)))) (tAsg (tOp rMulA (tSl (rSlAny K) (tOp (rIx K) (tVar 2) (tVar 4)) tNoPart (tPart (tC (.int 1)))) (tC (.int 5))) (gSub (tVar 2) (tVar 4) rSetL)) tNext)) tNext)
  (tSeq (tIfS (tTest (tOp (rEqD K) (tVar 9) (tC (.int 2)))) (tAsg (tLc (iRng1 (tCons (tC (.int 5)) tNil)) (gName 11) tYes (tOp (rIx K) (tVar 2) (tVar 4)) [11]) (gName 2)) tNext)
  (tSeq (tIfS (tTest (tOp (rEqD K) (tVar 9) (tC (.int 3)))) (tAsg (tOp (rIx K) (tLst (tCons (tVar 10) (tCons (tC .non) (tCons (tTup (tCons (tOp (rIx K) (tVar 10) (tOp rSubI (tC (.int 1)) (tVar 6))) tNil)) (tCons (tC (.int 5)) (tCons (tTup (tCons (tOp (rIx K) (tVar 10) (tOp rSubI (tC (.int 1)) (tVar 6))) (tCons (tOp (rIx K) (tVar 10) (tOp rSubI (tC (.int 1)) (tVar 6))) (tCons (tOp (rIx K) (tVar 10) (tOp rSubI (tC (.int 1)) (tVar 6))) tNil)))) (tCons (tLst tNil) tNil))))))) (tOp rModI (tVar 7) (tC (.int 6)))) (gSub (tOp (rIx K) (tVar 2) (tVar 4)) (tVar 5) rSetL)) tNext)
  (tSeq (tIfS (tTest (tOp rGtI (tVar 9) (tC (.int 3)))) (tAsg (tCB (rTupOf K) (tCons (tVar 10) tNil)) (gSub (tOp (rIx K) (tVar 2) (tVar 4)) (tVar 5) rSetL)) tNext)
  (tRet (tVar 2))))))))))))))))
def fs__law_spoiled_table (K : PySem.W.Frag) : FS := fsS1 fun x P _ => ∃ up ac tl, x = tabL tl ∧ GoodT up ac tl ∧ 1 ≤ up ∧ up ≤ 4 ∧ 1 ≤ ac ∧ ac ≤ 4 ∧ ∀ d, BdT d → P d
theorem body__law_spoiled_table {K : PySem.W.Frag} {mg : Str → Option Value} (T : Txt K mg) (E : XK) : ∀ (as : List AV) (P : D → Prop) (PX : XD → Prop), fs__law_spoiled_table K as P PX → SatS (cn K E PX) (t__law_spoiled_table K E) (gin as 10) (den P) := bS1 fun k x P PX q => by
  obtain ⟨up, ac, tl, rfl, g, u1, u4, a1, a4, q⟩ := q
  have ltl := g.1
  have h0 : tl[0]? = some tl[0] := List.getElem?_eq_getElem (by omega)
  have l0 := (g.2 _ (List.mem_of_getElem? h0)).1
  unfold t__law_spoiled_table
  refine sat_seq (sat_asgRows (ev_var rfl ⟨_, rowsOf tl, seq_tabL, by unfold rowsOf; simp, by rw [List.length_map]; omega, rows_copy, by simp, ?_⟩))
  refine sat_seq (sat_asg ?_)
  walk_at "de"
  have lr : (rowsOf tl).length = up := by unfold rowsOf; rw [List.length_map, ltl]
  rw [lr]
  refine ⟨by omega, by omega, fun j j0 j1 => ?_⟩
  refine sat_seq (sat_asg ?_)
  walk_at "de"
  refine ⟨_, 0, _, rfl, by rw [lr]; exact ixN_nat' (m := 0) (by omega), rowsOf_at h0, ?_⟩
  walk_at "de"
  rw [List.length_map, l0]
  refine ⟨by omega, by omega, fun i i0 i1 => ?_⟩
  have hj : tl[j.toNat]? = some tl[j.toNat] := List.getElem?_eq_getElem (by omega)
  obtain ⟨lj, oj⟩ := g.2 _ (List.mem_of_getElem? hj)
  generalize tl[j.toNat] = row at hj lj oj
  have hi : row[i.toNat]? = some row[i.toNat] := List.getElem?_eq_getElem (by omega)
  have oi := oj _ (List.mem_of_getElem? hi)
  generalize row[i.toNat] = p at hi oi
  have ej : (j.toNat : Int) = j := by omega
  have ei : (i.toNat : Int) = i := by omega
  have ixj : ixN (rowsOf tl).length j = some j.toNat := by
    rw [lr]
    conv => lhs; rw [← ej]
    exact ixN_nat' (by omega)
  have ixi : ixN (row.map prP).length i = some i.toNat := by
    rw [List.length_map, lj]
    conv => lhs; rw [← ei]
    exact ixN_nat' (by omega)
  have ati : atI (row.map prP) i = some (prP p) := atI_int (n := i.toNat) (by omega) (by rw [List.getElem?_map, hi]; rfl)
  have rb := rows_bd g
  have rrow : ∀ x ∈ row.map prP, BdS x := rb _ (List.mem_of_getElem? (rowsOf_at hj))
  refine sat_seq (sat_asg ?_)
  walk_at "de"
  intro side sd0 sd1
  refine sat_seq (sat_asg ?_)
  walk_at "de"
  intro mode md0 md1
  refine sat_seq (sat_asg ?_)
  walk_at "de"
  have hitem : ∃ x, atI [fr 0, .tuple [.int (-1), .int 2], .tuple [.int 2, .int 4], .int 1, .bool true, .none, .str "1", .list [.int 1, .int 2], .tuple [.int 1, .int 0], .tuple [.bool true, .int 2], .tuple [.int 1, .int 2, .int 3], .tuple [.int 1, .int (-2)]] mode = some x ∧ BdF x := by
    refine pick_of md0 md1 fun x hx => ?_
    have z : ∀ n : Int, -5 < n → n < 5 → Bi 200 n := fun n h1 h2 => by unfold Bi; omega
    simp only [List.mem_cons, List.not_mem_nil, or_false] at hx
    rcases hx with rfl | rfl | rfl | rfl | rfl | rfl | rfl | rfl | rfl | rfl | rfl | rfl
    · exact bdF_ii (z 0 (by decide) (by decide)) (z 1 (by decide) (by decide))
    · exact bdF_ii (z _ (by decide) (by decide)) (z _ (by decide) (by decide))
    · exact bdF_ii (z _ (by decide) (by decide)) (z _ (by decide) (by decide))
    · exact bdF_no (by intro a b h; cases h)
    · exact bdF_no (by intro a b h; cases h)
    · exact bdF_no (by intro a b h; cases h)
    · exact bdF_no (by intro a b h; cases h)
    · exact bdF_no (by intro a b h; cases h)
    · exact bdF_ii (z _ (by decide) (by decide)) (z _ (by decide) (by decide))
    · exact bdF_no (by intro a b h; cases h)
    · exact bdF_no (by intro a b h; cases h)
    · exact bdF_ii (z _ (by decide) (by decide)) (z _ (by decide) (by decide))
  obtain ⟨item, hitem, bit⟩ := hitem
  refine k2_ix (.inl rfl) hitem ?_
  refine sat_seq (sat_asg ?_)
  walk_at "de"
  intro pick pk0 pk1
  refine sat_seq (sat_asgHot (el_listOf ?_))
  walk_at "de"
  refine ⟨_, _, _, rfl, ixj, rowsOf_at hj, ?_⟩
  walk_at "de"
  refine ⟨_, _, rfl, ati, [fr p.1, fr p.2], .inr rfl, ?_⟩
  have hset : ∃ m a b c, ixN [fr p.1, fr p.2].length side = some m ∧ [fr p.1, fr p.2].set m item = [a, b] ∧ BdF a ∧ BdF b ∧ atI [a, b] (1 - side) = some c := by
    have sd : side = 0 ∨ side = 1 := by omega
    rcases sd with rfl | rfl
    · exact ⟨0, item, fr p.2, fr p.2, rfl, rfl, bit, bdF_fr oi.s2, rfl⟩
    · exact ⟨1, fr p.1, item, fr p.1, rfl, rfl, bdF_fr oi.s1, bit, rfl⟩
  obtain ⟨m, a, b, c, hm, hab, ba, bb, hc⟩ := hset
  refine sat_seq (sat_setitem rfl rfl ?_)
  walk_at "de"
  refine ⟨_, m, rfl, hm, ?_⟩
  rw [hab]
  have fin : ∀ xss : List (List D), (∀ xs ∈ xss, ∀ x ∈ xs, BdS x) → P (.list (xss.map .list)) := fun xss h => q _ (bdT_rows h)
  have skip : ∀ {pk n : Int} {t u : TS} {G : Gm} {E2 : DE}, G.sl[9]? = some (.d (.int pk)) → pk ≠ n → SatS (cn K E PX) u G E2 → SatS (cn K E PX) (tSeq (tIfS (tTest (tOp (rEqD K) (tVar 9) (tC (.int n)))) t tNext) u) G E2 := fun h9 hn h =>
    sat_seq (sat_if (evt_of (ev_op (ev_var h9 (ev_int (k2_eqI ⟨_, rfl, ft_split (decide_eq_false hn) (sat_next h)⟩))))))
  have hit : ∀ {n : Int} {t u : TS} {G : Gm} {E2 : DE}, G.sl[9]? = some (.d (.int n)) → SatS (cn K E PX) t G { E2 with nx := fun G' => SatS (cn K E PX) u G' E2 } → SatS (cn K E PX) (tSeq (tIfS (tTest (tOp (rEqD K) (tVar 9) (tC (.int n)))) t tNext) u) G E2 := fun h9 h =>
    sat_seq (sat_if (evt_of (ev_op (ev_var h9 (ev_int (k2_eqI ⟨_, rfl, tf_split (decide_eq_true rfl) h⟩))))))
  have pc : pick = 0 ∨ pick = 1 ∨ pick = 2 ∨ pick = 3 ∨ (pick = 4 ∨ pick = 5 ∨ pick = 6) := by omega
  rcases pc with rfl | rfl | rfl | rfl | hp
  · walk_at "dl"
    refine k2_C (R := fun _ j => j ≠ 0) (by decide) ?_
    have hret : ∃ x, atI [.none, .int 7, .str "table", .list [], .dict [], .bool true, .list [.list []], .list [.none]] (mode.fmod 8) = some x ∧ BdT x := by
      refine pick_of (fmod_le (by decide)).1 (fmod_le (by decide)).2 fun x hx => ?_
      simp only [List.mem_cons, List.not_mem_nil, or_false] at hx
      rcases hx with rfl | rfl | rfl | rfl | rfl | rfl | rfl | rfl
      · exact bdT_no rfl
      · exact bdT_no rfl
      · exact bdT_no rfl
      · exact bdT_rows (xss := []) (by simp)
      · exact bdT_no rfl
      · exact bdT_no rfl
      · exact bdT_rows (xss := [[]]) (by simp)
      · intro xs e x hx
        have e2 : some [PyData.none] = some xs := e
        cases e2
        have : x = .none := by simpa using hx
        subst this
        exact bdR_no rfl
    obtain ⟨x, hx, bx⟩ := hret
    exact k2_ix (.inl rfl) hx (q x bx)
  · walk_at "dl"
    refine sat_rowAppend rfl rfl ?_
    walk_at "de"
    refine ⟨_, _, _, rfl, ixj, rowsOf_at hj, by rw [List.length_map]; omega, ?_⟩
    walk_at "de"
    refine ⟨_, _, _, rfl, ixj, rowsOf_at hj, ?_⟩
    walk_at "de"
    refine ⟨_, _, rfl, ati, ?_⟩
    have b1 : ∀ x ∈ row.map prP ++ [prP p], BdS x := fun x hx => by
      rcases List.mem_append.mp hx with z | z
      · exact rrow x z
      · have : x = prP p := by simpa using z
        subst this
        exact bdS_pr oi
    have b2 := set_bd (m := j.toNat) rb b1
    walk_at "dl"
    refine ⟨fun h => ?_, fun h => ?_⟩
    · refine sat_rowsSet rfl rfl (el_mul (ev_ofL (el_rowSl rfl rfl ?_)))
      walk_at "de"
      refine ⟨_, j.toNat, _, rfl, by rw [List.length_set]; exact ixj, List.getElem?_set_self (by rw [lr]; omega), eo_none (eo_some ?_)⟩
      walk_at "de"
      refine ⟨_, rfl, ?_⟩
      walk_at "de"
      have lc : (cutD (row.map prP ++ [prP p]) none (some 1)).length ≤ 5 := by
        unfold cutD
        rw [List.length_take, List.length_drop, List.length_append, List.length_map, lj]
        simp; omega
      have l5 : (cutD (row.map prP ++ [prP p]) none (some 1)).length * Int.toNat 5 ≤ 100000 := by
        have : (Int.toNat 5) = 5 := rfl
        rw [this]; omega
      refine ⟨by decide, by decide, l5, ?_⟩
      have b3 : ∀ x ∈ (List.replicate (Int.toNat 5) (cutD (row.map prP ++ [prP p]) none (some 1))).flatten, BdS x := fun x hx => by
        obtain ⟨l, hl, hx⟩ := List.mem_flatten.mp hx
        have : l = cutD (row.map prP ++ [prP p]) none (some 1) := List.eq_of_mem_replicate hl
        subst this
        exact b1 x (List.mem_of_mem_drop (List.mem_of_mem_take hx))
      walk_at "de"
      refine ⟨_, j.toNat, rfl, by rw [List.length_set]; exact ixj, ?_⟩
      walk_at "dl"
      exact fin _ (set_bd b2 b3)
    · walk_at "dl"
      exact fin _ b2
  · refine sat_coolR 0 rfl ?_
    refine skip rfl (by decide) (skip rfl (by decide) (hit rfl ?_))
    refine sat_asg (ev_ofL (el_comp (ei_rng1 ?_)))
    walk_at "de"
    refine ⟨_, rfl, by decide, by decide, ?_⟩
    refine compI_map (ys := List.replicate 5 (.list (row.map prP))) (by rw [rngD_len]; rfl) (by rw [rngD_len]; decide) (fun n z y hz hy => egw_name (by simp) ?_) ?_
    · walk_at "de"
      refine k2_ix (.inl rfl) (atI_int (n := j.toNat) (by omega) (by rw [List.getElem?_map, rowsOf_at hj]; rfl)) ?_
      have := List.mem_of_getElem? hy
      exact (List.eq_of_mem_replicate this).symm
    · walk_at "dl"
      have e : PyData.list (List.replicate 5 (.list (row.map prP))) = .list ((List.replicate 5 (row.map prP)).map .list) := by rw [List.map_replicate]
      rw [e]
      refine fin _ fun xs hxs x hx => ?_
      have := List.eq_of_mem_replicate hxs
      subst this
      exact rrow x hx
  · refine sat_coolpop (hot := [.rows (rowsOf tl)]) (xs := [a, b]) ?_
    refine skip rfl (by decide) (skip rfl (by decide) (skip rfl (by decide) (hit rfl ?_)))
    refine sat_rowSet rfl rfl ?_
    walk_at "de"
    refine k2_ix (.inl rfl) hc ?_
    walk_at "de"
    refine k2_ix (.inl rfl) hc ?_
    walk_at "de"
    refine k2_ix (.inl rfl) hc ?_
    walk_at "de"
    refine k2_ix (.inl rfl) hc ?_
    walk_at "de"
    refine k2_C (R := fun _ j => j ≠ 0) (by decide) ?_
    have hx : ∃ x, atI [.list [a, b], .none, .tuple [c], .int 5, .tuple [c, c, c], .list []] (mode.fmod 6) = some x ∧ BdS x := by
      refine pick_of (fmod_le (by decide)).1 (fmod_le (by decide)).2 fun x hx => ?_
      simp only [List.mem_cons, List.not_mem_nil, or_false] at hx
      rcases hx with rfl | rfl | rfl | rfl | rfl | rfl <;> exact bdS_no (by intro a b h; cases h)
    obtain ⟨x, hx, bx⟩ := hx
    refine k2_ix (.inl rfl) hx ?_
    walk_at "de"
    refine ⟨_, _, _, rfl, ixj, rowsOf_at hj, ?_⟩
    walk_at "de"
    refine ⟨_, i.toNat, rfl, ixi, ?_⟩
    walk_at "dl"
    exact fin _ (set_bd rb (setx_bd rrow bx))
  · have last : ∀ pick : Int, pick = 4 ∨ pick = 5 ∨ pick = 6 → SatS (cn K E PX) (tSeq (tIfS (tTest (tOp rGtI (tVar 9) (tC (.int 3)))) (tAsg (tCB (rTupOf K) (tCons (tVar 10) tNil)) (gSub (tOp (rIx K) (tVar 2) (tVar 4)) (tVar 5) rSetL)) tNext) (tRet (tVar 2)))
        ⟨[.st k, .d (tabL tl), .hot 0, .any, .d (.int j), .d (.int i), .d (.int side), .d (.int mode), .d item, .d (.int pick), .hot 1, .any], [.rows (rowsOf tl), .lst [a, b]]⟩ (den P) := fun pick hp => by
      refine sat_seq (sat_if ?_)
      walk_at "de"
      refine tf_split (decide_eq_true (by omega)) ?_
      refine sat_rowSet rfl rfl ?_
      walk_at "de"
      refine ⟨_, _, _, rfl, ixj, rowsOf_at hj, ?_⟩
      walk_at "de"
      refine ⟨_, i.toNat, rfl, ixi, ?_⟩
      refine sat_retR rfl rfl ?_
      exact fin _ (set_bd rb (setx_bd rrow (bdS_of ba bb)))
    refine skip rfl (by omega) (skip rfl (by omega) (skip rfl (by omega) (skip rfl (by omega) ?_)))
    exact last pick hp
section
variable {P : Program} {w : World} {K : PySem.W.Frag} {mg : Str → Option Value} {base : Heap}
theorem ok__law_spoiled_table {fd : FuncData} (F : FnP K "_law_spoiled_table" s__law_spoiled_table fd) (T : Txt K mg) (c__law_take : Cal P w K mg base 2 "_law_take" ["stream", "many"] (fs__law_take K)) : FnOk P w K mg base (L2.CX P w) 3 (He.ga K "_law_spoiled_table") fd ["stream", "table"] (spF K (fs__law_spoiled_table K)) := by
  refine fn_ok (k := 2) F sc__law_spoiled_table len_S1 (by decide) (t__law_spoiled_table K) (fun cdv A outer s H E hr => ?_) (body__law_spoiled_table T)
  exact (pss_cons (ps_set (i := 2) sc__law_spoiled_table.nd rfl (Or.inr rfl) (pe_lc (own := [("row", 3)]) (g := (gName 3)) (tt := tYes) rfl sc__law_spoiled_table.nd (pi_any (pv 1)) (blkOk_by (own := [("row", 3)]) (N := N__law_spoiled_table) (sc := defScope s__law_spoiled_table) (by decide +kernel)) (fun _ _ _ _ _ => (pg_name (i := 3) sc__law_spoiled_table.nd rfl (by first | exact Or.inl rfl | exact Or.inr rfl))) (fun _ _ _ _ _ => pts_nil) (fun _ _ _ _ _ => (pe_callTy call_listOf (by rfl) T.n_list (by decide +kernel) (pa_cons (pv 3) pa_nil)))))
  (pss_cons (ps_set (i := 4) sc__law_spoiled_table.nd rfl (Or.inr rfl) (pe_cal c__law_take hr (by decide) rfl (pa_cons (pv 0) (pa_cons (pe_callB call_len (by rfl) T.n_len (by decide +kernel) (pa_cons (pv 2) pa_nil)) pa_nil))))
  (pss_cons (ps_set (i := 5) sc__law_spoiled_table.nd rfl (Or.inl rfl) (pe_cal c__law_take hr (by decide) rfl (pa_cons (pv 0) (pa_cons (pe_callB call_len (by rfl) T.n_len (by decide +kernel) (pa_cons (pe_ix ix_seq (pv 2) pe_int (fun _ _ => rfl)) pa_nil)) pa_nil))))
  (pss_cons (ps_set (i := 6) sc__law_spoiled_table.nd rfl (Or.inl rfl) (pe_cal c__law_take hr (by decide) rfl (pa_cons (pv 0) (pa_cons pe_int pa_nil))))
  (pss_cons (ps_set (i := 7) sc__law_spoiled_table.nd rfl (Or.inl rfl) (pe_cal c__law_take hr (by decide) rfl (pa_cons (pv 0) (pa_cons pe_int pa_nil))))
  (pss_cons (ps_set (i := 8) sc__law_spoiled_table.nd rfl (Or.inl rfl) (pe_ix ix_seq (pe_lst (pa_cons (pe_tup (pa_cons pe_int (pa_cons pe_int pa_nil))) (pa_cons (pe_tup (pa_cons (pe_un un_neg pe_int) (pa_cons pe_int pa_nil))) (pa_cons (pe_tup (pa_cons pe_int (pa_cons pe_int pa_nil))) (pa_cons pe_int (pa_cons pe_bl (pa_cons pe_non (pa_cons pe_str (pa_cons (pe_lst (pa_cons pe_int (pa_cons pe_int pa_nil))) (pa_cons (pe_tup (pa_cons pe_int (pa_cons pe_int pa_nil))) (pa_cons (pe_tup (pa_cons pe_bl (pa_cons pe_int pa_nil))) (pa_cons (pe_tup (pa_cons pe_int (pa_cons pe_int (pa_cons pe_int pa_nil)))) (pa_cons (pe_tup (pa_cons pe_int (pa_cons (pe_un un_neg pe_int) pa_nil))) pa_nil))))))))))))) (pv 7) (fun _ _ => rfl)))
  (pss_cons (ps_set (i := 9) sc__law_spoiled_table.nd rfl (Or.inl rfl) (pe_cal c__law_take hr (by decide) rfl (pa_cons (pv 0) (pa_cons pe_int pa_nil))))
  (pss_cons (ps_set (i := 10) sc__law_spoiled_table.nd rfl (Or.inl rfl) (pe_callTy call_listOf (by rfl) T.n_list (by decide +kernel) (pa_cons (pe_ix ix_seq (pe_ix ix_seq (pv 2) (pv 4) (fun _ _ => rfl)) (pv 5) (fun _ _ => rfl)) pa_nil)))
  (pss_cons (ps_asg (pv 8) (pg_sub (pv 10) (pv 6) set_list))
  (pss_cons (ps_if (pt_cmpR (op_eqD hr.units) (pv 9) pe_int (nomark _)) (pss_one (ps_ret (pe_ix ix_seq (pe_lst (pa_cons pe_non (pa_cons pe_int (pa_cons pe_str (pa_cons (pe_lst pa_nil) (pa_cons pe_dnewK (pa_cons pe_bl (pa_cons (pe_lst (pa_cons (pe_lst pa_nil) pa_nil)) (pa_cons (pe_lst (pa_cons pe_non pa_nil)) pa_nil))))))))) (pe_op op_modN (pv 7) pe_int) (fun _ _ => rfl)))) pss_nil)
  (pss_cons (ps_if (pt_cmpR (op_eqD hr.units) (pv 9) pe_int (nomark _)) (pss_cons (ps_expr (pe_bm PySem.F.plainAttrs_list PySem.F.slot_list_append PySem.F.type_list_append mt_append (pe_ix ix_seq (pv 2) (pv 4) (fun _ _ => rfl)) (pa_cons (pe_ix ix_seq (pe_ix ix_seq (pv 2) (pv 4) (fun _ _ => rfl)) (pv 5) (fun _ _ => rfl)) pa_nil)))
  (pss_one (ps_if (pt_cmpR (op_eqD hr.units) (pe_callB call_len (by rfl) T.n_len (by decide +kernel) (pa_cons (pv 2) pa_nil)) pe_int (nomark _)) (pss_one (ps_asg (pe_op op_mulA (pe_slice sl_any (pe_ix ix_seq (pv 2) (pv 4) (fun _ _ => rfl)) po_none (po_some pe_int)) pe_int) (pg_sub (pv 2) (pv 4) set_list))) pss_nil))) pss_nil)
  (pss_cons (ps_if (pt_cmpR (op_eqD hr.units) (pv 9) pe_int (nomark _)) (pss_one (ps_set (i := 2) sc__law_spoiled_table.nd rfl (Or.inr rfl) (pe_lc (own := [("k", 11)]) (g := (gName 11)) (tt := tYes) rfl sc__law_spoiled_table.nd (pi_range1 (by rfl) T.n_range (pa_cons pe_int pa_nil)) (blkOk_by (own := [("k", 11)]) (N := N__law_spoiled_table) (sc := defScope s__law_spoiled_table) (by decide +kernel)) (fun _ _ _ _ _ => (pg_name (i := 11) sc__law_spoiled_table.nd rfl (by first | exact Or.inl rfl | exact Or.inr rfl))) (fun _ _ _ _ _ => pts_nil) (fun _ _ _ _ _ => (pe_ix ix_seq (pv 2) (pv 4) (fun _ _ => rfl)))))) pss_nil)
  (pss_cons (ps_if (pt_cmpR (op_eqD hr.units) (pv 9) pe_int (nomark _)) (pss_one (ps_asg (pe_ix ix_seq (pe_lst (pa_cons (pv 10) (pa_cons pe_non (pa_cons (pe_tup (pa_cons (pe_ix ix_seq (pv 10) (pe_op op_sub pe_int (pv 6)) (fun _ _ => rfl)) pa_nil)) (pa_cons pe_int (pa_cons (pe_tup (pa_cons (pe_ix ix_seq (pv 10) (pe_op op_sub pe_int (pv 6)) (fun _ _ => rfl)) (pa_cons (pe_ix ix_seq (pv 10) (pe_op op_sub pe_int (pv 6)) (fun _ _ => rfl)) (pa_cons (pe_ix ix_seq (pv 10) (pe_op op_sub pe_int (pv 6)) (fun _ _ => rfl)) pa_nil)))) (pa_cons (pe_lst pa_nil) pa_nil))))))) (pe_op op_modN (pv 7) pe_int) (fun _ _ => rfl)) (pg_sub (pe_ix ix_seq (pv 2) (pv 4) (fun _ _ => rfl)) (pv 5) set_list))) pss_nil)
  (pss_cons (ps_if (pt_cmpR op_gt (pv 9) pe_int (nomark _)) (pss_one (ps_asg (pe_callTy call_tupOf (by rfl) T.n_tuple (by decide +kernel) (pa_cons (pv 10) pa_nil)) (pg_sub (pe_ix ix_seq (pv 2) (pv 4) (fun _ _ => rfl)) (pv 5) set_list))) pss_nil)
  (pss_one (ps_ret (pv 2)))))))))))))))))
end
end X85
end
section
namespace X85
open PySem L2 DL
local macro_rules | `(tactic| walk_at "bi") => `(tactic| first
  | assumption
  | exact Sz.nb (by assumption) (by decide) | exact Sz.db (by assumption) (by decide)
  | (unfold Bi; decide))
local macro_rules | `(tactic| walk_at "sz0") => `(tactic| first
  | assumption
  | exact Sz.one | exact Sz.zero
  | ((apply Sz.neg); (· walk_at "sz0"))
  | ((apply Sz.mul); (· walk_at "sz0"); (· walk_at "sz0"))
  | ((apply Sz.add); (· walk_at "sz0"); (· walk_at "sz0"))
  | ((apply Sz.sub); (· walk_at "sz0"); (· walk_at "sz0"))
  | ((apply Sz.div); (· walk_at "sz0"); (· walk_at "sz0"); (· assumption)))
local macro_rules | `(tactic| walk_at "sz") => `(tactic| first | assumption | ((apply Sz.mono); (· walk_at "sz0"); (· decide)))
local macro_rules | `(tactic| walk_at "e1") => `(tactic| first
  | with_reducible refine evt_of ?_ | with_reducible refine evt_B ?_ | with_reducible refine evt_and ?_ | with_reducible refine evt_or ?_ | with_reducible refine evt_not ?_ | with_reducible refine evt_yes ?_
  | ((with_reducible apply ev_var); · exact rfl)
  | with_reducible refine ev_int ?_ | with_reducible refine ev_str ?_ | with_reducible refine ev_bl ?_ | with_reducible refine ev_non ?_
  | refine ev_stI _ rfl (by decide) ?_ | refine ev_stL rfl ?_
  | refine ev_rowIx rfl rfl ?_ | refine ev_rowLen rfl rfl ?_ | refine ev_rowsLen rfl rfl ?_ | refine ev_tupOfHot rfl rfl ?_ | refine ev_dnew ?_
  | with_reducible refine ev_ofL (el_lst ?_)
  | refine ev_ixHot rfl rfl ?_ | refine ev_lenHot rfl rfl ?_
  | with_reducible refine ev_op ?_ | with_reducible refine ev_neg ?_ | with_reducible refine ev_and ?_ | with_reducible refine ev_or ?_ | with_reducible refine ev_not ?_ | with_reducible refine ev_if ?_ | with_reducible refine ev_chain ?_
  | with_reducible refine ev_tup ?_ | with_reducible refine ev_call ?_ | with_reducible refine ev_callS ?_ | with_reducible refine ev_callKS ?_
  | refine ev_isiT (ns := ["list", "tuple"]) (by decide) ?_
  | with_reducible refine ev_cb ?_
  | with_reducible refine ea_nil ?_ | refine ea_val (v := .ty _) ?_ | ((with_reducible apply ea_st); · exact rfl) | with_reducible refine ea_cons ?_
  | refine ev_int ?_
  | refine ix_fr0 ?_ | refine ix_fr1 ?_ | refine k2_ix (.inl rfl) rfl ?_ | refine k2_ix (.inr rfl) rfl ?_
  | refine k2_mul (bi_mulOk (n := 9000) (m := 9000) (by walk_at "bi") (by walk_at "bi") (by decide)) ?_
  | refine k2_add ?_
  | refine k2_eqI ?_ | refine k2_neI ?_ | refine k2_eqF ?_ | refine k2_eqF2 ?_ | refine k2_neB ?_ | refine k2_is ?_ | refine k2_isnot ?_ | refine k2_isB ?_
  | refine k2_IB ?_ | refine k2_II ?_
  | refine kc_abs ?_ | refine kc_intI ?_ | refine kc_isi rfl ?_ | refine kc_len rfl ?_ | refine kc_all ?_
  | refine tup_one ?_ | refine tup_zero ?_ | refine tup_m1 ?_ | refine tup_neg ?_ | refine tup_any rfl (Nat.le_of_ble_eq_true rfl) ?_
  | refine tt_split ?_ | refine ff_split ?_
  | refine bool_any ?_ | refine int_any ?_ | refine fr_any ?_ | refine ⟨_, _, rfl, ?_⟩
  | ((refine cD1 ?_); (try dsimp only)) | ((refine cD2 ?_); (try dsimp only)) | ((refine cD3 ?_); (try dsimp only)) | ((refine cD4 ?_); (try dsimp only)) | ((refine cS0 ?_); (try dsimp only)) | ((refine cS1 ?_); (try dsimp only)) | ((refine cS2 ?_); (try dsimp only)) | ((refine cS3 ?_); (try dsimp only))
  | refine sz_and (by walk_at "sz") ?_
  | refine take_and (by first | decide | omega) (by first | decide | omega) ?_
  | refine ne_and (by assumption) ?_
  | refine ev_c (rp_ONE (by assumption)) ?_ | refine ev_c (rp_ZERO (by assumption)) ?_
  | refine ⟨_, _, rfl, rfl, ?_⟩ | refine ⟨_, _, _, rfl, rfl, rfl, ?_⟩ | refine ⟨_, _, _, _, rfl, rfl, rfl, rfl, ?_⟩)
local macro_rules | `(tactic| walk_at "d1") => `(tactic| first
  | refine sat_retHot rfl rfl ?_ | refine sat_retR rfl rfl ?_
  | with_reducible refine sat_seq ?_ | with_reducible refine sat_if ?_ | with_reducible refine sat_ret ?_ | with_reducible refine sat_retN ?_ | with_reducible refine sat_next ?_ | with_reducible refine sat_par ?_
  | with_reducible refine sat_asgHot (el_lst (ea_nil ⟨_, rfl, Nat.le_of_ble_eq_true rfl, ?_⟩))
  | refine sat_setSt _ rfl (by decide) ?_
  | with_reducible refine sat_asg ?_ | with_reducible refine sat_asgG ?_ | with_reducible refine eg_tup4 ?_ | with_reducible refine eg_tup2 ?_ | with_reducible refine eg_name ?_
  | (with_reducible refine sat_drop (te := tCallS _ _ _) ?_)
  | walk_at "e1")
local macro_rules | `(tactic| walk_at "dl") => `(tactic| repeat (walk_at "d1"))
local macro_rules | `(tactic| walk_at "de") => `(tactic| repeat (walk_at "e1"))

theorem wish_copy {ws : List (List Int)} : ∀ (n : Nat) (x : D), (ws.map fun r => PyData.list (r.map .int))[n]? = some x → ∃ xs, (ws.map fun r => r.map PyData.int)[n]? = some xs ∧ rowD x = some xs := fun n x h => by
  rw [List.getElem?_map] at h
  obtain ⟨r, e, rfl⟩ := Option.map_eq_some_iff.mp h
  exact ⟨_, by rw [List.getElem?_map, e]; rfl, rfl⟩
def t__law_spoiled_wish (K : PySem.W.Frag) (E : XK) : TS :=
  (tSeq (tAsg (tLc (iAny K (tVar 1)) (gName 3) tYes (tCB (rListOf K) (tCons (tVar 3) tNil)) [3]) (gName 2))
  (tSeq (tAsg (tCall (spF K (fs__law_take K)) [] E0 (tCons (tVar 0) (tCons (tCB (rLenB K) (tCons (tVar 2) tNil)) tNil))) (gName 4))
  (tSeq (tAsg (tCall (spF K (fs__law_take K)) [] E0 (tCons (tVar 0) (tCons (tCB (rLenB K) (tCons (tOp (rIx K) (tVar 2) (tC (.int 0))) tNil)) tNil))) (gName 5))
  (tSeq (tAsg (tCall (spF K (fs__law_take K)) [] E0 (tCons (tVar 0) (tCons (tC (.int 10)) tNil))) (gName 6))
  (tSeq (tAsg (tCall (spF K (fs__law_take K)) [] E0 (tCons (tVar 0) (tCons (tC (.int 5)) tNil))) (gName 7))
  (tSeq (tIfS (tTest (tOp (rEqD K) (tVar 7) (tC (.int 0)))) (tRet (tOp (rIx K) (tLst (tCons (tC .non) (tCons (tC (.int 7)) (tCons (tC (.str "12")) (tCons (tLst tNil) (tCons tDNewK (tCons (tC (.bl true)) (tCons (tTup (tCons (tC (.int 1)) (tCons (tC (.int 2)) tNil))) (tCons (tLst (tCons (tLst tNil) tNil)) (tCons (tLst (tCons (tC .non) tNil)) (tCons (tC (.int 2)) tNil))))))))))) (tVar 6))) tNext)
  (tSeq (tIfS (tTest (tOp (rEqD K) (tVar 7) (tC (.int 1)))) (tDrop (tBM K "list" rAppend (tOp (rIx K) (tVar 2) (tVar 4)) (tCons (tC (.int 1)) tNil))) tNext)
  (tSeq (tIfS (tTest (tOp (rEqD K) (tVar 7) (tC (.int 2)))) (tDrop (tBM K "list" rAppend (tVar 2) (tCons (tCB (rListOf K) (tCons (tOp (rIx K) (tVar 2) (tVar 4)) tNil)) tNil))) tNext)
  (tSeq (tIfS (tTest (tOp (rEqD K) (tVar 7) (tC (.int 3)))) (tAsg (tSl (rSlAny K) (tOp (rIx K) (tVar 2) (tVar 4)) tNoPart (tPart (tUn uNeg (tC (.int 1))))) (gSub (tVar 2) (tVar 4) rSetL)) tNext)
  (tSeq (tIfS (tTest (tOp (rEqD K) (tVar 7) (tC (.int 4)))) (tAsg (tOp (rIx K) (tLst (tCons (tC (.int 0)) (tCons (tC (.int 3)) (tCons (tC (.bl true)) (tCons (tC .non) (tCons (tC (.str "1")) (tCons (tTup (tCons (tC (.int 1)) (tCons (tC (.int 1)) tNil))) (tCons (tUn uNeg (tC (.int 1))) (tCons (tLst (tCons (tC (.int 1)) tNil)) (tCons (tOp rPowI (tC (.int 10)) (tC (.int 39))) (tCons (tC (.bl false)) tNil))))))))))) (tVar 6)) (gSub (tOp (rIx K) (tVar 2) (tVar 4)) (tVar 5) rSetL)) tNext)
  (tRet (tVar 2))))))))))))
def fs__law_spoiled_wish (K : PySem.W.Frag) : FS := fsS1 fun x P _ => ∃ (up ac : Nat) (ws : List (List Int)), x = wishL ws ∧ ws.length = up ∧ (∀ w ∈ ws, w.length = ac) ∧ 1 ≤ up ∧ up ≤ 4 ∧ 1 ≤ ac ∧ ac ≤ 4 ∧ ∀ d, P d
theorem body__law_spoiled_wish {K : PySem.W.Frag} {mg : Str → Option Value} (T : Txt K mg) (E : XK) : ∀ (as : List AV) (P : D → Prop) (PX : XD → Prop), fs__law_spoiled_wish K as P PX → SatS (cn K E PX) (t__law_spoiled_wish K E) (gin as 6) (den P) := bS1 fun k x P PX q => by
  obtain ⟨up, ac, ws, rfl, lws, g, u1, u4, a1, a4, q⟩ := q
  have h0 : ws[0]? = some ws[0] := List.getElem?_eq_getElem (by omega)
  have l0 := g _ (List.mem_of_getElem? h0)
  unfold t__law_spoiled_wish
  refine sat_seq (sat_asgRows (ev_var rfl ⟨_, ws.map fun r => r.map PyData.int, rfl, by simp, by rw [List.length_map]; omega, wish_copy, by simp, ?_⟩))
  refine sat_seq (sat_asg ?_)
  walk_at "de"
  have lr : (ws.map fun r => r.map PyData.int).length = up := by rw [List.length_map, lws]
  rw [lr]
  refine ⟨by omega, by omega, fun j j0 j1 => ?_⟩
  refine sat_seq (sat_asg ?_)
  walk_at "de"
  refine ⟨_, 0, _, rfl, by rw [lr]; exact ixN_nat' (m := 0) (by omega), by rw [List.getElem?_map, h0]; rfl, ?_⟩
  walk_at "de"
  rw [List.length_map, l0]
  refine ⟨by omega, by omega, fun i i0 i1 => ?_⟩
  have hj : ws[j.toNat]? = some ws[j.toNat] := List.getElem?_eq_getElem (by omega)
  have lj := g _ (List.mem_of_getElem? hj)
  generalize ws[j.toNat] = row at hj lj
  have ej : (j.toNat : Int) = j := by omega
  have ei : (i.toNat : Int) = i := by omega
  have ixj : ixN (ws.map fun r => r.map PyData.int).length j = some j.toNat := by
    rw [lr]
    conv => lhs; rw [← ej]
    exact ixN_nat' (by omega)
  have atj : (ws.map fun r => r.map PyData.int)[j.toNat]? = some (row.map .int) := by rw [List.getElem?_map, hj]; rfl
  have ixi : ixN (row.map PyData.int).length i = some i.toNat := by
    rw [List.length_map, lj]
    conv => lhs; rw [← ei]
    exact ixN_nat' (by omega)
  refine sat_seq (sat_asg ?_)
  walk_at "de"
  intro mode md0 md1
  refine sat_seq (sat_asg ?_)
  walk_at "de"
  intro pick pk0 pk1
  have skip : ∀ {pk n : Int} {t u : TS} {G : Gm} {E2 : DE}, G.sl[7]? = some (.d (.int pk)) → pk ≠ n → SatS (cn K E PX) u G E2 → SatS (cn K E PX) (tSeq (tIfS (tTest (tOp (rEqD K) (tVar 7) (tC (.int n)))) t tNext) u) G E2 := fun h9 hn h =>
    sat_seq (sat_if (evt_of (ev_op (ev_var h9 (ev_int (k2_eqI ⟨_, rfl, ft_split (decide_eq_false hn) (sat_next h)⟩))))))
  have hit : ∀ {n : Int} {t u : TS} {G : Gm} {E2 : DE}, G.sl[7]? = some (.d (.int n)) → SatS (cn K E PX) t G { E2 with nx := fun G' => SatS (cn K E PX) u G' E2 } → SatS (cn K E PX) (tSeq (tIfS (tTest (tOp (rEqD K) (tVar 7) (tC (.int n)))) t tNext) u) G E2 := fun h9 h =>
    sat_seq (sat_if (evt_of (ev_op (ev_var h9 (ev_int (k2_eqI ⟨_, rfl, tf_split (decide_eq_true rfl) h⟩))))))
  have pc : pick = 0 ∨ pick = 1 ∨ pick = 2 ∨ pick = 3 ∨ pick = 4 := by omega
  have all : ∀ ds : List D, mode < ds.length → ∃ x, atI ds mode = some x := fun ds hl => by
    obtain ⟨x, h, _⟩ := pick_of (ds := ds) (R := fun _ => True) md0 hl fun _ _ => trivial
    exact ⟨x, h⟩
  rcases pc with rfl | rfl | rfl | rfl | rfl
  · refine hit rfl (sat_ret ?_)
    walk_at "de"
    obtain ⟨x, hx⟩ := all [.none, .int 7, .str "12", .list [], .dict [], .bool true, .tuple [.int 1, .int 2], .list [.list []], .list [.none], .int 2] md1
    exact k2_ix (.inl rfl) hx (q x)
  · refine skip rfl (by decide) (hit rfl (sat_rowAppend rfl rfl ?_))
    walk_at "de"
    refine ⟨_, _, _, rfl, ixj, atj, by rw [List.length_map]; omega, ?_⟩
    walk_at "de"
    refine skip rfl (by decide) (skip rfl (by decide) (skip rfl (by decide) (sat_retR rfl rfl (q _))))
  · refine skip rfl (by decide) (skip rfl (by decide) (hit rfl (sat_rowsAppend rfl rfl (by rw [lr]; omega) (el_rowList rfl rfl ?_))))
    walk_at "de"
    refine ⟨_, _, _, rfl, ixj, atj, ?_⟩
    refine skip rfl (by decide) (skip rfl (by decide) (sat_retR rfl rfl (q _)))
  · refine skip rfl (by decide) (skip rfl (by decide) (skip rfl (by decide) (hit rfl (sat_rowsSet rfl rfl (el_rowSl rfl rfl ?_)))))
    walk_at "de"
    refine ⟨_, _, _, rfl, ixj, atj, eo_none (eo_some ?_)⟩
    walk_at "de"
    refine ⟨_, _, rfl, ixj, ?_⟩
    exact skip rfl (by decide) (sat_retR rfl rfl (q _))
  · refine skip rfl (by decide) (skip rfl (by decide) (skip rfl (by decide) (skip rfl (by decide) (hit rfl (sat_rowSet rfl rfl ?_)))))
    walk_at "de"
    refine k2_C (R := CPow) ⟨by decide, by decide, by decide⟩ ?_
    walk_at "de"
    obtain ⟨x, hx⟩ := all [.int 0, .int 3, .bool true, .none, .str "1", .tuple [.int 1, .int 1], .int (-1), .list [.int 1], .int (10 ^ Int.toNat 39), .bool false] md1
    refine k2_ix (.inl rfl) hx ?_
    walk_at "de"
    refine ⟨_, _, _, rfl, ixj, atj, ?_⟩
    walk_at "de"
    refine ⟨_, _, rfl, ixi, ?_⟩
    exact sat_retR rfl rfl (q _)
section
variable {P : Program} {w : World} {K : PySem.W.Frag} {mg : Str → Option Value} {base : Heap}
theorem ok__law_spoiled_wish {fd : FuncData} (F : FnP K "_law_spoiled_wish" s__law_spoiled_wish fd) (T : Txt K mg) (c__law_take : Cal P w K mg base 2 "_law_take" ["stream", "many"] (fs__law_take K)) : FnOk P w K mg base (L2.CX P w) 3 (He.ga K "_law_spoiled_wish") fd ["stream", "wish"] (spF K (fs__law_spoiled_wish K)) := by
  refine fn_ok (k := 2) F sc__law_spoiled_wish len_S1 (by decide) (t__law_spoiled_wish K) (fun cdv A outer s H E hr => ?_) (body__law_spoiled_wish T)
  exact (pss_cons (ps_setLc (i := 2) (own := [("row", 3)]) (g := (gName 3)) (tt := tYes) rfl sc__law_spoiled_wish.nd rfl rfl (sw_true rfl rfl rfl (by decide +kernel)) (pi_any (pv 1)) (blkOk_by (own := [("row", 3)]) (N := N__law_spoiled_wish) (sc := defScope s__law_spoiled_wish) (by decide +kernel)) (fun _ _ _ _ _ => (pg_name (i := 3) sc__law_spoiled_wish.nd rfl (by first | exact Or.inl rfl | exact Or.inr rfl))) (fun _ _ _ _ _ => pts_nil) (fun _ _ _ _ _ => (pe_callTy call_listOf (by rfl) T.n_list (by decide +kernel) (pa_cons (pv 3) pa_nil))))
  (pss_cons (ps_set (i := 4) sc__law_spoiled_wish.nd rfl (Or.inl rfl) (pe_cal c__law_take hr (by decide) rfl (pa_cons (pv 0) (pa_cons (pe_callB call_len (by rfl) T.n_len (by decide +kernel) (pa_cons (pv 2) pa_nil)) pa_nil))))
  (pss_cons (ps_set (i := 5) sc__law_spoiled_wish.nd rfl (Or.inl rfl) (pe_cal c__law_take hr (by decide) rfl (pa_cons (pv 0) (pa_cons (pe_callB call_len (by rfl) T.n_len (by decide +kernel) (pa_cons (pe_ix ix_seq (pv 2) pe_int (fun _ _ => rfl)) pa_nil)) pa_nil))))
  (pss_cons (ps_set (i := 6) sc__law_spoiled_wish.nd rfl (Or.inl rfl) (pe_cal c__law_take hr (by decide) rfl (pa_cons (pv 0) (pa_cons pe_int pa_nil))))
  (pss_cons (ps_set (i := 7) sc__law_spoiled_wish.nd rfl (Or.inl rfl) (pe_cal c__law_take hr (by decide) rfl (pa_cons (pv 0) (pa_cons pe_int pa_nil))))
  (pss_cons (ps_if (pt_cmpR (op_eqD hr.units) (pv 7) pe_int (nomark _)) (pss_one (ps_ret (pe_ix ix_seq (pe_lst (pa_cons pe_non (pa_cons pe_int (pa_cons pe_str (pa_cons (pe_lst pa_nil) (pa_cons pe_dnewK (pa_cons pe_bl (pa_cons (pe_tup (pa_cons pe_int (pa_cons pe_int pa_nil))) (pa_cons (pe_lst (pa_cons (pe_lst pa_nil) pa_nil)) (pa_cons (pe_lst (pa_cons pe_non pa_nil)) (pa_cons pe_int pa_nil))))))))))) (pv 6) (fun _ _ => rfl)))) pss_nil)
  (pss_cons (ps_if (pt_cmpR (op_eqD hr.units) (pv 7) pe_int (nomark _)) (pss_one (ps_expr (pe_bm PySem.F.plainAttrs_list PySem.F.slot_list_append PySem.F.type_list_append mt_append (pe_ix ix_seq (pv 2) (pv 4) (fun _ _ => rfl)) (pa_cons pe_int pa_nil)))) pss_nil)
  (pss_cons (ps_if (pt_cmpR (op_eqD hr.units) (pv 7) pe_int (nomark _)) (pss_one (ps_expr (pe_bm PySem.F.plainAttrs_list PySem.F.slot_list_append PySem.F.type_list_append mt_append (pv 2) (pa_cons (pe_callTy call_listOf (by rfl) T.n_list (by decide +kernel) (pa_cons (pe_ix ix_seq (pv 2) (pv 4) (fun _ _ => rfl)) pa_nil)) pa_nil)))) pss_nil)
  (pss_cons (ps_if (pt_cmpR (op_eqD hr.units) (pv 7) pe_int (nomark _)) (pss_one (ps_asg (pe_slice sl_any (pe_ix ix_seq (pv 2) (pv 4) (fun _ _ => rfl)) po_none (po_some (pe_un un_neg pe_int))) (pg_sub (pv 2) (pv 4) set_list))) pss_nil)
  (pss_cons (ps_if (pt_cmpR (op_eqD hr.units) (pv 7) pe_int (nomark _)) (pss_one (ps_asg (pe_ix ix_seq (pe_lst (pa_cons pe_int (pa_cons pe_int (pa_cons pe_bl (pa_cons pe_non (pa_cons pe_str (pa_cons (pe_tup (pa_cons pe_int (pa_cons pe_int pa_nil))) (pa_cons (pe_un un_neg pe_int) (pa_cons (pe_lst (pa_cons pe_int pa_nil)) (pa_cons (pe_op op_pow pe_int pe_int) (pa_cons pe_bl pa_nil))))))))))) (pv 6) (fun _ _ => rfl)) (pg_sub (pe_ix ix_seq (pv 2) (pv 4) (fun _ _ => rfl)) (pv 5) set_list))) pss_nil)
  (pss_one (ps_ret (pv 2)))))))))))))
end
def t__law_fitting_told (K : PySem.W.Frag) (E : XK) : TS :=
  (tSeq (tAsg (tC .non) (gName 1))
  (tSeq (tAsg (tC (.bl false)) (gName 2))
  (tSeq (fun D σ H => (fun (W : WX) => (tSeq (tAsg (tCallS (spF K (fs_fits_together K)) (WE W) (tCons (tVar 0) tNil)) (gName 1))
  (tIfS (tTest (tOp (rNeD K) (tCallKS 1 (spF K (fs_fits_together K)) (WE W) (tCons (tVar 0) tNil)) (tVar 1))) (tAsg (tC .non) (gName 1)) tNext))) (wOnly K (.ref (He.ga K "BadTable")) (fun _ _ _ => (tAsg (tC (.bl true)) (gName 2))) (fun cls d (_ : L2.St) H => E cls d H) D) D σ H)
  (tRet (tTup (tCons (tVar 1) (tCons (tVar 2) tNil)))))))
def fs__law_fitting_told (K : PySem.W.Frag) : FS := fsD1 fun x P _ => (isTabD x = false ∧ P (.tuple [.none, .bool true])) ∨ ∃ up ac T, isTabD x = true ∧ Tab x up ac T ∧ P (.tuple [.bool (clB up ac T), .bool false])
theorem body__law_fitting_told {K : PySem.W.Frag} {mg : Str → Option Value} (T : Txt K mg) (E : XK) : ∀ (as : List AV) (P : D → Prop) (PX : XD → Prop), fs__law_fitting_told K as P PX → SatS (cn K E PX) (t__law_fitting_told K E) (gin as 2) (den P) := bD1 fun x P PX q => by
  unfold t__law_fitting_told
  refine sat_seq (sat_asg (ev_non ?_))
  refine sat_seq (sat_asg (ev_bl ?_))
  rcases q with ⟨h, q⟩ | ⟨up, ac, T, h, tb, q⟩
  · refine sat_seq (sat_try (c := cn K E PX) (cl := .ref (He.ga K "BadTable")) (ts := fun _ _ _ => (tAsg (tC (.bl true)) (gName 2))) (tb := fun (W : WX) => (tSeq (tAsg (tCallS (spF K (fs_fits_together K)) (WE W) (tCons (tVar 0) tNil)) (gName 1))
  (tIfS (tTest (tOp (rNeD K) (tCallKS 1 (spF K (fs_fits_together K)) (WE W) (tCons (tVar 0) tNil)) (tVar 1))) (tAsg (tC .non) (gName 1)) tNext))) (PX := fun e G' => e = ⟨.ref (He.ga K "BadTable"), none⟩ ∧ G' = ⟨[.d x, .d .none, .d (.bool false)], []⟩) (fun W => ?_) ?_)
    · refine sat_seq (sat_asg (ev_callS ?_))
      walk_at "de"
      exact .inl ⟨h, rfl, rfl⟩
    · rintro e G' ⟨rfl, rfl⟩
      refine ⟨true, T.m_BadTable_BadTable, fun _ a cls d => ?_, fun z => by cases z⟩
      refine sat_asg (ev_bl ?_)
      walk_at "dl"
      exact q
  · refine sat_seq (sat_try (c := cn K E PX) (cl := .ref (He.ga K "BadTable")) (ts := fun _ _ _ => (tAsg (tC (.bl true)) (gName 2))) (tb := fun (W : WX) => (tSeq (tAsg (tCallS (spF K (fs_fits_together K)) (WE W) (tCons (tVar 0) tNil)) (gName 1))
  (tIfS (tTest (tOp (rNeD K) (tCallKS 1 (spF K (fs_fits_together K)) (WE W) (tCons (tVar 0) tNil)) (tVar 1))) (tAsg (tC .non) (gName 1)) tNext))) (PX := fun e G' => False) (fun W => ?_) (fun e G' z => z.elim))
    refine sat_seq (sat_asg (ev_callS ?_))
    walk_at "de"
    refine .inr ⟨up, ac, T, h, tb, ?_⟩
    refine sat_if ?_
    walk_at "de"
    refine ⟨rfl, cD1 (.inr ⟨up, ac, T, h, tb, ?_⟩)⟩
    walk_at "de"
    refine ft_split (by simp) ?_
    refine sat_next ?_
    walk_at "dl"
    exact q
section
variable {P : Program} {w : World} {K : PySem.W.Frag} {mg : Str → Option Value} {base : Heap}
theorem ok__law_fitting_told {fd : FuncData} (F : FnP K "_law_fitting_told" s__law_fitting_told fd) (T : Txt K mg) (c_fits_together : Cal P w K mg base 7 "fits_together" ["table"] (fs_fits_together K)) : FnOk P w K mg base (L2.CX P w) 8 (He.ga K "_law_fitting_told") fd ["table"] (spF K (fs__law_fitting_told K)) := by
  refine fn_ok (k := 7) F sc__law_fitting_told len_D1 (by decide) (t__law_fitting_told K) (fun cdv A outer s H E hr => ?_) (body__law_fitting_told T)
  exact (pss_cons (ps_set (i := 1) sc__law_fitting_told.nd rfl (Or.inl rfl) pe_non)
  (pss_cons (ps_set (i := 2) sc__law_fitting_told.nd rfl (Or.inl rfl) pe_bl)
  (pss_cons (ps_try_only (tb := fun (W : WX) => (tSeq (tAsg (tCallS (spF K (fs_fits_together K)) (WE W) (tCons (tVar 0) tNil)) (gName 1))
  (tIfS (tTest (tOp (rNeD K) (tCallKS 1 (spF K (fs_fits_together K)) (WE W) (tCons (tVar 0) tNil)) (tVar 1))) (tAsg (tC .non) (gName 1)) tNext))) (ts := fun _ _ _ => (tAsg (tC (.bl true)) (gName 2))) rfl rfl ⟨rfl, by decide, Or.inl T.x_BadTable.gC⟩ (takes_of rfl rfl rfl rfl) (fun W pn xe tk hpo => (pss_cons (ps_set (i := 1) sc__law_fitting_told.nd rfl (Or.inl rfl) (pe_calS c_fits_together hr (by decide) tk rfl (pa_cons (pv 0) pa_nil)))
  (pss_one (ps_if (pt_cmpR (op_neD hr.units) (pe_calKS (x := "fits_together") c_fits_together hr (by decide) tk rfl (pk_cons (pv 0) pk_nil)) (pv 1) (nomark _)) (pss_one (ps_set (i := 1) sc__law_fitting_told.nd rfl (Or.inl rfl) pe_non)) pss_nil)))) (fun _ _ _ _ _ _ _ => (pss_one (ps_set (i := 2) sc__law_fitting_told.nd rfl (Or.inl rfl) pe_bl))))
  (pss_one (ps_ret (pe_tup (pa_cons (pv 1) (pa_cons (pv 2) pa_nil))))))))
end
def t__law_fulfilled_told (K : PySem.W.Frag) (E : XK) : TS :=
  (tSeq (tAsg (tC .non) (gName 2))
  (tSeq (tAsg (tC (.str "")) (gName 3))
  (tSeq (fun D σ H => (fun (W : WX) => (tAsg (tCallKS 2 (spF K (fs_fulfils K)) (WE W) (tCons (tVar 0) (tCons (tVar 1) tNil))) (gName 2))) (wMany K (fun cls d (_ : L2.St) H => E cls d H) D [(.ref (He.ga K "BadTable"), fun _ _ _ => (tAsg (tC (.str "table")) (gName 3))), (.ref (He.ga K "BadWish"), fun _ _ _ => (tAsg (tC (.str "wish")) (gName 3)))]) D σ H)
  (tRet (tTup (tCons (tVar 2) (tCons (tVar 3) tNil)))))))
def fs__law_fulfilled_told (K : PySem.W.Frag) : FS := fsD2 fun x y P _ => (isTabD x = false ∧ P (.tuple [.none, .str "table"])) ∨ ∃ up ac T, isTabD x = true ∧ Tab x up ac T ∧
  ((isWishD y ac up = false ∧ P (.tuple [.none, .str "wish"])) ∨ ∃ W, isWishD y ac up = true ∧ Wsh y up ac W ∧ P (.tuple [.bool (fulB up ac T W), .str ""]))
theorem body__law_fulfilled_told {K : PySem.W.Frag} {mg : Str → Option Value} (T : Txt K mg) (E : XK) : ∀ (as : List AV) (P : D → Prop) (PX : XD → Prop), fs__law_fulfilled_told K as P PX → SatS (cn K E PX) (t__law_fulfilled_told K E) (gin as 2) (den P) := bD2 fun x y P PX q => by
  unfold t__law_fulfilled_told
  refine sat_seq (sat_asg (ev_non ?_))
  refine sat_seq (sat_asg (ev_str ?_))
  rcases q with ⟨h, q⟩ | ⟨up, ac, TT, h, tb, q⟩
  · refine sat_seq (sat_tryMany (c := cn K E PX) (tb := fun (W : WX) => (tAsg (tCallKS 2 (spF K (fs_fulfils K)) (WE W) (tCons (tVar 0) (tCons (tVar 1) tNil))) (gName 2)))
      (l := [(.ref (He.ga K "BadTable"), fun _ _ _ => (tAsg (tC (.str "table")) (gName 3))), (.ref (He.ga K "BadWish"), fun _ _ _ => (tAsg (tC (.str "wish")) (gName 3)))]) (PX := fun e G' => e = ⟨.ref (He.ga K "BadTable"), none⟩ ∧ G' = ⟨[.d x, .d y, .d .none, .d (.str "")], []⟩) (fun W => ?_) ?_)
    · refine sat_asg ?_
      walk_at "de"
      exact ⟨rfl, cD2 (.inl ⟨h, rfl, rfl⟩)⟩
    · rintro e G' ⟨rfl, rfl⟩
      refine ⟨true, T.m_BadTable_BadTable, fun _ a cls d => ?_, fun z => by cases z⟩
      refine sat_asg (ev_str ?_)
      walk_at "dl"
      exact q
  · rcases q with ⟨hw, q⟩ | ⟨WW, hw, wb, q⟩
    · refine sat_seq (sat_tryMany (c := cn K E PX) (tb := fun (W : WX) => (tAsg (tCallKS 2 (spF K (fs_fulfils K)) (WE W) (tCons (tVar 0) (tCons (tVar 1) tNil))) (gName 2)))
      (l := [(.ref (He.ga K "BadTable"), fun _ _ _ => (tAsg (tC (.str "table")) (gName 3))), (.ref (He.ga K "BadWish"), fun _ _ _ => (tAsg (tC (.str "wish")) (gName 3)))]) (PX := fun e G' => e = ⟨.ref (He.ga K "BadWish"), none⟩ ∧ G' = ⟨[.d x, .d y, .d .none, .d (.str "")], []⟩) (fun W => ?_) ?_)
      · refine sat_asg ?_
        walk_at "de"
        exact ⟨rfl, cD2 (.inr ⟨up, ac, TT, h, tb, .inl ⟨hw, rfl, rfl⟩⟩)⟩
      · rintro e G' ⟨rfl, rfl⟩
        refine ⟨false, T.m_BadWish_BadTable, fun z => (by cases z), fun _ => ?_⟩
        refine ⟨true, T.m_BadWish_BadWish, fun _ a cls d => ?_, fun z => by cases z⟩
        refine sat_asg (ev_str ?_)
        walk_at "dl"
        exact q
    · refine sat_seq (sat_tryMany (c := cn K E PX) (tb := fun (W : WX) => (tAsg (tCallKS 2 (spF K (fs_fulfils K)) (WE W) (tCons (tVar 0) (tCons (tVar 1) tNil))) (gName 2)))
      (l := [(.ref (He.ga K "BadTable"), fun _ _ _ => (tAsg (tC (.str "table")) (gName 3))), (.ref (He.ga K "BadWish"), fun _ _ _ => (tAsg (tC (.str "wish")) (gName 3)))]) (PX := fun e G' => False) (fun W => ?_) (fun e G' z => z.elim))
      refine sat_asg ?_
      walk_at "de"
      refine ⟨rfl, cD2 (.inr ⟨up, ac, TT, h, tb, .inr ⟨WW, hw, wb, ?_⟩⟩)⟩
      walk_at "dl"
      exact q
section
variable {P : Program} {w : World} {K : PySem.W.Frag} {mg : Str → Option Value} {base : Heap}
theorem ok__law_fulfilled_told {fd : FuncData} (F : FnP K "_law_fulfilled_told" s__law_fulfilled_told fd) (T : Txt K mg) (c_fulfils : Cal P w K mg base 11 "fulfils" ["table", "wish"] (fs_fulfils K)) : FnOk P w K mg base (L2.CX P w) 12 (He.ga K "_law_fulfilled_told") fd ["table", "wish"] (spF K (fs__law_fulfilled_told K)) := by
  refine fn_ok (k := 11) F sc__law_fulfilled_told len_D2 (by decide) (t__law_fulfilled_told K) (fun cdv A outer s H E hr => ?_) (body__law_fulfilled_told T)
  exact (pss_cons (ps_set (i := 2) sc__law_fulfilled_told.nd rfl (Or.inl rfl) pe_non)
  (pss_cons (ps_set (i := 3) sc__law_fulfilled_told.nd rfl (Or.inl rfl) pe_str)
  (pss_cons (ps_try_many (tb := fun (W : WX) => (tAsg (tCallKS 2 (spF K (fs_fulfils K)) (WE W) (tCons (tVar 0) (tCons (tVar 1) tNil))) (gName 2))) (l := [(.ref (He.ga K "BadTable"), fun _ _ _ => (tAsg (tC (.str "table")) (gName 3))), (.ref (He.ga K "BadWish"), fun _ _ _ => (tAsg (tC (.str "wish")) (gName 3)))]) rfl rfl (takes_of rfl rfl rfl rfl) (fun W pn xe tk hpo => (pss_one (ps_set (i := 2) sc__law_fulfilled_told.nd rfl (Or.inl rfl) (pe_calKS (x := "fulfils") c_fulfils hr (by decide) tk rfl (pk_cons (pv 0) (pk_cons (pv 1) pk_nil)))))) (.cons (c := .ref (He.ga K "BadTable")) (ts := fun _ _ _ => (tAsg (tC (.str "table")) (gName 3))) ⟨rfl, by decide, Or.inl T.x_BadTable.gC⟩ (fun _ _ _ _ _ _ _ => (pss_one (ps_set (i := 3) sc__law_fulfilled_told.nd rfl (Or.inl rfl) pe_str))) (.cons (c := .ref (He.ga K "BadWish")) (ts := fun _ _ _ => (tAsg (tC (.str "wish")) (gName 3))) ⟨rfl, by decide, Or.inl T.x_BadWish.gC⟩ (fun _ _ _ _ _ _ _ => (pss_one (ps_set (i := 3) sc__law_fulfilled_told.nd rfl (Or.inl rfl) pe_str))) .nil)))
  (pss_one (ps_ret (pe_tup (pa_cons (pv 2) (pa_cons (pv 3) pa_nil))))))))
end
def t__law_is_right (K : PySem.W.Frag) (E : XK) : TS :=
  (tSeq (tIfS (tNot (tB (tCall (spF K (fs__law_is_table K)) [] E0 (tCons (tVar 0) tNil)))) (tRet (tAndV (tOp rIsNo (tVar 2) (tC .non)) (tOp (rEqD K) (tVar 3) (tC (.str "table"))))) tNext)
  (tSeq (tIfS (tNot (tB (tCall (spF K (fs__law_is_wish K)) [] E0 (tCons (tVar 1) (tCons (tCB (rLenB K) (tCons (tOp (rIx K) (tVar 0) (tC (.int 0))) tNil)) (tCons (tCB (rLenB K) (tCons (tVar 0) tNil)) tNil)))))) (tRet (tAndV (tOp rIsNo (tVar 2) (tC .non)) (tOp (rEqD K) (tVar 3) (tC (.str "wish"))))) tNext)
  (tSeq (tIfS (tTest (tOp (rNeD K) (tVar 3) (tC (.str "")))) (tRet (tC (.bl false))) tNext)
  (tSeq (tIfS (tB (tCall (spF K (fs__law_kept K)) [] E0 (tCons (tVar 0) (tCons (tVar 1) tNil)))) (tRet (tOp rIsB (tVar 2) (tC (.bl true)))) tNext)
  (tRet (tOp rIsB (tVar 2) (tC (.bl false))))))))
def fs__law_is_right (K : PySem.W.Frag) : FS := fsD4 fun x y z w P _ => BdT x ∧ P (.bool true) ∧ ((isTabD x = false ∧ z = .none ∧ w = .str "table") ∨ ∃ up ac T, isTabD x = true ∧ Tab x up ac T ∧
  ((isWishD y ac up = false ∧ z = .none ∧ w = .str "wish") ∨ ∃ W, isWishD y ac up = true ∧ Wsh y up ac W ∧ z = .bool (fulB up ac T W) ∧ w = .str ""))
theorem str_eqs {a b : Str} (h : PyData.strOk a = true) (h2 : PyData.strOk b = true) {c : Cn} {G : Gm} {P : D → Prop} (p : P (.bool (a == b))) : K2 c G (rEqD c.K) (.str a) (.str b) P := k2_eqS h h2 p
theorem body__law_is_right {K : PySem.W.Frag} {mg : Str → Option Value} (T : Txt K mg) (E : XK) : ∀ (as : List AV) (P : D → Prop) (PX : XD → Prop), fs__law_is_right K as P PX → SatS (cn K E PX) (t__law_is_right K E) (gin as 0) (den P) := bD4 fun x y z w P PX q => by
  obtain ⟨bd, p, q⟩ := q
  unfold t__law_is_right
  refine sat_seq (sat_if ?_)
  walk_at "de"
  refine ⟨bd, ?_⟩
  rcases q with ⟨h, rfl, rfl⟩ | ⟨up, ac, T, h, tb, q⟩
  · walk_at "de"
    refine tf_split (by rw [h]; rfl) ?_
    walk_at "dl"
    refine k2_eqS (by decide +kernel) (by decide +kernel) ?_
    exact p
  · obtain ⟨rs, h1, h2, h3⟩ := id tb.g
    obtain ⟨r0, xs, a1, a2, a3, _⟩ := h3 0 (by have := tb.u1; omega)
    walk_at "de"
    refine ft_split (by rw [h]; rfl) ?_
    refine sat_next ?_
    refine sat_seq (sat_if ?_)
    walk_at "de"
    refine ix_row (n := 0) h1 rfl a1 ?_
    walk_at "de"
    refine kc_lenR a2 ?_
    walk_at "de"
    refine kc_lenR h1 ?_
    walk_at "de"
    rw [a3, h2]
    rcases q with ⟨hw, rfl, rfl⟩ | ⟨W, hw, wb, rfl, rfl⟩
    · refine tf_split (by rw [hw]; rfl) ?_
      walk_at "dl"
      refine k2_eqS (by decide +kernel) (by decide +kernel) ?_
      exact p
    · refine ft_split (by rw [hw]; rfl) ?_
      refine sat_next ?_
      refine sat_seq (sat_if ?_)
      walk_at "de"
      refine k2_neS (by decide +kernel) (by decide +kernel) ?_
      walk_at "de"
      refine sat_next ?_
      refine sat_seq (sat_if ?_)
      walk_at "de"
      refine ⟨up, ac, T, W, tb, wb, ?_⟩
      walk_at "de"
      refine ⟨fun hf => ?_, fun hf => ?_⟩
      · rw [hf]
        walk_at "dl"
        exact p
      · rw [hf]
        walk_at "dl"
        exact p
section
variable {P : Program} {w : World} {K : PySem.W.Frag} {mg : Str → Option Value} {base : Heap}
theorem ok__law_is_right {fd : FuncData} (F : FnP K "_law_is_right" s__law_is_right fd) (T : Txt K mg) (c__law_is_table : Cal P w K mg base 4 "_law_is_table" ["thing"] (fs__law_is_table K)) (c__law_is_wish : Cal P w K mg base 1 "_law_is_wish" ["thing", "across", "up"] (fs__law_is_wish K)) (c__law_kept : Cal P w K mg base 6 "_law_kept" ["table", "wish"] (fs__law_kept K)) : FnOk P w K mg base (L2.CX P w) 7 (He.ga K "_law_is_right") fd ["table", "wish", "told", "word"] (spF K (fs__law_is_right K)) := by
  refine fn_ok (k := 6) F sc__law_is_right len_D4 (by decide) (t__law_is_right K) (fun cdv A outer s H E hr => ?_) (body__law_is_right T)
  exact (pss_cons (ps_if (pt_not (pt_val (pe_cal c__law_is_table hr (by decide) rfl (pa_cons (pv 0) pa_nil)))) (pss_one (ps_ret (pe_and (pe_cmpR op_isN (pv 2) pe_non (nomark _)) (pe_one (pe_cmpR (op_eqD hr.units) (pv 3) pe_str (nomark _)))))) pss_nil)
  (pss_cons (ps_if (pt_not (pt_val (pe_cal c__law_is_wish hr (by decide) rfl (pa_cons (pv 1) (pa_cons (pe_callB call_len (by rfl) T.n_len (by decide +kernel) (pa_cons (pe_ix ix_seq (pv 0) pe_int (fun _ _ => rfl)) pa_nil)) (pa_cons (pe_callB call_len (by rfl) T.n_len (by decide +kernel) (pa_cons (pv 0) pa_nil)) pa_nil)))))) (pss_one (ps_ret (pe_and (pe_cmpR op_isN (pv 2) pe_non (nomark _)) (pe_one (pe_cmpR (op_eqD hr.units) (pv 3) pe_str (nomark _)))))) pss_nil)
  (pss_cons (ps_if (pt_cmpR (op_neD hr.units) (pv 3) pe_str (nomark _)) (pss_one (ps_ret pe_bl)) pss_nil)
  (pss_cons (ps_if (pt_val (pe_cal c__law_kept hr (by decide) rfl (pa_cons (pv 0) (pa_cons (pv 1) pa_nil)))) (pss_one (ps_ret (pe_cmpR op_isBl (pv 2) pe_bl (nomark _)))) pss_nil)
  (pss_one (ps_ret (pe_cmpR op_isBl (pv 2) pe_bl (nomark _))))))))
end
end X85
end
section
namespace X85
open PySem L2 DL
local macro_rules | `(tactic| walk_at "bi") => `(tactic| first
  | assumption
  | exact Sz.nb (by assumption) (by decide) | exact Sz.db (by assumption) (by decide)
  | (unfold Bi; decide))
local macro_rules | `(tactic| walk_at "sz0") => `(tactic| first
  | assumption
  | exact Sz.one | exact Sz.zero
  | ((apply Sz.neg); (· walk_at "sz0"))
  | ((apply Sz.mul); (· walk_at "sz0"); (· walk_at "sz0"))
  | ((apply Sz.add); (· walk_at "sz0"); (· walk_at "sz0"))
  | ((apply Sz.sub); (· walk_at "sz0"); (· walk_at "sz0"))
  | ((apply Sz.div); (· walk_at "sz0"); (· walk_at "sz0"); (· assumption)))
local macro_rules | `(tactic| walk_at "sz") => `(tactic| first | assumption | ((apply Sz.mono); (· walk_at "sz0"); (· decide)))
local macro_rules | `(tactic| walk_at "e1") => `(tactic| first
  | with_reducible refine evt_of ?_ | with_reducible refine evt_B ?_ | with_reducible refine evt_and ?_ | with_reducible refine evt_or ?_ | with_reducible refine evt_not ?_ | with_reducible refine evt_yes ?_
  | ((with_reducible apply ev_var); · exact rfl)
  | with_reducible refine ev_int ?_ | with_reducible refine ev_str ?_ | with_reducible refine ev_bl ?_ | with_reducible refine ev_non ?_
  | refine ev_stI _ rfl (by decide) ?_ | refine ev_stL rfl ?_
  | refine ev_rowIx rfl rfl ?_ | refine ev_rowLen rfl rfl ?_ | refine ev_rowsLen rfl rfl ?_ | refine ev_tupOfHot rfl rfl ?_ | refine ev_dnew ?_
  | with_reducible refine ev_ofL (el_lst ?_)
  | refine ev_ixHot rfl rfl ?_ | refine ev_lenHot rfl rfl ?_
  | with_reducible refine ev_op ?_ | with_reducible refine ev_neg ?_ | with_reducible refine ev_and ?_ | with_reducible refine ev_or ?_ | with_reducible refine ev_not ?_ | with_reducible refine ev_if ?_ | with_reducible refine ev_chain ?_
  | with_reducible refine ev_tup ?_ | with_reducible refine ev_call ?_ | with_reducible refine ev_callS ?_ | with_reducible refine ev_callKS ?_
  | refine ev_isiT (ns := ["list", "tuple"]) (by decide) ?_
  | with_reducible refine ev_cb ?_
  | with_reducible refine ea_nil ?_ | refine ea_val (v := .ty _) ?_ | ((with_reducible apply ea_st); · exact rfl) | with_reducible refine ea_cons ?_
  | refine ev_int ?_
  | refine ix_fr0 ?_ | refine ix_fr1 ?_ | refine k2_ix (.inl rfl) rfl ?_ | refine k2_ix (.inr rfl) rfl ?_
  | refine k2_mul (bi_mulOk (n := 9000) (m := 9000) (by walk_at "bi") (by walk_at "bi") (by decide)) ?_
  | refine k2_add ?_
  | refine k2_eqI ?_ | refine k2_neI ?_ | refine k2_eqF ?_ | refine k2_eqF2 ?_ | refine k2_neB ?_ | refine k2_is ?_ | refine k2_isnot ?_ | refine k2_isB ?_
  | refine k2_IB ?_ | refine k2_II ?_
  | refine kc_abs ?_ | refine kc_intI ?_ | refine kc_isi rfl ?_ | refine kc_len rfl ?_ | refine kc_all ?_
  | refine tup_one ?_ | refine tup_zero ?_ | refine tup_m1 ?_ | refine tup_neg ?_ | refine tup_any rfl (Nat.le_of_ble_eq_true rfl) ?_
  | refine tt_split ?_ | refine ff_split ?_
  | refine bool_any ?_ | refine int_any ?_ | refine fr_any ?_ | refine ⟨_, _, rfl, ?_⟩
  | ((refine cD1 ?_); (try dsimp only)) | ((refine cD2 ?_); (try dsimp only)) | ((refine cD3 ?_); (try dsimp only)) | ((refine cD4 ?_); (try dsimp only)) | ((refine cS0 ?_); (try dsimp only)) | ((refine cS1 ?_); (try dsimp only)) | ((refine cS2 ?_); (try dsimp only)) | ((refine cS3 ?_); (try dsimp only))
  | refine sz_and (by walk_at "sz") ?_
  | refine take_and (by first | decide | omega) (by first | decide | omega) ?_
  | refine ne_and (by assumption) ?_
  | refine ev_c (rp_ONE (by assumption)) ?_ | refine ev_c (rp_ZERO (by assumption)) ?_
  | refine ⟨_, _, rfl, rfl, ?_⟩ | refine ⟨_, _, _, rfl, rfl, rfl, ?_⟩ | refine ⟨_, _, _, _, rfl, rfl, rfl, rfl, ?_⟩)
local macro_rules | `(tactic| walk_at "d1") => `(tactic| first
  | refine sat_retHot rfl rfl ?_ | refine sat_retR rfl rfl ?_
  | with_reducible refine sat_seq ?_ | with_reducible refine sat_if ?_ | with_reducible refine sat_ret ?_ | with_reducible refine sat_retN ?_ | with_reducible refine sat_next ?_ | with_reducible refine sat_par ?_
  | with_reducible refine sat_asgHot (el_lst (ea_nil ⟨_, rfl, Nat.le_of_ble_eq_true rfl, ?_⟩))
  | refine sat_setSt _ rfl (by decide) ?_
  | with_reducible refine sat_asg ?_ | with_reducible refine sat_asgG ?_ | with_reducible refine eg_tup4 ?_ | with_reducible refine eg_tup2 ?_ | with_reducible refine eg_name ?_
  | (with_reducible refine sat_drop (te := tCallS _ _ _) ?_)
  | walk_at "e1")
local macro_rules | `(tactic| walk_at "dl") => `(tactic| repeat (walk_at "d1"))
local macro_rules | `(tactic| walk_at "de") => `(tactic| repeat (walk_at "e1"))

/-! tables told by data are tables -/
theorem frD_fr {q : Rat} : frD (fr q) = some q := by
  unfold fr
  simp only [frD, fr2]
  have h1 : (1 : Int) ≤ q.den := by have := q.den_pos; omega
  have h2 : gcdI q.num q.den = 1 := by
    unfold gcdI
    have := q.reduced
    unfold Nat.Coprime at this
    show ((Nat.gcd q.num.natAbs (q.den : Int).natAbs : Nat) : Int) = 1
    rw [Int.natAbs_natCast, this]
    rfl
  rw [if_pos ⟨h1, h2⟩, divInt_nd]
theorem posF_fr {q : Rat} (h : 0 < q) : posF (fr q) = true := by rw [posF_some frD_fr]; simp [h]
theorem angD_pr {p : Rat × Rat} (h : OkP p) : angD (prP p) = true := by
  show (posF (fr p.1) && posF (fr p.2)) = true
  rw [posF_fr h.p1, posF_fr h.p2]; rfl
theorem tab_is {d : D} {up ac : Nat} {T : Nat → Nat → Rat × Rat} (t : Tab d up ac T) : isTabD d = true := by
  obtain ⟨rs, h1, h2, h3⟩ := t.g
  have u1 := t.u1
  have u4 := t.u4
  have a1 := t.a1
  have a4 := t.a4
  rw [tabD_eq h1, decide_eq_true (by omega : 1 ≤ rs.length), decide_eq_true (by omega : rs.length ≤ 4)]
  simp only [Bool.true_and]
  obtain ⟨r0, xs0, b1, b2, b3, _⟩ := h3 0 (by omega)
  have e0 : rs.getD 0 .none = r0 := by rw [List.getD_eq_getElem?_getD, b1]; rfl
  rw [List.all_eq_true]
  intro r hr
  obtain ⟨j, hj⟩ := List.mem_iff_getElem?.mp hr
  have hju : j < up := by rw [← h2]; exact (List.getElem?_eq_some_iff.mp hj).1
  obtain ⟨r', xs, c1, c2, c3, c4⟩ := h3 j hju
  rw [hj] at c1
  cases c1
  unfold rowOk rowT
  rw [e0, rowLen_of c2, rowLen_of b2, c2, c3, b3]
  dsimp only
  rw [c3, decide_eq_true a1, decide_eq_true a4]
  have : xs.all angD = true := by
    rw [List.all_eq_true]
    intro x hx
    obtain ⟨i, hi⟩ := List.mem_iff_getElem?.mp hx
    have hia : i < ac := by rw [← c3]; exact (List.getElem?_eq_some_iff.mp hi).1
    rw [c4 i hia] at hi
    cases hi
    exact angD_pr (t.ok j i hju hia)
  rw [this]
  simp
theorem posF_get {d : D} (h : posF d = true) : ∃ q, d = fr q ∧ 0 < q := by
  unfold posF at h
  cases e : frD d with
  | none => rw [e] at h; cases h
  | some q =>
    rw [e] at h
    exact ⟨q, frD_some e, of_decide_eq_true h⟩
theorem angD_get {d : D} (h : angD d = true) (b : BdS d) : ∃ p, d = prP p ∧ OkP p := by
  cases d with
  | tuple xs =>
    by_cases hl : xs.length = 2
    · obtain ⟨x, y, rfl⟩ := len2 hl
      have h' : (posF x && posF y) = true := h
      rw [Bool.and_eq_true] at h'
      obtain ⟨p, rfl, hp⟩ := posF_get h'.1
      obtain ⟨q, rfl, hq⟩ := posF_get h'.2
      obtain ⟨b1, b2⟩ := b _ _ rfl
      exact ⟨(p, q), rfl, b1 _ _ rfl, b2 _ _ rfl, hp, hq⟩
    · rw [angD_len hl] at h; cases h
  | _ => cases h
theorem tab_of {d : D} (h : isTabD d = true) (b : BdT d) : ∃ up ac T, Tab d up ac T := by
  cases hr : rowD d with
  | none => unfold isTabD at h; rw [hr] at h; cases h
  | some rs =>
    rw [tabD_eq hr] at h
    simp only [Bool.and_eq_true, decide_eq_true_eq, List.all_eq_true] at h
    obtain ⟨l1, l2, hall⟩ := h
    have rows : ∀ j, j < rs.length → ∃ r xs, rs[j]? = some r ∧ rowD r = some xs ∧ xs.length = rowLen (rs.getD 0 .none) ∧ 1 ≤ xs.length ∧ xs.length ≤ 4 ∧ ∀ (i : Nat) (x : D), xs[i]? = some x → ∃ p, x = prP p ∧ OkP p := by
      intro j hj
      have e := List.getElem?_eq_getElem hj
      have m := List.getElem_mem hj
      have ok := hall _ m
      unfold rowOk at ok
      rw [Bool.and_eq_true] at ok
      obtain ⟨xs, q1, q2, q3, q4⟩ := rowT_row ok.1
      have ql := of_decide_eq_true ok.2
      rw [rowLen_of q1] at ql
      refine ⟨_, xs, e, q1, ql, q2, q3, fun i x hx => ?_⟩
      have mx := List.mem_of_getElem? hx
      exact angD_get (List.all_eq_true.mp q4 x mx) (b rs hr _ m xs q1 x mx)
    obtain ⟨r0, xs0, c1, c2, c3, c4, c5, _⟩ := rows 0 l1
    let T : Nat → Nat → Rat × Rat := fun j i => if hj : j < rs.length then (if hi : i < rowLen (rs.getD 0 .none) then
      Classical.choose (Classical.choose_spec (Classical.choose_spec (rows j hj)) |>.2.2.2.2.2 i _ (List.getElem?_eq_getElem (by
        have := (Classical.choose_spec (Classical.choose_spec (rows j hj))).2.2.1
        omega))) else (1, 1)) else (1, 1)
    have spec : ∀ j (hj : j < rs.length), ∃ r xs, rs[j]? = some r ∧ rowD r = some xs ∧ xs.length = rowLen (rs.getD 0 .none) ∧ ∀ i, i < rowLen (rs.getD 0 .none) → xs[i]? = some (prP (T j i)) ∧ OkP (T j i) := by
      intro j hj
      have s := Classical.choose_spec (Classical.choose_spec (rows j hj))
      refine ⟨_, _, s.1, s.2.1, s.2.2.1, fun i hi => ?_⟩
      have hl : i < (Classical.choose (Classical.choose_spec (rows j hj))).length := by have := s.2.2.1; omega
      have e := List.getElem?_eq_getElem hl
      have c := Classical.choose_spec (s.2.2.2.2.2 i _ e)
      have et : T j i = Classical.choose (s.2.2.2.2.2 i _ e) := by
        show (if hj : j < rs.length then _ else _) = _
        rw [dif_pos hj, dif_pos hi]
      rw [et]
      exact ⟨e.trans (congrArg some c.1), c.2⟩
    refine ⟨rs.length, rowLen (rs.getD 0 .none), T, ⟨rs, hr, rfl, fun j hj => ?_⟩, l1, l2, by omega, by omega, fun j i hj hi => ?_⟩
    · obtain ⟨r, xs, p1, p2, p3, p4⟩ := spec j hj
      exact ⟨r, xs, p1, p2, p3, fun i hi => (p4 i hi).1⟩
    · obtain ⟨r, xs, p1, p2, p3, p4⟩ := spec j hj
      exact (p4 i hi).2
theorem is12_get {x : D} (h : is12 x = true) : ∃ i : Int, x = .int i ∧ (i = 1 ∨ i = 2) := by
  cases x with
  | int i =>
    rw [is12_eq, Bool.and_eq_true] at h
    have h1 := of_decide_eq_true h.1
    have h2 := of_decide_eq_true h.2
    exact ⟨i, rfl, by omega⟩
  | _ => cases h
theorem wsh_of {d : D} {ac up : Nat} (h : isWishD d ac up = true) : ∃ W, Wsh d up ac W := by
  unfold isWishD at h
  cases hr : rowD d with
  | none => rw [hr] at h; cases h
  | some rs =>
    rw [hr] at h
    simp only [Bool.and_eq_true, decide_eq_true_eq, List.all_eq_true] at h
    obtain ⟨l1, hall⟩ := h
    have l2 : rs.length = up := by omega
    let W : Nat → Nat → Int := fun j i => match rowD (rs.getD j .none) with
      | some xs => (match xs.getD i .none with
        | .int k => k
        | _ => 1)
      | none => 1
    have row : ∀ j, j < up → ∃ r xs, rs[j]? = some r ∧ rowD r = some xs ∧ xs.length = ac ∧ ∀ i, i < ac → xs[i]? = some (.int (W j i)) ∧ (W j i = 1 ∨ W j i = 2) := by
      intro j hj
      have hj' : j < rs.length := by omega
      have e := List.getElem?_eq_getElem hj'
      have ok := hall _ (List.getElem_mem hj')
      unfold wrow at ok
      cases hx : rowD rs[j] with
      | none => rw [hx] at ok; cases ok
      | some xs =>
        rw [hx] at ok
        simp only [Bool.and_eq_true, decide_eq_true_eq, List.all_eq_true] at ok
        have lx : xs.length = ac := by omega
        refine ⟨_, xs, e, hx, lx, fun i hi => ?_⟩
        have hi' : i < xs.length := by omega
        have ei := List.getElem?_eq_getElem hi'
        obtain ⟨k, hk, hk2⟩ := is12_get (ok.2 _ (List.getElem_mem hi'))
        have ew : W j i = k := by
          show (match rowD (rs.getD j .none) with | some xs => (match xs.getD i .none with | .int k => k | _ => 1) | none => 1) = k
          rw [List.getD_eq_getElem?_getD, e]
          show (match rowD rs[j] with | some xs => (match xs.getD i .none with | .int k => k | _ => 1) | none => 1) = k
          rw [hx]
          dsimp only
          rw [List.getD_eq_getElem?_getD, ei]
          show (match xs[i] with | .int k => k | _ => 1) = k
          rw [hk]
        rw [ew]
        exact ⟨ei.trans (congrArg some hk), hk2⟩
    refine ⟨W, ⟨rs, hr, l2, fun j hj => ?_⟩, fun j i hj hi => ?_⟩
    · obtain ⟨r, xs, p1, p2, p3, p4⟩ := row j hj
      exact ⟨r, xs, p1, p2, p3, fun i hi => (p4 i hi).1⟩
    · obtain ⟨r, xs, p1, p2, p3, p4⟩ := row j hj
      exact (p4 i hi).2
/-- a drawn table, as rows of either kind -/
def tOf (tl : List (List (Rat × Rat))) (j i : Nat) : Rat × Rat := (tl.getD j []).getD i (1, 1)
theorem tOf_at {tl : List (List (Rat × Rat))} {j i : Nat} {r : List (Rat × Rat)} {p : Rat × Rat} (h : tl[j]? = some r) (k : r[i]? = some p) : tOf tl j i = p := by
  have e : tl.getD j [] = r := by rw [List.getD_eq_getElem?_getD, h]; rfl
  unfold tOf
  rw [e, List.getD_eq_getElem?_getD, k]
  rfl
theorem tab_rows {up ac : Nat} {tl : List (List (Rat × Rat))} (g : GoodT up ac tl) (u1 : 1 ≤ up) (u4 : up ≤ 4) (a1 : 1 ≤ ac) (a4 : ac ≤ 4) {d : D} {rs : List D} (hr : rowD d = some rs)
    (hl : rs.length = up) (h : ∀ (j : Nat) (r : List (Rat × Rat)), tl[j]? = some r → ∃ x, rs[j]? = some x ∧ rowD x = some (r.map prP)) : Tab d up ac (tOf tl) := by
  refine ⟨⟨rs, hr, hl, fun j hj => ?_⟩, u1, u4, a1, a4, fun j i hj hi => ?_⟩
  · have hj' : j < tl.length := by rw [g.1]; exact hj
    have e := List.getElem?_eq_getElem hj'
    obtain ⟨x, hx, hx2⟩ := h j _ e
    obtain ⟨lr, _⟩ := g.2 _ (List.getElem_mem hj')
    refine ⟨x, _, hx, hx2, by rw [List.length_map, lr], fun i hi => ?_⟩
    have ei := List.getElem?_eq_getElem (show i < tl[j].length by omega)
    rw [List.getElem?_map, ei, tOf_at e ei]
    rfl
  · have hj' : j < tl.length := by rw [g.1]; exact hj
    have e := List.getElem?_eq_getElem hj'
    obtain ⟨lr, ok⟩ := g.2 _ (List.getElem_mem hj')
    have ei := List.getElem?_eq_getElem (show i < tl[j].length by omega)
    rw [tOf_at e ei]
    exact ok _ (List.mem_of_getElem? ei)
theorem tab_self {up ac : Nat} {tl : List (List (Rat × Rat))} (g : GoodT up ac tl) (u1 : 1 ≤ up) (u4 : up ≤ 4) (a1 : 1 ≤ ac) (a4 : ac ≤ 4) : Tab (tabL tl) up ac (tOf tl) :=
  tab_rows g u1 u4 a1 a4 (rs := tl.map fun r => .list (r.map prP)) rfl (by rw [List.length_map, g.1]) fun j r h => ⟨_, by rw [List.getElem?_map, h]; rfl, rfl⟩
theorem tab_either {up ac : Nat} {tl : List (List (Rat × Rat))} (g : GoodT up ac tl) (u1 : 1 ≤ up) (u4 : up ≤ 4) (a1 : 1 ≤ ac) (a4 : ac ≤ 4) {d : D} (hd : d = .list ((rowsOf tl).map .list) ∨ d = .tuple ((rowsOf tl).map .tuple)) : Tab d up ac (tOf tl) := by
  rcases hd with rfl | rfl
  · exact tab_rows g u1 u4 a1 a4 (rs := (rowsOf tl).map .list) rfl (by unfold rowsOf; rw [List.length_map, List.length_map, g.1]) fun j r h => ⟨_, by rw [List.getElem?_map, rowsOf_at h]; rfl, rfl⟩
  · exact tab_rows g u1 u4 a1 a4 (rs := (rowsOf tl).map .tuple) rfl (by unfold rowsOf; rw [List.length_map, List.length_map, g.1]) fun j r h => ⟨_, by rw [List.getElem?_map, rowsOf_at h]; rfl, rfl⟩
def wOf (ws : List (List Int)) (j i : Nat) : Int := (ws.getD j []).getD i 1
theorem wOf_at {ws : List (List Int)} {j i : Nat} {r : List Int} {p : Int} (h : ws[j]? = some r) (k : r[i]? = some p) : wOf ws j i = p := by
  have e : ws.getD j [] = r := by rw [List.getD_eq_getElem?_getD, h]; rfl
  unfold wOf
  rw [e, List.getD_eq_getElem?_getD, k]
  rfl
def GoodW (up ac : Nat) (ws : List (List Int)) : Prop := ws.length = up ∧ ∀ w ∈ ws, w.length = ac ∧ ∀ i ∈ w, i = 1 ∨ i = 2
theorem wsh_rows {up ac : Nat} {ws : List (List Int)} (g : GoodW up ac ws) {d : D} {rs : List D} (hr : rowD d = some rs) (hl : rs.length = up) (h : ∀ (j : Nat) (r : List Int), ws[j]? = some r → ∃ x, rs[j]? = some x ∧ rowD x = some (r.map .int)) :
    Wsh d up ac (wOf ws) := by
  refine ⟨⟨rs, hr, hl, fun j hj => ?_⟩, fun j i hj hi => ?_⟩
  · have hj' : j < ws.length := by rw [g.1]; exact hj
    have e := List.getElem?_eq_getElem hj'
    obtain ⟨x, hx, hx2⟩ := h j _ e
    obtain ⟨lr, _⟩ := g.2 _ (List.getElem_mem hj')
    refine ⟨x, _, hx, hx2, by rw [List.length_map, lr], fun i hi => ?_⟩
    have ei := List.getElem?_eq_getElem (show i < ws[j].length by omega)
    rw [List.getElem?_map, ei, wOf_at e ei]
    rfl
  · have hj' : j < ws.length := by rw [g.1]; exact hj
    have e := List.getElem?_eq_getElem hj'
    obtain ⟨lr, ok⟩ := g.2 _ (List.getElem_mem hj')
    have ei := List.getElem?_eq_getElem (show i < ws[j].length by omega)
    rw [wOf_at e ei]
    exact ok _ (List.mem_of_getElem? ei)
def wRows (ws : List (List Int)) : List (List D) := ws.map fun r => r.map .int
theorem wRows_at {ws : List (List Int)} {n : Nat} {r : List Int} (h : ws[n]? = some r) : (wRows ws)[n]? = some (r.map .int) := by unfold wRows; rw [List.getElem?_map, h]; rfl
theorem wsh_either {up ac : Nat} {ws : List (List Int)} (g : GoodW up ac ws) {d : D} (hd : d = .list ((wRows ws).map .list) ∨ d = .tuple ((wRows ws).map .tuple)) : Wsh d up ac (wOf ws) := by
  rcases hd with rfl | rfl
  · exact wsh_rows g (rs := (wRows ws).map .list) rfl (by unfold wRows; rw [List.length_map, List.length_map, g.1]) fun j r h => ⟨_, by rw [List.getElem?_map, wRows_at h]; rfl, rfl⟩
  · exact wsh_rows g (rs := (wRows ws).map .tuple) rfl (by unfold wRows; rw [List.length_map, List.length_map, g.1]) fun j r h => ⟨_, by rw [List.getElem?_map, wRows_at h]; rfl, rfl⟩
theorem wsh_self {up ac : Nat} {ws : List (List Int)} (g : GoodW up ac ws) : Wsh (wishL ws) up ac (wOf ws) :=
  wsh_rows g (rs := ws.map fun r => .list (r.map .int)) rfl (by rw [List.length_map, g.1]) fun j r h => ⟨_, by rw [List.getElem?_map, h]; rfl, rfl⟩
theorem wsh_is {d : D} {up ac : Nat} {W : Nat → Nat → Int} (w : Wsh d up ac W) : isWishD d ac up = true := by
  obtain ⟨rs, h1, h2, h3⟩ := w.g
  unfold isWishD
  rw [h1]
  dsimp only
  rw [decide_eq_true (by omega : (rs.length : Int) = up), Bool.true_and, List.all_eq_true]
  intro r hr
  obtain ⟨j, hj⟩ := List.mem_iff_getElem?.mp hr
  have hju : j < up := by rw [← h2]; exact (List.getElem?_eq_some_iff.mp hj).1
  obtain ⟨r', xs, c1, c2, c3, c4⟩ := h3 j hju
  rw [hj] at c1
  cases c1
  unfold wrow
  rw [c2]
  dsimp only
  rw [decide_eq_true (by omega : (xs.length : Int) = ac), Bool.true_and, List.all_eq_true]
  intro x hx
  obtain ⟨i, hi⟩ := List.mem_iff_getElem?.mp hx
  have hia : i < ac := by rw [← c3]; exact (List.getElem?_eq_some_iff.mp hi).1
  rw [c4 i hia] at hi
  cases hi
  rw [is12_eq]
  rcases w.ok j i hju hia with e | e <;> rw [e] <;> rfl
theorem bdT_tab {up ac : Nat} {tl : List (List (Rat × Rat))} (g : GoodT up ac tl) : BdT (tabL tl) := by
  have e : tabL tl = .list ((rowsOf tl).map .list) := by unfold tabL rowsOf; rw [List.map_map]; rfl
  rw [e]
  exact bdT_rows (rows_bd g)
mutual
theorem eqv_refl : ∀ d : D, d.canLay0 = true → PyData.eqv d d = true
  | .none, _ => by simp [PyData.eqv]
  | .bool _, _ => by simp [PyData.eqv]
  | .int _, _ => by simp [PyData.eqv]
  | .str _, _ => by simp [PyData.eqv]
  | .list xs, h => by simp only [PyData.eqv]; exact eqvAll_refl xs (by simpa [PyData.canLay0] using h)
  | .tuple xs, h => by simp only [PyData.eqv]; exact eqvAll_refl xs (by simpa [PyData.canLay0] using h)
  | .dict _, h => by simp [PyData.canLay0] at h
theorem eqvAll_refl : ∀ xs : List D, PyData.canLayAll0 xs = true → PyData.eqvAll xs xs = true
  | [], _ => by simp [PyData.eqvAll]
  | x :: xs, h => by
    simp [PyData.canLayAll0] at h
    simp only [PyData.eqvAll]
    rw [eqv_refl x h.1, eqvAll_refl xs h.2]
    rfl
end
theorem shp_ints (w : List Int) : PyData.canLayAll0 (w.map .int) = true ∧ PyData.depthAll (w.map .int) ≤ 1 := by
  induction w with
  | nil => simp [PyData.canLayAll0, PyData.depthAll]
  | cons i w ih => simp [PyData.canLayAll0, PyData.depthAll, PyData.canLay0, PyData.depth, ih]
theorem shp_wish (ws : List (List Int)) : SeqAt.shaped (wishL ws) = true := by
  have : PyData.canLayAll0 (ws.map fun r => PyData.list (r.map .int)) = true ∧ PyData.depthAll (ws.map fun r => PyData.list (r.map .int)) ≤ 3 := by
    induction ws with
    | nil => simp [PyData.canLayAll0, PyData.depthAll]
    | cons w ws ih =>
      have := shp_ints w
      simp [PyData.canLayAll0, PyData.depthAll, PyData.canLay0, PyData.depth, ih, this]
      omega
  unfold wishL SeqAt.shaped
  simp [PyData.canLay0, PyData.depth, this]
  omega
end X85
end
section
namespace X85
open PySem L2 DL
local macro_rules | `(tactic| walk_at "bi") => `(tactic| first
  | assumption
  | exact Sz.nb (by assumption) (by decide) | exact Sz.db (by assumption) (by decide)
  | (unfold Bi; decide))
local macro_rules | `(tactic| walk_at "sz0") => `(tactic| first
  | assumption
  | exact Sz.one | exact Sz.zero
  | ((apply Sz.neg); (· walk_at "sz0"))
  | ((apply Sz.mul); (· walk_at "sz0"); (· walk_at "sz0"))
  | ((apply Sz.add); (· walk_at "sz0"); (· walk_at "sz0"))
  | ((apply Sz.sub); (· walk_at "sz0"); (· walk_at "sz0"))
  | ((apply Sz.div); (· walk_at "sz0"); (· walk_at "sz0"); (· assumption)))
local macro_rules | `(tactic| walk_at "sz") => `(tactic| first | assumption | ((apply Sz.mono); (· walk_at "sz0"); (· decide)))
local macro_rules | `(tactic| walk_at "e1") => `(tactic| first
  | with_reducible refine evt_of ?_ | with_reducible refine evt_B ?_ | with_reducible refine evt_and ?_ | with_reducible refine evt_or ?_ | with_reducible refine evt_not ?_ | with_reducible refine evt_yes ?_
  | ((with_reducible apply ev_var); · exact rfl)
  | with_reducible refine ev_int ?_ | with_reducible refine ev_str ?_ | with_reducible refine ev_bl ?_ | with_reducible refine ev_non ?_
  | refine ev_stI _ rfl (by decide) ?_ | refine ev_stL rfl ?_
  | refine ev_rowIx rfl rfl ?_ | refine ev_rowLen rfl rfl ?_ | refine ev_rowsLen rfl rfl ?_ | refine ev_tupOfHot rfl rfl ?_ | refine ev_dnew ?_
  | with_reducible refine ev_ofL (el_lst ?_)
  | refine ev_ixHot rfl rfl ?_ | refine ev_lenHot rfl rfl ?_
  | with_reducible refine ev_op ?_ | with_reducible refine ev_neg ?_ | with_reducible refine ev_and ?_ | with_reducible refine ev_or ?_ | with_reducible refine ev_not ?_ | with_reducible refine ev_if ?_ | with_reducible refine ev_chain ?_
  | with_reducible refine ev_tup ?_ | with_reducible refine ev_call ?_ | with_reducible refine ev_callS ?_ | with_reducible refine ev_callKS ?_
  | refine ev_isiT (ns := ["list", "tuple"]) (by decide) ?_
  | with_reducible refine ev_cb ?_
  | with_reducible refine ea_nil ?_ | refine ea_val (v := .ty _) ?_ | ((with_reducible apply ea_st); · exact rfl) | with_reducible refine ea_cons ?_
  | refine ev_int ?_
  | refine ix_fr0 ?_ | refine ix_fr1 ?_ | refine k2_ix (.inl rfl) rfl ?_ | refine k2_ix (.inr rfl) rfl ?_
  | refine k2_mul (bi_mulOk (n := 9000) (m := 9000) (by walk_at "bi") (by walk_at "bi") (by decide)) ?_
  | refine k2_add ?_
  | refine k2_eqI ?_ | refine k2_neI ?_ | refine k2_eqF ?_ | refine k2_eqF2 ?_ | refine k2_neB ?_ | refine k2_is ?_ | refine k2_isnot ?_ | refine k2_isB ?_
  | refine k2_IB ?_ | refine k2_II ?_
  | refine kc_abs ?_ | refine kc_intI ?_ | refine kc_isi rfl ?_ | refine kc_len rfl ?_ | refine kc_all ?_
  | refine tup_one ?_ | refine tup_zero ?_ | refine tup_m1 ?_ | refine tup_neg ?_ | refine tup_any rfl (Nat.le_of_ble_eq_true rfl) ?_
  | refine tt_split ?_ | refine ff_split ?_
  | refine bool_any ?_ | refine int_any ?_ | refine fr_any ?_ | refine ⟨_, _, rfl, ?_⟩
  | ((refine cD1 ?_); (try dsimp only)) | ((refine cD2 ?_); (try dsimp only)) | ((refine cD3 ?_); (try dsimp only)) | ((refine cD4 ?_); (try dsimp only)) | ((refine cS0 ?_); (try dsimp only)) | ((refine cS1 ?_); (try dsimp only)) | ((refine cS2 ?_); (try dsimp only)) | ((refine cS3 ?_); (try dsimp only))
  | refine sz_and (by walk_at "sz") ?_
  | refine take_and (by first | decide | omega) (by first | decide | omega) ?_
  | refine ne_and (by assumption) ?_
  | refine ev_c (rp_ONE (by assumption)) ?_ | refine ev_c (rp_ZERO (by assumption)) ?_
  | refine ⟨_, _, rfl, rfl, ?_⟩ | refine ⟨_, _, _, rfl, rfl, rfl, ?_⟩ | refine ⟨_, _, _, _, rfl, rfl, rfl, rfl, ?_⟩)
local macro_rules | `(tactic| walk_at "d1") => `(tactic| first
  | refine sat_retHot rfl rfl ?_ | refine sat_retR rfl rfl ?_
  | with_reducible refine sat_seq ?_ | with_reducible refine sat_if ?_ | with_reducible refine sat_ret ?_ | with_reducible refine sat_retN ?_ | with_reducible refine sat_next ?_ | with_reducible refine sat_par ?_
  | with_reducible refine sat_asgHot (el_lst (ea_nil ⟨_, rfl, Nat.le_of_ble_eq_true rfl, ?_⟩))
  | refine sat_setSt _ rfl (by decide) ?_
  | with_reducible refine sat_asg ?_ | with_reducible refine sat_asgG ?_ | with_reducible refine eg_tup4 ?_ | with_reducible refine eg_tup2 ?_ | with_reducible refine eg_name ?_
  | (with_reducible refine sat_drop (te := tCallS _ _ _) ?_)
  | walk_at "e1")
local macro_rules | `(tactic| walk_at "dl") => `(tactic| repeat (walk_at "d1"))
local macro_rules | `(tactic| walk_at "de") => `(tactic| repeat (walk_at "e1"))

/-- a def by any promise -/
structure CalG (P : Program) (w : World) (K : PySem.W.Frag) (mg : Str → Option Value) (base : Heap) (k : Nat) (x : Str) (ps : List Str) (sp : Sp) : Prop where
  ex : ∃ fd, FnOk P w K mg base (L2.CX P w) k (He.ga K x) fd ps sp ∧ Binds K fd ps []
  gm : mg x = some (.ref (He.ga K x))
  kp : PySem.W.keepIn K (.ref (He.ga K x)) = true
theorem pe_calG {X : Cx} {k j : Nat} {x : Str} {ps : List Str} {sp : Sp} {p pos : Pos} {e : Expr} {es : List Expr} {t : TA} (c : CalG X.prog X.w X.K X.mg X.base k x ps sp) (hr : Room j X.A) (hk : k ≤ j) (hg : Gl X x) (ha : PA X (e :: es) t)
    (hdb : (x == ("__debug__" : Str)) = false := by decide) (he : starEach (e :: es) X.env = (false, eval e X.env) :: starEach es X.env := by rfl) (hpl : (backTo pos (starEach es X.env)).any (·.1) = false := by rfl) :
    PE X (.Call (.Name x p) (e :: es) [] pos) (tCall sp [] E0 t) := by
  obtain ⟨fd, F, b⟩ := c.ex
  exact pe_call F (hr.mono hk) hg c.gm c.kp b .nil passL ha hdb he hpl
theorem calG_mk {P : Program} {w : World} {K : PySem.W.Frag} {mg : Str → Option Value} {base : Heap} {k : Nat} {x : Str} {st : Stmt} {fd : FuncData} {ps : List Str} {sp : Sp} (F : FnP K x st fd)
    (G : FnOk P w K mg base (L2.CX P w) k (He.ga K x) fd ps sp) (gm : mg x = some (.ref (He.ga K x)))
    (h1 : ∀ (kV doc pm : Value) (an : Option Addr) (cdv ct : Value) (us : List Value), us.length = ps.length → bindArgs (PySem.W.fnOf x x (defArgs st) (defBody st) (defScope st) .none kV doc pm an cdv ct) ⟨us, []⟩ = pure (ps.zip us)) :
    CalG P w K mg base k x ps sp := ⟨⟨fd, G, F.bindsN h1⟩, gm, F.kp⟩
abbrev hp0 : Hp := fun _ => none
/-- a new stream -/
def spSt (K : PySem.W.Frag) : Sp := fun vs H Q _ => ∃ (a : Addr) (ns : List Int), vs = [.ref a] ∧ SqL K H a (ns.map V.int) ∧ ∀ s C' H', Grow [] hp0 H C' H' → Strm K C' H' s → H s = none → Q (.ref s) H'
theorem holds_entry {K : PySem.W.Frag} {H : Hp} {a : Addr} {n : Nat} : Holds K ⟨[], hp0, H⟩ ⟨.val (.ref a) :: List.replicate n .any, []⟩ ⟨[], []⟩ hp0 H (some (.ref a) :: List.replicate n none) := by
  refine ⟨Grow.refl (fun _ _ e => by cases e), by simp, fun i s e => ?_, by simp, by simp, rfl, fun k h f e => by simp at e, by simp, by simp⟩
  cases i with
  | zero => cases e; rfl
  | succ i =>
    simp only [List.getElem?_cons_succ] at e
    have := List.mem_of_getElem? e
    have := List.eq_of_mem_replicate this
    subst this
    trivial
def t__law_stream (K : PySem.W.Frag) (E : XK) : TS :=
  (tSeq (tAsg (tCB (rListOf K) (tCons (tVar 0) tNil)) (gName 1))
  (tSeq (tIfS (tTest (tOp (rEqD K) (tCB (rLenB K) (tCons (tVar 1) tNil)) (tC (.int 0)))) (tAsg (tLst (tCons (tC (.int 0)) tNil)) (gName 1)) tNext)
  (tRet (tLst (tCons (tVar 1) (tCons (tC (.int 0)) (tCons (tCall (spF K (fs__law_great K)) [] E0 (tCons (tVar 1) (tCons (tC (.int 0)) tNil))) (tCons (tC (.int 0)) tNil))))))))
theorem st_mid {K : PySem.W.Frag} (a : Addr) (ns : List Int) : SatS (cn K E0 fun _ => False) (tIfS (tTest (tOp (rEqD K) (tCB (rLenB K) (tCons (tVar 1) tNil)) (tC (.int 0)))) (tAsg (tLst (tCons (tC (.int 0)) tNil)) (gName 1)) tNext)
    ⟨[.val (.ref a), .d (.list (ns.map .int))], []⟩ { nx := fun G' => ∃ ns' : List Int, 0 < ns'.length ∧ G' = ⟨[.val (.ref a), .d (.list (ns'.map .int))], []⟩ } := by
  refine sat_if ?_
  walk_at "de"
  rw [List.length_map]
  refine ⟨fun h => ?_, fun h => ?_⟩
  · refine sat_asg (ev_ofL (el_lst ?_))
    walk_at "de"
    exact ⟨[0], by decide, rfl⟩
  · have := of_decide_eq_false h
    exact sat_next ⟨ns, by omega, rfl⟩
theorem body_stream {K : PySem.W.Frag} {H : Hp} {Q : VK} {E : XK} {vs : List V} (h : spSt K vs H Q E) : t__law_stream K E { nx := fun _ H' => Q .non H', rt := Q } (L2.start N__law_stream vs) H := by
  obtain ⟨a, ns, rfl, hS, hQ⟩ := h
  have I0 : Holds K ⟨[], hp0, H⟩ ⟨[.val (.ref a), .any], []⟩ ⟨[], []⟩ hp0 H [some (.ref a), none] := holds_entry (n := 1)
  refine ⟨.ref a, rfl, a, ns.map V.int, rfl, .inl hS, fun l hl => ?_⟩
  have I1 := (I0.cold (.lst (ns.map V.int)) hl).putD (x := .list (ns.map .int)) (v := .ref l) 1 (.lst upd_same (RpAll.of_ints ns))
  refine st_mid (K := K) a ns _ _ _ _ _ (fun x G g C H σ cls d hx => hx.elim) I1 _ ⟨?_, fun x v C H h => h.elim, fun _ _ _ _ _ h => h.elim, fun _ _ _ _ _ h => h.elim⟩
  rintro G' g' C' H' σ' ⟨ns', hn, rfl⟩ e I'
  have el : EvL (cn K E0 fun _ => False) (tLst (tCons (tVar 1) (tCons (tC (.int 0)) (tCons (tCall (spF K (fs__law_great K)) [] E0 (tCons (tVar 1) (tCons (tC (.int 0)) tNil))) (tCons (tC (.int 0)) tNil))))) ⟨[.val (.ref a), .d (.list (ns'.map .int))], []⟩
      fun xs => ∃ g : Int, xs = [.list (ns'.map .int), .int 0, .int g, .int 0] := by
    refine el_lst ?_
    walk_at "de"
    refine ⟨by decide, fun g => ?_⟩
    walk_at "de"
    exact ⟨g, rfl⟩
  refine el _ _ _ _ _ (fun x G g C H σ cls d hx => hx.elim) I' _ fun xs p vs C2 H2 hx I2 g2 off hp hc hv ra => ?_
  obtain ⟨g, rfl⟩ := hx
  refine hQ p C2 H2 I2.gr ?_ off.bh
  cases ra with
  | cons r0 ra =>
    cases ra with
    | cons r1 ra =>
      cases ra with
      | cons r2 ra =>
        cases ra with
        | cons r3 ra =>
          cases ra; cases r1; cases r2; cases r3
          cases r0 with
          | @lst c us ds hq hu =>
            have := RpAll.ints hu
            subst this
            exact ⟨hc, c, ns', 0, g, 0, hv, hq, hn, by decide⟩
section
variable {P : Program} {w : World} {K : PySem.W.Frag} {mg : Str → Option Value} {base : Heap}
theorem ok__law_stream {fd : FuncData} (F : FnP K "_law_stream" s__law_stream fd) (T : Txt K mg) (c__law_great : Cal P w K mg base 1 "_law_great" ["cells", "place"] (fs__law_great K)) : FnOk P w K mg base (L2.CX P w) 2 (He.ga K "_law_stream") fd ["script"] (spSt K) := by
  refine F.ok sc__law_stream (fun vs H Q E h => ?_) fun cdv A outer s H vs Q E hr h => ⟨t__law_stream K E, ?_, body_stream h⟩
  · obtain ⟨a, ns, rfl, _⟩ := h
    rfl
  exact (pss_cons (ps_set (i := 1) sc__law_stream.nd rfl (Or.inl rfl) (pe_callTy call_listOf (by rfl) T.n_list (by decide +kernel) (pa_cons (pv 0) pa_nil)))
  (pss_cons (ps_if (pt_cmpR (op_eqD hr.units) (pe_callB call_len (by rfl) T.n_len (by decide +kernel) (pa_cons (pv 1) pa_nil)) pe_int (nomark _)) (pss_one (ps_set (i := 1) sc__law_stream.nd rfl (Or.inl rfl) (pe_lst (pa_cons pe_int pa_nil)))) pss_nil)
  (pss_one (ps_ret (pe_lst (pa_cons (pv 1) (pa_cons pe_int (pa_cons (pe_cal c__law_great hr (by decide) rfl (pa_cons (pv 1) (pa_cons pe_int pa_nil))) (pa_cons pe_int pa_nil)))))))))
end
def t_law (K : PySem.W.Frag) (E : XK) : TS :=
  (tSeq (tAsg (tCall (spSt K) [] E0 (tCons (tVar 0) tNil)) (gName 1))
  (tSeq (tAsg (tOp (rEqD K) (tCall (spF K (fs__law_take K)) [] E0 (tCons (tVar 1) (tCons (tC (.int 3)) tNil))) (tC (.int 0))) (gName 2))
  (tSeq (tAsg (tCall (spF K (fs__law_table K)) [] E0 (tCons (tVar 1) (tCons (tC (.int 4)) tNil))) (gName 3))
  (tSeq (tIfS (tB (tVar 2)) (tAsg (tCall (spF K (fs__law_nudged K)) [] E0 (tCons (tVar 1) (tCons (tVar 3) tNil))) (gName 3)) tNext)
  (tSeq (tAsg (tCB (rLenB K) (tCons (tOp (rIx K) (tVar 3) (tC (.int 0))) tNil)) (gName 4))
  (tSeq (tAsg (tCB (rLenB K) (tCons (tVar 3) tNil)) (gName 5))
  (tSeq (tAsg (tCall (spF K (fs__law_fitting_told K)) [] E0 (tCons (tCall (spF K (fs__law_as_rows K)) [] E0 (tCons (tVar 1) (tCons (tVar 3) tNil))) tNil)) (gTup K 2 (gCons (gName 6) (gCons (gName 7) gNil))))
  (tSeq (tIfS (tOr (tB (tVar 7)) (tOr (tNot (tB (tCB (rIsi K) (tCons (tVar 6) (tCons (tC (.ty "bool")) tNil))))) (tTest (tOp (rNeD K) (tVar 6) (tCall (spF K (fs__law_all_closed K)) [] E0 (tCons (tVar 3) tNil)))))) (tRet (tC (.bl false))) tNext)
  (tSeq (tAsg (tCall (spF K (fs__law_wish K)) [] E0 (tCons (tVar 1) (tCons (tVar 4) (tCons (tVar 5) tNil)))) (gName 8))
  (tSeq (tFor (iRng1 (tCons (tC (.int 3)) tNil)) (gName 9) (tSeq (tAsg (tCall (spF K (fs__law_as_rows K)) [] E0 (tCons (tVar 1) (tCons (tVar 8) tNil))) (gName 10))
  (tSeq (tAsg (tCall (spF K (fs__law_fulfilled_told K)) [] E0 (tCons (tCall (spF K (fs__law_as_rows K)) [] E0 (tCons (tVar 1) (tCons (tVar 3) tNil))) (tCons (tVar 10) tNil))) (gTup K 2 (gCons (gName 6) (gCons (gName 11) gNil))))
  (tSeq (tIfS (tOr (tNot (tB (tCall (spF K (fs__law_is_right K)) [] E0 (tCons (tVar 3) (tCons (tVar 8) (tCons (tVar 6) (tCons (tVar 11) tNil))))))) (tTest (tOp (rNeD K) (tLc (iAny K (tVar 10)) (gName 12) tYes (tCB (rListOf K) (tCons (tVar 12) tNil)) [12]) (tVar 8)))) (tRet (tC (.bl false))) tNext)
  (tAsg (tCall (spF K (fs__law_wish K)) [] E0 (tCons (tVar 1) (tCons (tVar 4) (tCons (tVar 5) tNil)))) (gName 8))))))
  (tSeq (tAsg (tCall (spF K (fs__law_spoiled_table K)) [] E0 (tCons (tVar 1) (tCons (tVar 3) tNil))) (gName 13))
  (tSeq (tAsg (tCall (spF K (fs__law_spoiled_wish K)) [] E0 (tCons (tVar 1) (tCons (tVar 8) tNil))) (gName 14))
  (tSeq (tAsg (tCall (spF K (fs__law_fitting_told K)) [] E0 (tCons (tVar 13) tNil)) (gTup K 2 (gCons (gName 6) (gCons (gName 7) gNil))))
  (tSeq (tIfS (tB (tCall (spF K (fs__law_is_table K)) [] E0 (tCons (tVar 13) tNil))) (tIfS (tOr (tB (tVar 7)) (tOr (tNot (tB (tCB (rIsi K) (tCons (tVar 6) (tCons (tC (.ty "bool")) tNil))))) (tTest (tOp (rNeD K) (tVar 6) (tCall (spF K (fs__law_all_closed K)) [] E0 (tCons (tVar 13) tNil)))))) (tRet (tC (.bl false))) tNext) (tIfS (tOr (tNot (tB (tVar 7))) (tTest (tOp rIsntNo (tVar 6) (tC .non)))) (tRet (tC (.bl false))) tNext))
  (tSeq (tAsg (tCall (spF K (fs__law_fulfilled_told K)) [] E0 (tCons (tVar 13) (tCons (tVar 14) tNil))) (gTup K 2 (gCons (gName 6) (gCons (gName 11) gNil))))
  (tSeq (tIfS (tNot (tB (tCall (spF K (fs__law_is_right K)) [] E0 (tCons (tVar 13) (tCons (tVar 14) (tCons (tVar 6) (tCons (tVar 11) tNil))))))) (tRet (tC (.bl false))) tNext)
  (tSeq (tAsg (tCall (spF K (fs__law_fulfilled_told K)) [] E0 (tCons (tVar 3) (tCons (tVar 14) tNil))) (gTup K 2 (gCons (gName 6) (gCons (gName 11) gNil))))
  (tRet (tCall (spF K (fs__law_is_right K)) [] E0 (tCons (tVar 3) (tCons (tVar 14) (tCons (tVar 6) (tCons (tVar 11) tNil)))))))))))))))))))))))
def rest_law (K : PySem.W.Frag) : TS :=
  (tSeq (tAsg (tOp (rEqD K) (tCall (spF K (fs__law_take K)) [] E0 (tCons (tVar 1) (tCons (tC (.int 3)) tNil))) (tC (.int 0))) (gName 2))
  (tSeq (tAsg (tCall (spF K (fs__law_table K)) [] E0 (tCons (tVar 1) (tCons (tC (.int 4)) tNil))) (gName 3))
  (tSeq (tIfS (tB (tVar 2)) (tAsg (tCall (spF K (fs__law_nudged K)) [] E0 (tCons (tVar 1) (tCons (tVar 3) tNil))) (gName 3)) tNext)
  (tSeq (tAsg (tCB (rLenB K) (tCons (tOp (rIx K) (tVar 3) (tC (.int 0))) tNil)) (gName 4))
  (tSeq (tAsg (tCB (rLenB K) (tCons (tVar 3) tNil)) (gName 5))
  (tSeq (tAsg (tCall (spF K (fs__law_fitting_told K)) [] E0 (tCons (tCall (spF K (fs__law_as_rows K)) [] E0 (tCons (tVar 1) (tCons (tVar 3) tNil))) tNil)) (gTup K 2 (gCons (gName 6) (gCons (gName 7) gNil))))
  (tSeq (tIfS (tOr (tB (tVar 7)) (tOr (tNot (tB (tCB (rIsi K) (tCons (tVar 6) (tCons (tC (.ty "bool")) tNil))))) (tTest (tOp (rNeD K) (tVar 6) (tCall (spF K (fs__law_all_closed K)) [] E0 (tCons (tVar 3) tNil)))))) (tRet (tC (.bl false))) tNext)
  (tSeq (tAsg (tCall (spF K (fs__law_wish K)) [] E0 (tCons (tVar 1) (tCons (tVar 4) (tCons (tVar 5) tNil)))) (gName 8))
  (tSeq (tFor (iRng1 (tCons (tC (.int 3)) tNil)) (gName 9) (tSeq (tAsg (tCall (spF K (fs__law_as_rows K)) [] E0 (tCons (tVar 1) (tCons (tVar 8) tNil))) (gName 10))
  (tSeq (tAsg (tCall (spF K (fs__law_fulfilled_told K)) [] E0 (tCons (tCall (spF K (fs__law_as_rows K)) [] E0 (tCons (tVar 1) (tCons (tVar 3) tNil))) (tCons (tVar 10) tNil))) (gTup K 2 (gCons (gName 6) (gCons (gName 11) gNil))))
  (tSeq (tIfS (tOr (tNot (tB (tCall (spF K (fs__law_is_right K)) [] E0 (tCons (tVar 3) (tCons (tVar 8) (tCons (tVar 6) (tCons (tVar 11) tNil))))))) (tTest (tOp (rNeD K) (tLc (iAny K (tVar 10)) (gName 12) tYes (tCB (rListOf K) (tCons (tVar 12) tNil)) [12]) (tVar 8)))) (tRet (tC (.bl false))) tNext)
  (tAsg (tCall (spF K (fs__law_wish K)) [] E0 (tCons (tVar 1) (tCons (tVar 4) (tCons (tVar 5) tNil)))) (gName 8))))))
  (tSeq (tAsg (tCall (spF K (fs__law_spoiled_table K)) [] E0 (tCons (tVar 1) (tCons (tVar 3) tNil))) (gName 13))
  (tSeq (tAsg (tCall (spF K (fs__law_spoiled_wish K)) [] E0 (tCons (tVar 1) (tCons (tVar 8) tNil))) (gName 14))
  (tSeq (tAsg (tCall (spF K (fs__law_fitting_told K)) [] E0 (tCons (tVar 13) tNil)) (gTup K 2 (gCons (gName 6) (gCons (gName 7) gNil))))
  (tSeq (tIfS (tB (tCall (spF K (fs__law_is_table K)) [] E0 (tCons (tVar 13) tNil))) (tIfS (tOr (tB (tVar 7)) (tOr (tNot (tB (tCB (rIsi K) (tCons (tVar 6) (tCons (tC (.ty "bool")) tNil))))) (tTest (tOp (rNeD K) (tVar 6) (tCall (spF K (fs__law_all_closed K)) [] E0 (tCons (tVar 13) tNil)))))) (tRet (tC (.bl false))) tNext) (tIfS (tOr (tNot (tB (tVar 7))) (tTest (tOp rIsntNo (tVar 6) (tC .non)))) (tRet (tC (.bl false))) tNext))
  (tSeq (tAsg (tCall (spF K (fs__law_fulfilled_told K)) [] E0 (tCons (tVar 13) (tCons (tVar 14) tNil))) (gTup K 2 (gCons (gName 6) (gCons (gName 11) gNil))))
  (tSeq (tIfS (tNot (tB (tCall (spF K (fs__law_is_right K)) [] E0 (tCons (tVar 13) (tCons (tVar 14) (tCons (tVar 6) (tCons (tVar 11) tNil))))))) (tRet (tC (.bl false))) tNext)
  (tSeq (tAsg (tCall (spF K (fs__law_fulfilled_told K)) [] E0 (tCons (tVar 3) (tCons (tVar 14) tNil))) (gTup K 2 (gCons (gName 6) (gCons (gName 11) gNil))))
  (tRet (tCall (spF K (fs__law_is_right K)) [] E0 (tCons (tVar 3) (tCons (tVar 14) (tCons (tVar 6) (tCons (tVar 11) tNil))))))))))))))))))))))
theorem law_rest {K : PySem.W.Frag} {mg : Str → Option Value} (T : Txt K mg) (a : Addr) : SatS (cn K E0 fun _ => False) (rest_law K) ⟨[.val (.ref a), .st 0, .any, .any, .any, .any, .any, .any, .any, .any, .any, .any, .any, .any, .any], []⟩ (den fun d => d = .bool true) := by
  unfold rest_law
  refine sat_seq (sat_asg ?_)
  walk_at "de"
  intro nd _ _
  walk_at "de"
  refine sat_seq (sat_asg ?_)
  walk_at "de"
  refine ⟨rfl, fun up ac tl u1 u4 a1 a4 gl => ?_⟩
  refine sat_join (fun G' => ∃ tl, GoodT up ac tl ∧ G' = ⟨[.val (.ref a), .st 0, .d (.bool (decide (nd = 0))), .d (tabL tl), .any, .any, .any, .any, .any, .any, .any, .any, .any, .any, .any], []⟩) ?_ ?_
  · refine sat_if ?_
    walk_at "de"
    refine ⟨fun h => ?_, fun h => ?_⟩
    · refine sat_asg ?_
      walk_at "de"
      refine ⟨up, ac, tl, rfl, gl, u1, u4, a1, a4, fun tl g => ?_⟩
      exact ⟨tl, g, rfl⟩
    · exact sat_next ⟨tl, gl.t, rfl⟩
  rintro G' ⟨tl, g, rfl⟩
  clear gl
  have tb := tab_self g u1 u4 a1 a4
  have ltl := g.1
  have h0 : tl[0]? = some tl[0] := List.getElem?_eq_getElem (by omega)
  have l0 := (g.2 _ (List.mem_of_getElem? h0)).1
  have bdt := bdT_tab g
  have asr : ∀ {P : D → Prop} {PX : XD → Prop}, (∀ d, (d = .list ((rowsOf tl).map .list) ∨ d = .tuple ((rowsOf tl).map .tuple)) → P d) → ∃ (rs : List D) (xss : List (List D)), rowD (tabL tl) = some rs ∧ rs.length = xss.length ∧ rs.length ≤ 1000 ∧ (∀ (n : Nat) (r : D) (xs : List D), rs[n]? = some r → xss[n]? = some xs → rowD r = some xs) ∧ ∀ d, (d = .list (xss.map .list) ∨ d = .tuple (xss.map .tuple)) → P d := fun h =>
    ⟨_, rowsOf tl, rfl, by unfold rowsOf; simp, by rw [List.length_map]; omega, fun n r xs e1 e2 => by
      rw [List.getElem?_map] at e1
      obtain ⟨q, e3, rfl⟩ := Option.map_eq_some_iff.mp e1
      rw [rowsOf_at e3] at e2
      cases e2
      rfl, h⟩
  refine sat_seq (sat_asg ?_)
  walk_at "de"
  refine k2_ix (.inl rfl) (atI_int (n := 0) rfl (by rw [List.getElem?_map, h0]; rfl)) ?_
  walk_at "de"
  refine sat_seq (sat_asg ?_)
  walk_at "de"
  rw [List.length_map, List.length_map, l0, ltl]
  refine sat_seq (sat_asgG ?_)
  walk_at "de"
  refine asr (PX := fun _ => True) fun d hd => ?_
  walk_at "de"
  have td := tab_either g u1 u4 a1 a4 hd
  refine .inr ⟨up, ac, tOf tl, tab_is td, td, ?_⟩
  refine eg_tup2 ?_
  refine sat_seq (sat_if ?_)
  walk_at "de"
  refine ⟨up, ac, tOf tl, tb, ?_⟩
  walk_at "de"
  refine ft_split (by simp) (sat_next ?_)
  refine sat_seq (sat_asg ?_)
  walk_at "de"
  refine ⟨a4, u4, fun ws w1 w2 => ?_⟩
  have gw0 : GoodW up ac ws := ⟨w1, w2⟩
  clear w1 w2
  refine sat_seq (sat_for (ei_rng1 ?_))
  walk_at "de"
  refine ⟨_, rfl, by decide, by decide, ?_⟩
  refine ⟨fun _ G' => ∃ ws, GoodW up ac ws ∧ ∃ s6 s7 s9 s10 s11, G' = ⟨[.val (.ref a), .st 0, .d (.bool (decide (nd = 0))), .d (tabL tl), .d (.int ac), .d (.int up), s6, s7, .d (wishL ws), s9, s10, s11, .any, .any, .any], []⟩, ⟨ws, gw0, _, _, .any, .any, .any, rfl⟩, ?_, ?_⟩
  · rintro n z G' hz ⟨ws, gw, s6, s7, s9, s10, s11, rfl⟩
    refine eg_name (sat_seq (sat_asg ?_))
    walk_at "de"
    refine ⟨_, wRows ws, rfl, by unfold wRows; simp, by rw [List.length_map, gw.1]; omega, fun n r xs e1 e2 => ?_, fun hd2 hw => ?_⟩
    · rw [List.getElem?_map] at e1
      obtain ⟨q, e3, rfl⟩ := Option.map_eq_some_iff.mp e1
      rw [wRows_at e3] at e2
      cases e2
      rfl
    refine sat_seq (sat_asgG ?_)
    walk_at "de"
    refine asr (PX := fun _ => True) fun d hd => ?_
    walk_at "de"
    have td := tab_either g u1 u4 a1 a4 hd
    have wd := wsh_either gw hw
    have ws' := wsh_self gw
    refine .inr ⟨up, ac, tOf tl, tab_is td, td, .inr ⟨wOf ws, wsh_is wd, wd, ?_⟩⟩
    refine eg_tup2 ?_
    refine sat_seq (sat_if ?_)
    walk_at "de"
    refine ⟨bdt, ?_, .inr ⟨up, ac, tOf tl, tab_is tb, tb, .inr ⟨wOf ws, wsh_is ws', ws', rfl, rfl⟩⟩⟩
    walk_at "de"
    have hrow : ∃ hrs, rowD hd2 = some hrs ∧ hrs.length = ws.length ∧ ∀ (n : Nat) (x : D) (w : List Int), hrs[n]? = some x → ws[n]? = some w → rowD x = some (w.map .int) := by
      rcases hw with rfl | rfl
      · exact ⟨_, rfl, by unfold wRows; simp, fun n x w e1 e2 => by
          rw [List.getElem?_map, wRows_at e2] at e1
          cases e1; rfl⟩
      · exact ⟨_, rfl, by unfold wRows; simp, fun n x w e1 e2 => by
          rw [List.getElem?_map, wRows_at e2] at e1
          cases e1; rfl⟩
    obtain ⟨hrs, hr1, hr2, hr3⟩ := hrow
    refine ev_ofL (el_comp (ei_any (ev_var rfl ⟨hrs, rowD_seq hr1, compI_map (ys := ws.map fun r => .list (r.map .int)) (by rw [List.length_map, hr2]) (by rw [hr2, gw.1]; omega) (fun n x y hx hy => egw_name (by simp) ?_) ?_⟩)))
    · rw [List.getElem?_map] at hy
      obtain ⟨w, e, rfl⟩ := Option.map_eq_some_iff.mp hy
      exact ev_ofL (el_listOf (ev_var rfl ⟨_, rowD_or (hr3 n x w hx e), rfl⟩))
    walk_at "de"
    refine k2_ne (shp_wish ws) (shp_wish ws) ?_
    have ew : PyData.eqv (.list (ws.map fun r => .list (r.map .int))) (wishL ws) = true := eqv_refl _ (SeqAt.canLay_of_shaped (shp_wish ws))
    rw [ew]
    walk_at "de"
    refine sat_next ?_
    refine sat_asg ?_
    walk_at "de"
    refine ⟨a4, u4, fun ws w1 w2 => ?_⟩
    exact ⟨ws, ⟨w1, w2⟩, .d (.bool (fulB up ac (tOf tl) _)), s7, .d z, .d hd2, .d (.str ""), rfl⟩
  · rintro G' ⟨ws, gw, s6, s7, s9, s10, s11, rfl⟩
    have tbi := tab_is tb
    refine sat_seq (sat_asg ?_)
    walk_at "de"
    refine ⟨up, ac, tl, rfl, g, u1, u4, a1, a4, fun strange bs => ?_⟩
    refine sat_seq (sat_asg ?_)
    walk_at "de"
    refine ⟨up, ac, ws, rfl, gw.1, fun w hw => (gw.2 w hw).1, u1, u4, a1, a4, fun odd => ?_⟩
    refine sat_seq (sat_asgG ?_)
    walk_at "de"
    have lastly : ∀ s6 s7 s11, SatS (cn K E0 fun _ => False) (tSeq (tAsg (tCall (spF K (fs__law_fulfilled_told K)) [] E0 (tCons (tVar 3) (tCons (tVar 14) tNil))) (gTup K 2 (gCons (gName 6) (gCons (gName 11) gNil))))
        (tRet (tCall (spF K (fs__law_is_right K)) [] E0 (tCons (tVar 3) (tCons (tVar 14) (tCons (tVar 6) (tCons (tVar 11) tNil)))))))
        ⟨[.val (.ref a), .st 0, .d (.bool (decide (nd = 0))), .d (tabL tl), .d (.int ac), .d (.int up), s6, s7, .d (wishL ws), s9, s10, s11, .any, .d strange, .d odd], []⟩ (den fun d => d = .bool true) := by
      intro s6 s7 s11
      refine sat_seq (sat_asgG ?_)
      walk_at "de"
      cases hw : isWishD odd ac up with
      | false =>
        refine .inr ⟨up, ac, tOf tl, tbi, tb, .inl ⟨hw, ?_⟩⟩
        refine eg_tup2 (sat_ret ?_)
        walk_at "de"
        exact ⟨bdt, rfl, .inr ⟨up, ac, tOf tl, tbi, tb, .inl ⟨hw, rfl, rfl⟩⟩⟩
      | true =>
        obtain ⟨W, wo⟩ := wsh_of hw
        refine .inr ⟨up, ac, tOf tl, tbi, tb, .inr ⟨W, hw, wo, ?_⟩⟩
        refine eg_tup2 (sat_ret ?_)
        walk_at "de"
        exact ⟨bdt, rfl, .inr ⟨up, ac, tOf tl, tbi, tb, .inr ⟨W, hw, wo, rfl, rfl⟩⟩⟩
    cases hs : isTabD strange with
    | false =>
      refine .inl ⟨rfl, ?_⟩
      refine eg_tup2 ?_
      refine sat_seq (sat_if ?_)
      walk_at "de"
      refine ⟨bs, ?_⟩
      walk_at "de"
      refine ft_split hs ?_
      refine sat_if ?_
      walk_at "de"
      refine sat_next ?_
      refine sat_seq (sat_asgG ?_)
      walk_at "de"
      refine .inl ⟨hs, ?_⟩
      refine eg_tup2 ?_
      refine sat_seq (sat_if ?_)
      walk_at "de"
      refine ⟨bs, ?_, .inl ⟨hs, rfl, rfl⟩⟩
      walk_at "de"
      refine sat_next ?_
      exact lastly _ _ _
    | true =>
      obtain ⟨up2, ac2, T2, tb2⟩ := tab_of hs bs
      refine .inr ⟨up2, ac2, T2, rfl, tb2, ?_⟩
      refine eg_tup2 ?_
      refine sat_seq (sat_if ?_)
      walk_at "de"
      refine ⟨bs, ?_⟩
      walk_at "de"
      refine tf_split hs ?_
      refine sat_if ?_
      walk_at "de"
      refine ⟨up2, ac2, T2, tb2, ?_⟩
      walk_at "de"
      refine ft_split (by simp) (sat_next ?_)
      refine sat_seq (sat_asgG ?_)
      walk_at "de"
      cases hw : isWishD odd ac2 up2 with
      | false =>
        refine .inr ⟨up2, ac2, T2, hs, tb2, .inl ⟨hw, ?_⟩⟩
        refine eg_tup2 ?_
        refine sat_seq (sat_if ?_)
        walk_at "de"
        refine ⟨bs, ?_, .inr ⟨up2, ac2, T2, hs, tb2, .inl ⟨hw, rfl, rfl⟩⟩⟩
        walk_at "de"
        refine sat_next ?_
        exact lastly _ _ _
      | true =>
        obtain ⟨W, wo⟩ := wsh_of hw
        refine .inr ⟨up2, ac2, T2, hs, tb2, .inr ⟨W, hw, wo, ?_⟩⟩
        refine eg_tup2 ?_
        refine sat_seq (sat_if ?_)
        walk_at "de"
        refine ⟨bs, ?_, .inr ⟨up2, ac2, T2, hs, tb2, .inr ⟨W, hw, wo, rfl, rfl⟩⟩⟩
        walk_at "de"
        refine sat_next ?_
        exact lastly _ _ _
def spLaw (K : PySem.W.Frag) : Sp := fun vs H Q _ => ∃ (a : Addr) (ns : List Int), vs = [.ref a] ∧ SqL K H a (ns.map V.int) ∧ ∀ H', Q (.bl true) H'
theorem body_law {K : PySem.W.Frag} {mg : Str → Option Value} (T : Txt K mg) {H : Hp} {Q : VK} {E : XK} {vs : List V} (h : spLaw K vs H Q E) : t_law K E { nx := fun _ H' => Q .non H', rt := Q } (L2.start N_law vs) H := by
  obtain ⟨a, ns, rfl, hS, hQ⟩ := h
  have I0 : Holds K ⟨[], hp0, H⟩ ⟨.val (.ref a) :: List.replicate 14 .any, []⟩ ⟨[], []⟩ hp0 H (some (.ref a) :: List.replicate 14 none) := holds_entry (n := 14)
  refine ⟨.ref a, rfl, ?_⟩
  refine ⟨a, ns, rfl, hS, fun s C' H' gr st hs => ?_⟩
  have I1 : Holds K ⟨[], hp0, H⟩ ⟨[.val (.ref a), .st 0, .any, .any, .any, .any, .any, .any, .any, .any, .any, .any, .any, .any, .any], []⟩ ⟨[s], []⟩ C' H' (some (.ref a) :: some (.ref s) :: List.replicate 13 none) := by
    refine ⟨gr, rfl, fun i v e => ?_, fun x hx => ?_, by simp, rfl, fun k h f e => by simp at e, by simp, by simp⟩
    · match i with
      | 0 => cases e; rfl
      | 1 => cases e; exact ⟨s, rfl, rfl⟩
      | i + 2 =>
        have e' : (List.replicate 13 SV.any)[i]? = some v := e
        have := List.eq_of_mem_replicate (List.mem_of_getElem? e')
        subst this
        trivial
    · have : x = s := by simpa using hx
      subst this
      exact ⟨st, .inr hs⟩
  refine law_rest T a _ _ _ _ _ (fun x G g C H σ cls d hx => hx.elim) I1 _ ⟨?_, ?_, fun _ _ _ _ _ h => h.elim, fun _ _ _ _ _ h => h.elim⟩
  · intro G g C H σ h
    cases h
  · rintro x v C H rfl fin r
    cases r
    exact hQ H
section
variable {P : Program} {w : World} {K : PySem.W.Frag} {mg : Str → Option Value} {base : Heap}
theorem ok_law {fd : FuncData} (F : FnP K "law" s_law fd) (T : Txt K mg) (c__law_stream : CalG P w K mg base 2 "_law_stream" ["script"] (spSt K)) (c__law_all_closed : Cal P w K mg base 5 "_law_all_closed" ["table"] (fs__law_all_closed K)) (c__law_as_rows : Cal P w K mg base 3 "_law_as_rows" ["stream", "table"] (fs__law_as_rows K)) (c__law_fitting_told : Cal P w K mg base 8 "_law_fitting_told" ["table"] (fs__law_fitting_told K)) (c__law_fulfilled_told : Cal P w K mg base 12 "_law_fulfilled_told" ["table", "wish"] (fs__law_fulfilled_told K)) (c__law_is_right : Cal P w K mg base 7 "_law_is_right" ["table", "wish", "told", "word"] (fs__law_is_right K)) (c__law_is_table : Cal P w K mg base 4 "_law_is_table" ["thing"] (fs__law_is_table K)) (c__law_nudged : Cal P w K mg base 4 "_law_nudged" ["stream", "table"] (fs__law_nudged K)) (c__law_spoiled_table : Cal P w K mg base 3 "_law_spoiled_table" ["stream", "table"] (fs__law_spoiled_table K)) (c__law_spoiled_wish : Cal P w K mg base 3 "_law_spoiled_wish" ["stream", "wish"] (fs__law_spoiled_wish K)) (c__law_table : Cal P w K mg base 6 "_law_table" ["stream", "most"] (fs__law_table K)) (c__law_take : Cal P w K mg base 2 "_law_take" ["stream", "many"] (fs__law_take K)) (c__law_wish : Cal P w K mg base 3 "_law_wish" ["stream", "across", "up"] (fs__law_wish K)) : FnOk P w K mg base (L2.CX P w) 13 (He.ga K "law") fd ["script"] (spLaw K) := by
  refine F.ok sc_law (fun vs H Q E h => ?_) fun cdv A outer s H vs Q E hr h => ⟨t_law K E, ?_, body_law T h⟩
  · obtain ⟨a, ns, rfl, _⟩ := h
    rfl
  exact (pss_cons (ps_set (i := 1) sc_law.nd rfl (Or.inl rfl) (pe_calG c__law_stream hr (by decide) rfl (pa_cons (pv 0) pa_nil)))
  (pss_cons (ps_set (i := 2) sc_law.nd rfl (Or.inl rfl) (pe_cmpR (op_eqD hr.units) (pe_cal c__law_take hr (by decide) rfl (pa_cons (pv 1) (pa_cons pe_int pa_nil))) pe_int (nomark _)))
  (pss_cons (ps_set (i := 3) sc_law.nd rfl (Or.inl rfl) (pe_cal c__law_table hr (by decide) rfl (pa_cons (pv 1) (pa_cons pe_int pa_nil))))
  (pss_cons (ps_if (pt_val (pv 2)) (pss_one (ps_set (i := 3) sc_law.nd rfl (Or.inl rfl) (pe_cal c__law_nudged hr (by decide) rfl (pa_cons (pv 1) (pa_cons (pv 3) pa_nil))))) pss_nil)
  (pss_cons (ps_set (i := 4) sc_law.nd rfl (Or.inl rfl) (pe_callB call_len (by rfl) T.n_len (by decide +kernel) (pa_cons (pe_ix ix_seq (pv 3) pe_int (fun _ _ => rfl)) pa_nil)))
  (pss_cons (ps_set (i := 5) sc_law.nd rfl (Or.inl rfl) (pe_callB call_len (by rfl) T.n_len (by decide +kernel) (pa_cons (pv 3) pa_nil)))
  (pss_cons (ps_asg (pe_cal c__law_fitting_told hr (by decide) rfl (pa_cons (pe_cal c__law_as_rows hr (by decide) rfl (pa_cons (pv 1) (pa_cons (pv 3) pa_nil))) pa_nil)) (pg_tup (by rfl) (pgs_cons (pg_name (i := 6) sc_law.nd rfl (Or.inl rfl)) (pgs_cons (pg_name (i := 7) sc_law.nd rfl (Or.inl rfl)) pgs_nil))))
  (pss_cons (ps_if (PW.pt (pw_or (pt_val (pv 7)) (pw_or (pt_not (pt_val (pe_callB call_isi (by rfl) T.n_isinstance (by decide +kernel) (pa_cons (pv 6) (pa_cons (pe_bltn (v := .ty "bool") (u := .type "bool") rfl T.n_bool (by decide +kernel) rfl) pa_nil))))) (pw_or1 (pt_cmpR (op_neD hr.units) (pv 6) (pe_cal c__law_all_closed hr (by decide) rfl (pa_cons (pv 3) pa_nil)) (nomark _)))))) (pss_one (ps_ret pe_bl)) pss_nil)
  (pss_cons (ps_set (i := 8) sc_law.nd rfl (Or.inl rfl) (pe_cal c__law_wish hr (by decide) rfl (pa_cons (pv 1) (pa_cons (pv 4) (pa_cons (pv 5) pa_nil)))))
  (pss_cons (ps_for (passes_of rfl) rfl (pi_range1 (by rfl) T.n_range (pa_cons pe_int pa_nil)) (pg_name (i := 9) sc_law.nd rfl (Or.inl rfl)) (pss_cons (ps_set (i := 10) sc_law.nd rfl (Or.inl rfl) (pe_cal c__law_as_rows hr (by decide) rfl (pa_cons (pv 1) (pa_cons (pv 8) pa_nil))))
  (pss_cons (ps_asg (pe_cal c__law_fulfilled_told hr (by decide) rfl (pa_cons (pe_cal c__law_as_rows hr (by decide) rfl (pa_cons (pv 1) (pa_cons (pv 3) pa_nil))) (pa_cons (pv 10) pa_nil))) (pg_tup (by rfl) (pgs_cons (pg_name (i := 6) sc_law.nd rfl (Or.inl rfl)) (pgs_cons (pg_name (i := 11) sc_law.nd rfl (Or.inl rfl)) pgs_nil))))
  (pss_cons (ps_if (PW.pt (pw_or (pt_not (pt_val (pe_cal c__law_is_right hr (by decide) rfl (pa_cons (pv 3) (pa_cons (pv 8) (pa_cons (pv 6) (pa_cons (pv 11) pa_nil))))))) (pw_or1 (pt_cmpR (op_neD hr.units) (pe_lc (own := [("row", 12)]) (g := (gName 12)) (tt := tYes) rfl sc_law.nd (pi_any (pv 10)) (blkOk_by (own := [("row", 12)]) (N := N_law) (sc := defScope s_law) (by decide +kernel)) (fun _ _ _ _ _ => (pg_name (i := 12) sc_law.nd rfl (by first | exact Or.inl rfl | exact Or.inr rfl))) (fun _ _ _ _ _ => pts_nil) (fun _ _ _ _ _ => (pe_callTy call_listOf (by rfl) T.n_list (by decide +kernel) (pa_cons (pv 12) pa_nil)))) (pv 8) (nomark _))))) (pss_one (ps_ret pe_bl)) pss_nil)
  (pss_one (ps_set (i := 8) sc_law.nd rfl (Or.inl rfl) (pe_cal c__law_wish hr (by decide) rfl (pa_cons (pv 1) (pa_cons (pv 4) (pa_cons (pv 5) pa_nil))))))))))
  (pss_cons (ps_set (i := 13) sc_law.nd rfl (Or.inl rfl) (pe_cal c__law_spoiled_table hr (by decide) rfl (pa_cons (pv 1) (pa_cons (pv 3) pa_nil))))
  (pss_cons (ps_set (i := 14) sc_law.nd rfl (Or.inl rfl) (pe_cal c__law_spoiled_wish hr (by decide) rfl (pa_cons (pv 1) (pa_cons (pv 8) pa_nil))))
  (pss_cons (ps_asg (pe_cal c__law_fitting_told hr (by decide) rfl (pa_cons (pv 13) pa_nil)) (pg_tup (by rfl) (pgs_cons (pg_name (i := 6) sc_law.nd rfl (Or.inl rfl)) (pgs_cons (pg_name (i := 7) sc_law.nd rfl (Or.inl rfl)) pgs_nil))))
  (pss_cons (ps_if (pt_val (pe_cal c__law_is_table hr (by decide) rfl (pa_cons (pv 13) pa_nil))) (pss_one (ps_if (PW.pt (pw_or (pt_val (pv 7)) (pw_or (pt_not (pt_val (pe_callB call_isi (by rfl) T.n_isinstance (by decide +kernel) (pa_cons (pv 6) (pa_cons (pe_bltn (v := .ty "bool") (u := .type "bool") rfl T.n_bool (by decide +kernel) rfl) pa_nil))))) (pw_or1 (pt_cmpR (op_neD hr.units) (pv 6) (pe_cal c__law_all_closed hr (by decide) rfl (pa_cons (pv 13) pa_nil)) (nomark _)))))) (pss_one (ps_ret pe_bl)) pss_nil)) (pss_one (ps_if (PW.pt (pw_or (pt_not (pt_val (pv 7))) (pw_or1 (pt_cmpR op_notN (pv 6) pe_non (nomark _))))) (pss_one (ps_ret pe_bl)) pss_nil)))
  (pss_cons (ps_asg (pe_cal c__law_fulfilled_told hr (by decide) rfl (pa_cons (pv 13) (pa_cons (pv 14) pa_nil))) (pg_tup (by rfl) (pgs_cons (pg_name (i := 6) sc_law.nd rfl (Or.inl rfl)) (pgs_cons (pg_name (i := 11) sc_law.nd rfl (Or.inl rfl)) pgs_nil))))
  (pss_cons (ps_if (pt_not (pt_val (pe_cal c__law_is_right hr (by decide) rfl (pa_cons (pv 13) (pa_cons (pv 14) (pa_cons (pv 6) (pa_cons (pv 11) pa_nil))))))) (pss_one (ps_ret pe_bl)) pss_nil)
  (pss_cons (ps_asg (pe_cal c__law_fulfilled_told hr (by decide) rfl (pa_cons (pv 3) (pa_cons (pv 14) pa_nil))) (pg_tup (by rfl) (pgs_cons (pg_name (i := 6) sc_law.nd rfl (Or.inl rfl)) (pgs_cons (pg_name (i := 11) sc_law.nd rfl (Or.inl rfl)) pgs_nil))))
  (pss_one (ps_ret (pe_cal c__law_is_right hr (by decide) rfl (pa_cons (pv 3) (pa_cons (pv 14) (pa_cons (pv 6) (pa_cons (pv 11) pa_nil))))))))))))))))))))))))
end
end X85
end
section
namespace X85
open PySem PySem.Spec PyProof.Rows L2 DL
def factTxt {w : World} {K : PySem.W.Frag} {h : Heap} {mg : Str → Option Value} (X : K.In h) (G : h.Ns mainGlobals mg) (c : He.SaysX faL fnL [] [] exL w h K) : Txt K mg := by
  have m := c.more
  unfold exL at m
  obtain ⟨m1, m2⟩ := He.ba m
  obtain ⟨m3, m4⟩ := He.ba m2
  have ik : ∀ {x : Str} {i : Int}, (∃ t, mg x = some (.int i t)) → ∃ u, mg x = some u ∧ RelV (.int i) u := fun ⟨t, h⟩ => ⟨_, h, ⟨t, rfl⟩⟩
  exact { n_abs := He.free_ok X G (c.t.d.fact 76 (f := .free "abs") rfl),
          n_all := He.free_ok X G (c.t.d.fact 77 (f := .free "all") rfl),
          n_bool := He.free_ok X G (c.t.d.fact 78 (f := .free "bool") rfl),
          n_int := He.free_ok X G (c.t.d.fact 79 (f := .free "int") rfl),
          n_isinstance := He.free_ok X G (c.t.d.fact 80 (f := .free "isinstance") rfl),
          n_len := He.free_ok X G (c.t.d.fact 81 (f := .free "len") rfl),
          n_list := He.free_ok X G (c.t.d.fact 82 (f := .free "list") rfl),
          n_range := He.free_ok X G (c.t.d.fact 83 (f := .free "range") rfl),
          n_tuple := He.free_ok X G (c.t.d.fact 84 (f := .free "tuple") rfl),
          n_zip := He.free_ok X G (c.t.d.fact 85 (f := .free "zip") rfl),
          k_EAST := ik (He.int_ok X G (c.t.d.fact 86 (f := .int "EAST" 0) rfl)),
          k_NORTH := ik (He.int_ok X G (c.t.d.fact 87 (f := .int "NORTH" 1) rfl)),
          k_WEST := ik (He.int_ok X G (c.t.d.fact 88 (f := .int "WEST" 2) rfl)),
          k_SOUTH := ik (He.int_ok X G (c.t.d.fact 89 (f := .int "SOUTH" 3) rfl)),
          k_MOST_WIDE := ik (He.int_ok X G (c.t.d.fact 90 (f := .int "MOST_WIDE" 4) rfl)),
          k_ONE := ⟨_, He.glo_ok X G (c.t.d.fact 91 (f := .glo "ONE") rfl), rfl⟩,
          z_ONE := fun H => He.tupB_ok m1 H,
          k_ZERO := ⟨_, He.glo_ok X G (c.t.d.fact 92 (f := .glo "ZERO") rfl), rfl⟩,
          z_ZERO := fun H => He.tupB_ok m3 H,
          k_BOTH := ⟨_, He.glo_ok X G (c.t.d.fact 93 (f := .glo "BOTH") rfl), rfl⟩,
          z_BOTH := fun H => He.tupB_ok m4 H,
          x_BadTable := ⟨He.glo_ok X G (c.t.d.fact 94 (f := .glo "BadTable") rfl), (He.exc_ok (c.t.d.fact 96 (f := .exc "BadTable") rfl)).1, (He.exc_ok (c.t.d.fact 96 (f := .exc "BadTable") rfl)).2.1, (He.exc_ok (c.t.d.fact 96 (f := .exc "BadTable") rfl)).2.2.1, (He.exc_ok (c.t.d.fact 96 (f := .exc "BadTable") rfl)).2.2.2⟩,
          x_BadWish := ⟨He.glo_ok X G (c.t.d.fact 95 (f := .glo "BadWish") rfl), (He.exc_ok (c.t.d.fact 97 (f := .exc "BadWish") rfl)).1, (He.exc_ok (c.t.d.fact 97 (f := .exc "BadWish") rfl)).2.1, (He.exc_ok (c.t.d.fact 97 (f := .exc "BadWish") rfl)).2.2.1, (He.exc_ok (c.t.d.fact 97 (f := .exc "BadWish") rfl)).2.2.2⟩,
          m_BadTable_BadTable := He.exm_ok (c.t.d.fact 98 (f := .exm "BadTable" "BadTable" true) rfl),
          m_BadTable_BadWish := He.exm_ok (c.t.d.fact 99 (f := .exm "BadTable" "BadWish" false) rfl),
          m_BadWish_BadTable := He.exm_ok (c.t.d.fact 100 (f := .exm "BadWish" "BadTable" false) rfl),
          m_BadWish_BadWish := He.exm_ok (c.t.d.fact 101 (f := .exm "BadWish" "BadWish" true) rfl) }
theorem factsL {P : Program} {w : World} {K : PySem.W.Frag} {h : Heap} {mg : Str → Option Value} {f : Addr} (X : K.In h) (G : h.Ns mainGlobals mg) (hfa : mg ("law" : Str) = some (.ref f)) (c : He.SaysX faL fnL [] [] exL w h K) :
    ∃ fd : FuncData, (∀ (s : Shared) (v : Value), BindsTo s fd ⟨[v], []⟩ [("script", v)]) ∧ ∀ base : Heap, K.In base → base.Ns mainGlobals mg → FnOk P w K mg base (L2.CX P w) 13 f fd ["script"] (spLaw K) := by
  have T := factTxt X G c
  obtain ⟨fd_is_integer, F_is_integer⟩ := c.t.d.def_ 0 (d := d_is_integer) rfl
  have G_is_integer := He.glo_ok X G (c.t.d.fact 0 (f := .glo "is_integer") rfl)
  obtain ⟨fd_is_row, F_is_row⟩ := c.t.d.def_ 1 (d := d_is_row) rfl
  have G_is_row := He.glo_ok X G (c.t.d.fact 1 (f := .glo "is_row") rfl)
  obtain ⟨fd_common_part, F_common_part⟩ := c.t.d.def_ 2 (d := d_common_part) rfl
  have G_common_part := He.glo_ok X G (c.t.d.fact 2 (f := .glo "common_part") rfl)
  obtain ⟨fd_opposite, F_opposite⟩ := c.t.d.def_ 3 (d := d_opposite) rfl
  have G_opposite := He.glo_ok X G (c.t.d.fact 3 (f := .glo "opposite") rfl)
  obtain ⟨fd_cell_corners, F_cell_corners⟩ := c.t.d.def_ 4 (d := d_cell_corners) rfl
  have G_cell_corners := He.glo_ok X G (c.t.d.fact 4 (f := .glo "cell_corners") rfl)
  obtain ⟨fd_cells_of, F_cells_of⟩ := c.t.d.def_ 5 (d := d_cells_of) rfl
  have G_cells_of := He.glo_ok X G (c.t.d.fact 5 (f := .glo "cells_of") rfl)
  obtain ⟨fd__law_mixed, F__law_mixed⟩ := c.t.d.def_ 6 (d := d__law_mixed) rfl
  have G__law_mixed := He.glo_ok X G (c.t.d.fact 6 (f := .glo "_law_mixed") rfl)
  obtain ⟨fd__law_great, F__law_great⟩ := c.t.d.def_ 7 (d := d__law_great) rfl
  have G__law_great := He.glo_ok X G (c.t.d.fact 7 (f := .glo "_law_great") rfl)
  obtain ⟨fd__law_low, F__law_low⟩ := c.t.d.def_ 8 (d := d__law_low) rfl
  have G__law_low := He.glo_ok X G (c.t.d.fact 8 (f := .glo "_law_low") rfl)
  obtain ⟨fd__law_neg, F__law_neg⟩ := c.t.d.def_ 9 (d := d__law_neg) rfl
  have G__law_neg := He.glo_ok X G (c.t.d.fact 9 (f := .glo "_law_neg") rfl)
  obtain ⟨fd__law_quads, F__law_quads⟩ := c.t.d.def_ 10 (d := d__law_quads) rfl
  have G__law_quads := He.glo_ok X G (c.t.d.fact 10 (f := .glo "_law_quads") rfl)
  obtain ⟨fd__law_is_wish, F__law_is_wish⟩ := c.t.d.def_ 11 (d := d__law_is_wish) rfl
  have G__law_is_wish := He.glo_ok X G (c.t.d.fact 11 (f := .glo "_law_is_wish") rfl)
  obtain ⟨fd_lowest, F_lowest⟩ := c.t.d.def_ 12 (d := d_lowest) rfl
  have G_lowest := He.glo_ok X G (c.t.d.fact 12 (f := .glo "lowest") rfl)
  obtain ⟨fd_is_fraction, F_is_fraction⟩ := c.t.d.def_ 13 (d := d_is_fraction) rfl
  have G_is_fraction := He.glo_ok X G (c.t.d.fact 13 (f := .glo "is_fraction") rfl)
  obtain ⟨fd_first_line, F_first_line⟩ := c.t.d.def_ 14 (d := d_first_line) rfl
  have G_first_line := He.glo_ok X G (c.t.d.fact 14 (f := .glo "first_line") rfl)
  obtain ⟨fd_second_line, F_second_line⟩ := c.t.d.def_ 15 (d := d_second_line) rfl
  have G_second_line := He.glo_ok X G (c.t.d.fact 15 (f := .glo "second_line") rfl)
  obtain ⟨fd_is_wish, F_is_wish⟩ := c.t.d.def_ 16 (d := d_is_wish) rfl
  have G_is_wish := He.glo_ok X G (c.t.d.fact 16 (f := .glo "is_wish") rfl)
  obtain ⟨fd__law_stream, F__law_stream⟩ := c.t.d.def_ 17 (d := d__law_stream) rfl
  have G__law_stream := He.glo_ok X G (c.t.d.fact 17 (f := .glo "_law_stream") rfl)
  obtain ⟨fd__law_take, F__law_take⟩ := c.t.d.def_ 18 (d := d__law_take) rfl
  have G__law_take := He.glo_ok X G (c.t.d.fact 18 (f := .glo "_law_take") rfl)
  obtain ⟨fd__law_add, F__law_add⟩ := c.t.d.def_ 19 (d := d__law_add) rfl
  have G__law_add := He.glo_ok X G (c.t.d.fact 19 (f := .glo "_law_add") rfl)
  obtain ⟨fd__law_sub, F__law_sub⟩ := c.t.d.def_ 20 (d := d__law_sub) rfl
  have G__law_sub := He.glo_ok X G (c.t.d.fact 20 (f := .glo "_law_sub") rfl)
  obtain ⟨fd__law_mul, F__law_mul⟩ := c.t.d.def_ 21 (d := d__law_mul) rfl
  have G__law_mul := He.glo_ok X G (c.t.d.fact 21 (f := .glo "_law_mul") rfl)
  obtain ⟨fd__law_div, F__law_div⟩ := c.t.d.def_ 22 (d := d__law_div) rfl
  have G__law_div := He.glo_ok X G (c.t.d.fact 22 (f := .glo "_law_div") rfl)
  obtain ⟨fd__law_ray, F__law_ray⟩ := c.t.d.def_ 23 (d := d__law_ray) rfl
  have G__law_ray := He.glo_ok X G (c.t.d.fact 23 (f := .glo "_law_ray") rfl)
  obtain ⟨fd__law_is_fraction, F__law_is_fraction⟩ := c.t.d.def_ 24 (d := d__law_is_fraction) rfl
  have G__law_is_fraction := He.glo_ok X G (c.t.d.fact 24 (f := .glo "_law_is_fraction") rfl)
  obtain ⟨fd_plus, F_plus⟩ := c.t.d.def_ 25 (d := d_plus) rfl
  have G_plus := He.glo_ok X G (c.t.d.fact 25 (f := .glo "plus") rfl)
  obtain ⟨fd_product, F_product⟩ := c.t.d.def_ 26 (d := d_product) rfl
  have G_product := He.glo_ok X G (c.t.d.fact 26 (f := .glo "product") rfl)
  obtain ⟨fd_divided, F_divided⟩ := c.t.d.def_ 27 (d := d_divided) rfl
  have G_divided := He.glo_ok X G (c.t.d.fact 27 (f := .glo "divided") rfl)
  obtain ⟨fd_is_angles, F_is_angles⟩ := c.t.d.def_ 28 (d := d_is_angles) rfl
  have G_is_angles := He.glo_ok X G (c.t.d.fact 28 (f := .glo "is_angles") rfl)
  obtain ⟨fd__law_times, F__law_times⟩ := c.t.d.def_ 29 (d := d__law_times) rfl
  have G__law_times := He.glo_ok X G (c.t.d.fact 29 (f := .glo "_law_times") rfl)
  obtain ⟨fd__law_cross, F__law_cross⟩ := c.t.d.def_ 30 (d := d__law_cross) rfl
  have G__law_cross := He.glo_ok X G (c.t.d.fact 30 (f := .glo "_law_cross") rfl)
  obtain ⟨fd__law_dot, F__law_dot⟩ := c.t.d.def_ 31 (d := d__law_dot) rfl
  have G__law_dot := He.glo_ok X G (c.t.d.fact 31 (f := .glo "_law_dot") rfl)
  obtain ⟨fd__law_turn, F__law_turn⟩ := c.t.d.def_ 32 (d := d__law_turn) rfl
  have G__law_turn := He.glo_ok X G (c.t.d.fact 32 (f := .glo "_law_turn") rfl)
  obtain ⟨fd__law_slope, F__law_slope⟩ := c.t.d.def_ 33 (d := d__law_slope) rfl
  have G__law_slope := He.glo_ok X G (c.t.d.fact 33 (f := .glo "_law_slope") rfl)
  obtain ⟨fd__law_fraction_pair, F__law_fraction_pair⟩ := c.t.d.def_ 34 (d := d__law_fraction_pair) rfl
  have G__law_fraction_pair := He.glo_ok X G (c.t.d.fact 34 (f := .glo "_law_fraction_pair") rfl)
  obtain ⟨fd__law_leaning, F__law_leaning⟩ := c.t.d.def_ 35 (d := d__law_leaning) rfl
  have G__law_leaning := He.glo_ok X G (c.t.d.fact 35 (f := .glo "_law_leaning") rfl)
  obtain ⟨fd__law_wish, F__law_wish⟩ := c.t.d.def_ 36 (d := d__law_wish) rfl
  have G__law_wish := He.glo_ok X G (c.t.d.fact 36 (f := .glo "_law_wish") rfl)
  obtain ⟨fd__law_as_rows, F__law_as_rows⟩ := c.t.d.def_ 37 (d := d__law_as_rows) rfl
  have G__law_as_rows := He.glo_ok X G (c.t.d.fact 37 (f := .glo "_law_as_rows") rfl)
  obtain ⟨fd__law_is_slant, F__law_is_slant⟩ := c.t.d.def_ 38 (d := d__law_is_slant) rfl
  have G__law_is_slant := He.glo_ok X G (c.t.d.fact 38 (f := .glo "_law_is_slant") rfl)
  obtain ⟨fd__law_spoiled_table, F__law_spoiled_table⟩ := c.t.d.def_ 39 (d := d__law_spoiled_table) rfl
  have G__law_spoiled_table := He.glo_ok X G (c.t.d.fact 39 (f := .glo "_law_spoiled_table") rfl)
  obtain ⟨fd__law_spoiled_wish, F__law_spoiled_wish⟩ := c.t.d.def_ 40 (d := d__law_spoiled_wish) rfl
  have G__law_spoiled_wish := He.glo_ok X G (c.t.d.fact 40 (f := .glo "_law_spoiled_wish") rfl)
  obtain ⟨fd_minus, F_minus⟩ := c.t.d.def_ 41 (d := d_minus) rfl
  have G_minus := He.glo_ok X G (c.t.d.fact 41 (f := .glo "minus") rfl)
  obtain ⟨fd_is_angle_row, F_is_angle_row⟩ := c.t.d.def_ 42 (d := d_is_angle_row) rfl
  have G_is_angle_row := He.glo_ok X G (c.t.d.fact 42 (f := .glo "is_angle_row") rfl)
  obtain ⟨fd__law_back, F__law_back⟩ := c.t.d.def_ 43 (d := d__law_back) rfl
  have G__law_back := He.glo_ok X G (c.t.d.fact 43 (f := .glo "_law_back") rfl)
  obtain ⟨fd__law_half, F__law_half⟩ := c.t.d.def_ 44 (d := d__law_half) rfl
  have G__law_half := He.glo_ok X G (c.t.d.fact 44 (f := .glo "_law_half") rfl)
  obtain ⟨fd__law_pair, F__law_pair⟩ := c.t.d.def_ 45 (d := d__law_pair) rfl
  have G__law_pair := He.glo_ok X G (c.t.d.fact 45 (f := .glo "_law_pair") rfl)
  obtain ⟨fd__law_new_slope, F__law_new_slope⟩ := c.t.d.def_ 46 (d := d__law_new_slope) rfl
  have G__law_new_slope := He.glo_ok X G (c.t.d.fact 46 (f := .glo "_law_new_slope") rfl)
  obtain ⟨fd__law_mill, F__law_mill⟩ := c.t.d.def_ 47 (d := d__law_mill) rfl
  have G__law_mill := He.glo_ok X G (c.t.d.fact 47 (f := .glo "_law_mill") rfl)
  obtain ⟨fd__law_closed, F__law_closed⟩ := c.t.d.def_ 48 (d := d__law_closed) rfl
  have G__law_closed := He.glo_ok X G (c.t.d.fact 48 (f := .glo "_law_closed") rfl)
  obtain ⟨fd__law_four, F__law_four⟩ := c.t.d.def_ 49 (d := d__law_four) rfl
  have G__law_four := He.glo_ok X G (c.t.d.fact 49 (f := .glo "_law_four") rfl)
  obtain ⟨fd__law_is_table, F__law_is_table⟩ := c.t.d.def_ 50 (d := d__law_is_table) rfl
  have G__law_is_table := He.glo_ok X G (c.t.d.fact 50 (f := .glo "_law_is_table") rfl)
  obtain ⟨fd__law_nudged, F__law_nudged⟩ := c.t.d.def_ 51 (d := d__law_nudged) rfl
  have G__law_nudged := He.glo_ok X G (c.t.d.fact 51 (f := .glo "_law_nudged") rfl)
  obtain ⟨fd_is_table, F_is_table⟩ := c.t.d.def_ 52 (d := d_is_table) rfl
  have G_is_table := He.glo_ok X G (c.t.d.fact 52 (f := .glo "is_table") rfl)
  obtain ⟨fd_cell_closes, F_cell_closes⟩ := c.t.d.def_ 53 (d := d_cell_closes) rfl
  have G_cell_closes := He.glo_ok X G (c.t.d.fact 53 (f := .glo "cell_closes") rfl)
  obtain ⟨fd_pair_fractions, F_pair_fractions⟩ := c.t.d.def_ 54 (d := d_pair_fractions) rfl
  have G_pair_fractions := He.glo_ok X G (c.t.d.fact 54 (f := .glo "pair_fractions") rfl)
  obtain ⟨fd__law_directions, F__law_directions⟩ := c.t.d.def_ 55 (d := d__law_directions) rfl
  have G__law_directions := He.glo_ok X G (c.t.d.fact 55 (f := .glo "_law_directions") rfl)
  obtain ⟨fd__law_level_table, F__law_level_table⟩ := c.t.d.def_ 56 (d := d__law_level_table) rfl
  have G__law_level_table := He.glo_ok X G (c.t.d.fact 56 (f := .glo "_law_level_table") rfl)
  obtain ⟨fd__law_free_table, F__law_free_table⟩ := c.t.d.def_ 57 (d := d__law_free_table) rfl
  have G__law_free_table := He.glo_ok X G (c.t.d.fact 57 (f := .glo "_law_free_table") rfl)
  obtain ⟨fd__law_all_closed, F__law_all_closed⟩ := c.t.d.def_ 58 (d := d__law_all_closed) rfl
  have G__law_all_closed := He.glo_ok X G (c.t.d.fact 58 (f := .glo "_law_all_closed") rfl)
  obtain ⟨fd__law_rounds, F__law_rounds⟩ := c.t.d.def_ 59 (d := d__law_rounds) rfl
  have G__law_rounds := He.glo_ok X G (c.t.d.fact 59 (f := .glo "_law_rounds") rfl)
  obtain ⟨fd_check_table, F_check_table⟩ := c.t.d.def_ 60 (d := d_check_table) rfl
  have G_check_table := He.glo_ok X G (c.t.d.fact 60 (f := .glo "check_table") rfl)
  obtain ⟨fd_all_close, F_all_close⟩ := c.t.d.def_ 61 (d := d_all_close) rfl
  have G_all_close := He.glo_ok X G (c.t.d.fact 61 (f := .glo "all_close") rfl)
  obtain ⟨fd_told_line, F_told_line⟩ := c.t.d.def_ 62 (d := d_told_line) rfl
  have G_told_line := He.glo_ok X G (c.t.d.fact 62 (f := .glo "told_line") rfl)
  obtain ⟨fd_told_fraction, F_told_fraction⟩ := c.t.d.def_ 63 (d := d_told_fraction) rfl
  have G_told_fraction := He.glo_ok X G (c.t.d.fact 63 (f := .glo "told_fraction") rfl)
  obtain ⟨fd__law_table, F__law_table⟩ := c.t.d.def_ 64 (d := d__law_table) rfl
  have G__law_table := He.glo_ok X G (c.t.d.fact 64 (f := .glo "_law_table") rfl)
  obtain ⟨fd__law_kept, F__law_kept⟩ := c.t.d.def_ 65 (d := d__law_kept) rfl
  have G__law_kept := He.glo_ok X G (c.t.d.fact 65 (f := .glo "_law_kept") rfl)
  obtain ⟨fd_fits_together, F_fits_together⟩ := c.t.d.def_ 66 (d := d_fits_together) rfl
  have G_fits_together := He.glo_ok X G (c.t.d.fact 66 (f := .glo "fits_together") rfl)
  obtain ⟨fd_quotient_of, F_quotient_of⟩ := c.t.d.def_ 67 (d := d_quotient_of) rfl
  have G_quotient_of := He.glo_ok X G (c.t.d.fact 67 (f := .glo "quotient_of") rfl)
  obtain ⟨fd__law_is_right, F__law_is_right⟩ := c.t.d.def_ 68 (d := d__law_is_right) rfl
  have G__law_is_right := He.glo_ok X G (c.t.d.fact 68 (f := .glo "_law_is_right") rfl)
  obtain ⟨fd_three_product, F_three_product⟩ := c.t.d.def_ 69 (d := d_three_product) rfl
  have G_three_product := He.glo_ok X G (c.t.d.fact 69 (f := .glo "three_product") rfl)
  obtain ⟨fd__law_fitting_told, F__law_fitting_told⟩ := c.t.d.def_ 70 (d := d__law_fitting_told) rfl
  have G__law_fitting_told := He.glo_ok X G (c.t.d.fact 70 (f := .glo "_law_fitting_told") rfl)
  obtain ⟨fd_cell_comes_out, F_cell_comes_out⟩ := c.t.d.def_ 71 (d := d_cell_comes_out) rfl
  have G_cell_comes_out := He.glo_ok X G (c.t.d.fact 71 (f := .glo "cell_comes_out") rfl)
  obtain ⟨fd_is_fulfilled, F_is_fulfilled⟩ := c.t.d.def_ 72 (d := d_is_fulfilled) rfl
  have G_is_fulfilled := He.glo_ok X G (c.t.d.fact 72 (f := .glo "is_fulfilled") rfl)
  obtain ⟨fd_fulfils, F_fulfils⟩ := c.t.d.def_ 73 (d := d_fulfils) rfl
  have G_fulfils := He.glo_ok X G (c.t.d.fact 73 (f := .glo "fulfils") rfl)
  obtain ⟨fd__law_fulfilled_told, F__law_fulfilled_told⟩ := c.t.d.def_ 74 (d := d__law_fulfilled_told) rfl
  have G__law_fulfilled_told := He.glo_ok X G (c.t.d.fact 74 (f := .glo "_law_fulfilled_told") rfl)
  obtain ⟨fd_law, F_law⟩ := c.t.d.def_ 75 (d := d_law) rfl
  have G_law := He.glo_ok X G (c.t.d.fact 75 (f := .glo "law") rfl)
  have e := hfa.symm.trans G_law
  cases e
  have b := FunD.bindsA (ps := ["script"]) F_law fun _ _ _ _ _ _ us hl => match us, hl with | [_], _ => rfl
  refine ⟨fd_law, fun s v => b s [v] rfl, fun base _ _ => ?_⟩
  have o_is_integer := ok_is_integer (P := P) (w := w) (mg := mg) (base := base) F_is_integer T 
  have c_is_integer := cal_mk (st := s_is_integer) (ps := ["thing"]) F_is_integer o_is_integer G_is_integer (fun _ _ _ _ _ _ us hl => match us, hl with | [_], _ => rfl) (fun _ _ _ _ _ _ us hl => match us, hl with | [_], _ => rfl)
  clear o_is_integer
  have o_is_row := ok_is_row (P := P) (w := w) (mg := mg) (base := base) F_is_row T 
  have c_is_row := cal_mk (st := s_is_row) (ps := ["thing"]) F_is_row o_is_row G_is_row (fun _ _ _ _ _ _ us hl => match us, hl with | [_], _ => rfl) (fun _ _ _ _ _ _ us hl => match us, hl with | [_], _ => rfl)
  clear o_is_row
  have o_common_part := ok_common_part (P := P) (w := w) (mg := mg) (base := base) F_common_part T 
  have c_common_part := cal_mk (st := s_common_part) (ps := ["one", "other"]) F_common_part o_common_part G_common_part (fun _ _ _ _ _ _ us hl => match us, hl with | [_, _], _ => rfl) (fun _ _ _ _ _ _ us hl => match us, hl with | [_, _], _ => rfl)
  clear o_common_part
  have o_opposite := ok_opposite (P := P) (w := w) (mg := mg) (base := base) F_opposite T 
  have c_opposite := cal_mk (st := s_opposite) (ps := ["one"]) F_opposite o_opposite G_opposite (fun _ _ _ _ _ _ us hl => match us, hl with | [_], _ => rfl) (fun _ _ _ _ _ _ us hl => match us, hl with | [_], _ => rfl)
  clear o_opposite
  have o_cell_corners := ok_cell_corners (P := P) (w := w) (mg := mg) (base := base) F_cell_corners T 
  have c_cell_corners := cal_mk (st := s_cell_corners) (ps := ["table", "i", "j"]) F_cell_corners o_cell_corners G_cell_corners (fun _ _ _ _ _ _ us hl => match us, hl with | [_, _, _], _ => rfl) (fun _ _ _ _ _ _ us hl => match us, hl with | [_, _, _], _ => rfl)
  clear o_cell_corners
  have o_cells_of := ok_cells_of (P := P) (w := w) (mg := mg) (base := base) F_cells_of T 
  have c_cells_of := cal_mk (st := s_cells_of) (ps := ["table"]) F_cells_of o_cells_of G_cells_of (fun _ _ _ _ _ _ us hl => match us, hl with | [_], _ => rfl) (fun _ _ _ _ _ _ us hl => match us, hl with | [_], _ => rfl)
  clear o_cells_of
  have o__law_mixed := ok__law_mixed (P := P) (w := w) (mg := mg) (base := base) F__law_mixed T 
  have c__law_mixed := cal_mk (st := s__law_mixed) (ps := ["cell", "k"]) F__law_mixed o__law_mixed G__law_mixed (fun _ _ _ _ _ _ us hl => match us, hl with | [_, _], _ => rfl) (fun _ _ _ _ _ _ us hl => match us, hl with | [_, _], _ => rfl)
  clear o__law_mixed
  have o__law_great := ok__law_great (P := P) (w := w) (mg := mg) (base := base) F__law_great T 
  have c__law_great := cal_mk (st := s__law_great) (ps := ["cells", "place"]) F__law_great o__law_great G__law_great (fun _ _ _ _ _ _ us hl => match us, hl with | [_, _], _ => rfl) (fun _ _ _ _ _ _ us hl => match us, hl with | [_, _], _ => rfl)
  clear o__law_great
  have o__law_low := ok__law_low (P := P) (w := w) (mg := mg) (base := base) F__law_low T 
  have c__law_low := cal_mk (st := s__law_low) (ps := ["top", "bottom"]) F__law_low o__law_low G__law_low (fun _ _ _ _ _ _ us hl => match us, hl with | [_, _], _ => rfl) (fun _ _ _ _ _ _ us hl => match us, hl with | [_, _], _ => rfl)
  clear o__law_low
  have o__law_neg := ok__law_neg (P := P) (w := w) (mg := mg) (base := base) F__law_neg T 
  have c__law_neg := cal_mk (st := s__law_neg) (ps := ["one"]) F__law_neg o__law_neg G__law_neg (fun _ _ _ _ _ _ us hl => match us, hl with | [_], _ => rfl) (fun _ _ _ _ _ _ us hl => match us, hl with | [_], _ => rfl)
  clear o__law_neg
  have o__law_quads := ok__law_quads (P := P) (w := w) (mg := mg) (base := base) F__law_quads T 
  have c__law_quads := cal_mk (st := s__law_quads) (ps := ["table"]) F__law_quads o__law_quads G__law_quads (fun _ _ _ _ _ _ us hl => match us, hl with | [_], _ => rfl) (fun _ _ _ _ _ _ us hl => match us, hl with | [_], _ => rfl)
  clear o__law_quads
  have o__law_is_wish := ok__law_is_wish (P := P) (w := w) (mg := mg) (base := base) F__law_is_wish T 
  have c__law_is_wish := cal_mk (st := s__law_is_wish) (ps := ["thing", "across", "up"]) F__law_is_wish o__law_is_wish G__law_is_wish (fun _ _ _ _ _ _ us hl => match us, hl with | [_, _, _], _ => rfl) (fun _ _ _ _ _ _ us hl => match us, hl with | [_, _, _], _ => rfl)
  clear o__law_is_wish
  have o_lowest := ok_lowest (P := P) (w := w) (mg := mg) (base := base) F_lowest T c_common_part
  have c_lowest := cal_mk (st := s_lowest) (ps := ["top", "bottom"]) F_lowest o_lowest G_lowest (fun _ _ _ _ _ _ us hl => match us, hl with | [_, _], _ => rfl) (fun _ _ _ _ _ _ us hl => match us, hl with | [_, _], _ => rfl)
  clear o_lowest
  have o_is_fraction := ok_is_fraction (P := P) (w := w) (mg := mg) (base := base) F_is_fraction T c_common_part c_is_integer
  have c_is_fraction := cal_mk (st := s_is_fraction) (ps := ["thing"]) F_is_fraction o_is_fraction G_is_fraction (fun _ _ _ _ _ _ us hl => match us, hl with | [_], _ => rfl) (fun _ _ _ _ _ _ us hl => match us, hl with | [_], _ => rfl)
  clear o_is_fraction
  have o_first_line := ok_first_line (P := P) (w := w) (mg := mg) (base := base) F_first_line T c_opposite
  have c_first_line := cal_mk (st := s_first_line) (ps := ["fraction"]) F_first_line o_first_line G_first_line (fun _ _ _ _ _ _ us hl => match us, hl with | [_], _ => rfl) (fun _ _ _ _ _ _ us hl => match us, hl with | [_], _ => rfl)
  clear o_first_line
  have o_second_line := ok_second_line (P := P) (w := w) (mg := mg) (base := base) F_second_line T c_opposite
  have c_second_line := cal_mk (st := s_second_line) (ps := ["fraction"]) F_second_line o_second_line G_second_line (fun _ _ _ _ _ _ us hl => match us, hl with | [_], _ => rfl) (fun _ _ _ _ _ _ us hl => match us, hl with | [_], _ => rfl)
  clear o_second_line
  have o_is_wish := ok_is_wish (P := P) (w := w) (mg := mg) (base := base) F_is_wish T c_is_integer c_is_row
  have c_is_wish := cal_mk (st := s_is_wish) (ps := ["thing", "columns", "rows"]) F_is_wish o_is_wish G_is_wish (fun _ _ _ _ _ _ us hl => match us, hl with | [_, _, _], _ => rfl) (fun _ _ _ _ _ _ us hl => match us, hl with | [_, _, _], _ => rfl)
  clear o_is_wish
  have o__law_stream := ok__law_stream (P := P) (w := w) (mg := mg) (base := base) F__law_stream T c__law_great
  have c__law_stream := calG_mk (st := s__law_stream) (ps := ["script"]) F__law_stream o__law_stream G__law_stream (fun _ _ _ _ _ _ us hl => match us, hl with | [_], _ => rfl)
  clear o__law_stream
  have o__law_take := ok__law_take (P := P) (w := w) (mg := mg) (base := base) F__law_take T c__law_great c__law_mixed
  have c__law_take := cal_mk (st := s__law_take) (ps := ["stream", "many"]) F__law_take o__law_take G__law_take (fun _ _ _ _ _ _ us hl => match us, hl with | [_, _], _ => rfl) (fun _ _ _ _ _ _ us hl => match us, hl with | [_, _], _ => rfl)
  clear o__law_take
  have o__law_add := ok__law_add (P := P) (w := w) (mg := mg) (base := base) F__law_add T c__law_low
  have c__law_add := cal_mk (st := s__law_add) (ps := ["one", "other"]) F__law_add o__law_add G__law_add (fun _ _ _ _ _ _ us hl => match us, hl with | [_, _], _ => rfl) (fun _ _ _ _ _ _ us hl => match us, hl with | [_, _], _ => rfl)
  clear o__law_add
  have o__law_sub := ok__law_sub (P := P) (w := w) (mg := mg) (base := base) F__law_sub T c__law_low
  have c__law_sub := cal_mk (st := s__law_sub) (ps := ["one", "other"]) F__law_sub o__law_sub G__law_sub (fun _ _ _ _ _ _ us hl => match us, hl with | [_, _], _ => rfl) (fun _ _ _ _ _ _ us hl => match us, hl with | [_, _], _ => rfl)
  clear o__law_sub
  have o__law_mul := ok__law_mul (P := P) (w := w) (mg := mg) (base := base) F__law_mul T c__law_low
  have c__law_mul := cal_mk (st := s__law_mul) (ps := ["one", "other"]) F__law_mul o__law_mul G__law_mul (fun _ _ _ _ _ _ us hl => match us, hl with | [_, _], _ => rfl) (fun _ _ _ _ _ _ us hl => match us, hl with | [_, _], _ => rfl)
  clear o__law_mul
  have o__law_div := ok__law_div (P := P) (w := w) (mg := mg) (base := base) F__law_div T c__law_low
  have c__law_div := cal_mk (st := s__law_div) (ps := ["one", "other"]) F__law_div o__law_div G__law_div (fun _ _ _ _ _ _ us hl => match us, hl with | [_, _], _ => rfl) (fun _ _ _ _ _ _ us hl => match us, hl with | [_, _], _ => rfl)
  clear o__law_div
  have o__law_ray := ok__law_ray (P := P) (w := w) (mg := mg) (base := base) F__law_ray T c__law_low
  have c__law_ray := cal_mk (st := s__law_ray) (ps := ["slope"]) F__law_ray o__law_ray G__law_ray (fun _ _ _ _ _ _ us hl => match us, hl with | [_], _ => rfl) (fun _ _ _ _ _ _ us hl => match us, hl with | [_], _ => rfl)
  clear o__law_ray
  have o__law_is_fraction := ok__law_is_fraction (P := P) (w := w) (mg := mg) (base := base) F__law_is_fraction T c__law_low
  have c__law_is_fraction := cal_mk (st := s__law_is_fraction) (ps := ["thing"]) F__law_is_fraction o__law_is_fraction G__law_is_fraction (fun _ _ _ _ _ _ us hl => match us, hl with | [_], _ => rfl) (fun _ _ _ _ _ _ us hl => match us, hl with | [_], _ => rfl)
  clear o__law_is_fraction
  have o_plus := ok_plus (P := P) (w := w) (mg := mg) (base := base) F_plus T c_lowest
  have c_plus := cal_mk (st := s_plus) (ps := ["one", "other"]) F_plus o_plus G_plus (fun _ _ _ _ _ _ us hl => match us, hl with | [_, _], _ => rfl) (fun _ _ _ _ _ _ us hl => match us, hl with | [_, _], _ => rfl)
  clear o_plus
  have o_product := ok_product (P := P) (w := w) (mg := mg) (base := base) F_product T c_lowest
  have c_product := cal_mk (st := s_product) (ps := ["one", "other"]) F_product o_product G_product (fun _ _ _ _ _ _ us hl => match us, hl with | [_, _], _ => rfl) (fun _ _ _ _ _ _ us hl => match us, hl with | [_, _], _ => rfl)
  clear o_product
  have o_divided := ok_divided (P := P) (w := w) (mg := mg) (base := base) F_divided T c_lowest
  have c_divided := cal_mk (st := s_divided) (ps := ["one", "other"]) F_divided o_divided G_divided (fun _ _ _ _ _ _ us hl => match us, hl with | [_, _], _ => rfl) (fun _ _ _ _ _ _ us hl => match us, hl with | [_, _], _ => rfl)
  clear o_divided
  have o_is_angles := ok_is_angles (P := P) (w := w) (mg := mg) (base := base) F_is_angles T c_is_fraction
  have c_is_angles := cal_mk (st := s_is_angles) (ps := ["thing"]) F_is_angles o_is_angles G_is_angles (fun _ _ _ _ _ _ us hl => match us, hl with | [_], _ => rfl) (fun _ _ _ _ _ _ us hl => match us, hl with | [_], _ => rfl)
  clear o_is_angles
  have o__law_times := ok__law_times (P := P) (w := w) (mg := mg) (base := base) F__law_times T c__law_mul
  have c__law_times := cal_mk (st := s__law_times) (ps := ["step", "factor"]) F__law_times o__law_times G__law_times (fun _ _ _ _ _ _ us hl => match us, hl with | [_, _], _ => rfl) (fun _ _ _ _ _ _ us hl => match us, hl with | [_, _], _ => rfl)
  clear o__law_times
  have o__law_cross := ok__law_cross (P := P) (w := w) (mg := mg) (base := base) F__law_cross T c__law_mul c__law_sub
  have c__law_cross := cal_mk (st := s__law_cross) (ps := ["one", "other"]) F__law_cross o__law_cross G__law_cross (fun _ _ _ _ _ _ us hl => match us, hl with | [_, _], _ => rfl) (fun _ _ _ _ _ _ us hl => match us, hl with | [_, _], _ => rfl)
  clear o__law_cross
  have o__law_dot := ok__law_dot (P := P) (w := w) (mg := mg) (base := base) F__law_dot T c__law_add c__law_mul
  have c__law_dot := cal_mk (st := s__law_dot) (ps := ["one", "other"]) F__law_dot o__law_dot G__law_dot (fun _ _ _ _ _ _ us hl => match us, hl with | [_, _], _ => rfl) (fun _ _ _ _ _ _ us hl => match us, hl with | [_, _], _ => rfl)
  clear o__law_dot
  have o__law_turn := ok__law_turn (P := P) (w := w) (mg := mg) (base := base) F__law_turn T c__law_add c__law_mul c__law_sub
  have c__law_turn := cal_mk (st := s__law_turn) (ps := ["one", "other"]) F__law_turn o__law_turn G__law_turn (fun _ _ _ _ _ _ us hl => match us, hl with | [_, _], _ => rfl) (fun _ _ _ _ _ _ us hl => match us, hl with | [_, _], _ => rfl)
  clear o__law_turn
  have o__law_slope := ok__law_slope (P := P) (w := w) (mg := mg) (base := base) F__law_slope T c__law_low c__law_take
  have c__law_slope := cal_mk (st := s__law_slope) (ps := ["stream", "most"]) F__law_slope o__law_slope G__law_slope (fun _ _ _ _ _ _ us hl => match us, hl with | [_, _], _ => rfl) (fun _ _ _ _ _ _ us hl => match us, hl with | [_, _], _ => rfl)
  clear o__law_slope
  have o__law_fraction_pair := ok__law_fraction_pair (P := P) (w := w) (mg := mg) (base := base) F__law_fraction_pair T c__law_add c__law_div c__law_mul c__law_sub
  have c__law_fraction_pair := cal_mk (st := s__law_fraction_pair) (ps := ["first", "second"]) F__law_fraction_pair o__law_fraction_pair G__law_fraction_pair (fun _ _ _ _ _ _ us hl => match us, hl with | [_, _], _ => rfl) (fun _ _ _ _ _ _ us hl => match us, hl with | [_, _], _ => rfl)
  clear o__law_fraction_pair
  have o__law_leaning := ok__law_leaning (P := P) (w := w) (mg := mg) (base := base) F__law_leaning T c__law_low c__law_ray c__law_take
  have c__law_leaning := cal_mk (st := s__law_leaning) (ps := ["stream", "bottom"]) F__law_leaning o__law_leaning G__law_leaning (fun _ _ _ _ _ _ us hl => match us, hl with | [_, _], _ => rfl) (fun _ _ _ _ _ _ us hl => match us, hl with | [_, _], _ => rfl)
  clear o__law_leaning
  have o__law_wish := ok__law_wish (P := P) (w := w) (mg := mg) (base := base) F__law_wish T c__law_take
  have c__law_wish := cal_mk (st := s__law_wish) (ps := ["stream", "across", "up"]) F__law_wish o__law_wish G__law_wish (fun _ _ _ _ _ _ us hl => match us, hl with | [_, _, _], _ => rfl) (fun _ _ _ _ _ _ us hl => match us, hl with | [_, _, _], _ => rfl)
  clear o__law_wish
  have o__law_as_rows := ok__law_as_rows (P := P) (w := w) (mg := mg) (base := base) F__law_as_rows T c__law_take
  have c__law_as_rows := cal_mk (st := s__law_as_rows) (ps := ["stream", "table"]) F__law_as_rows o__law_as_rows G__law_as_rows (fun _ _ _ _ _ _ us hl => match us, hl with | [_, _], _ => rfl) (fun _ _ _ _ _ _ us hl => match us, hl with | [_, _], _ => rfl)
  clear o__law_as_rows
  have o__law_is_slant := ok__law_is_slant (P := P) (w := w) (mg := mg) (base := base) F__law_is_slant T c__law_is_fraction
  have c__law_is_slant := cal_mk (st := s__law_is_slant) (ps := ["thing"]) F__law_is_slant o__law_is_slant G__law_is_slant (fun _ _ _ _ _ _ us hl => match us, hl with | [_], _ => rfl) (fun _ _ _ _ _ _ us hl => match us, hl with | [_], _ => rfl)
  clear o__law_is_slant
  have o__law_spoiled_table := ok__law_spoiled_table (P := P) (w := w) (mg := mg) (base := base) F__law_spoiled_table T c__law_take
  have c__law_spoiled_table := cal_mk (st := s__law_spoiled_table) (ps := ["stream", "table"]) F__law_spoiled_table o__law_spoiled_table G__law_spoiled_table (fun _ _ _ _ _ _ us hl => match us, hl with | [_, _], _ => rfl) (fun _ _ _ _ _ _ us hl => match us, hl with | [_, _], _ => rfl)
  clear o__law_spoiled_table
  have o__law_spoiled_wish := ok__law_spoiled_wish (P := P) (w := w) (mg := mg) (base := base) F__law_spoiled_wish T c__law_take
  have c__law_spoiled_wish := cal_mk (st := s__law_spoiled_wish) (ps := ["stream", "wish"]) F__law_spoiled_wish o__law_spoiled_wish G__law_spoiled_wish (fun _ _ _ _ _ _ us hl => match us, hl with | [_, _], _ => rfl) (fun _ _ _ _ _ _ us hl => match us, hl with | [_, _], _ => rfl)
  clear o__law_spoiled_wish
  have o_minus := ok_minus (P := P) (w := w) (mg := mg) (base := base) F_minus T c_plus
  have c_minus := cal_mk (st := s_minus) (ps := ["one", "other"]) F_minus o_minus G_minus (fun _ _ _ _ _ _ us hl => match us, hl with | [_, _], _ => rfl) (fun _ _ _ _ _ _ us hl => match us, hl with | [_, _], _ => rfl)
  clear o_minus
  have o_is_angle_row := ok_is_angle_row (P := P) (w := w) (mg := mg) (base := base) F_is_angle_row T c_is_angles c_is_row
  have c_is_angle_row := cal_mk (st := s_is_angle_row) (ps := ["thing"]) F_is_angle_row o_is_angle_row G_is_angle_row (fun _ _ _ _ _ _ us hl => match us, hl with | [_], _ => rfl) (fun _ _ _ _ _ _ us hl => match us, hl with | [_], _ => rfl)
  clear o_is_angle_row
  have o__law_back := ok__law_back (P := P) (w := w) (mg := mg) (base := base) F__law_back T c__law_times
  have c__law_back := cal_mk (st := s__law_back) (ps := ["step"]) F__law_back o__law_back G__law_back (fun _ _ _ _ _ _ us hl => match us, hl with | [_], _ => rfl) (fun _ _ _ _ _ _ us hl => match us, hl with | [_], _ => rfl)
  clear o__law_back
  have o__law_half := ok__law_half (P := P) (w := w) (mg := mg) (base := base) F__law_half T c__law_add c__law_cross c__law_div c__law_dot
  have c__law_half := cal_mk (st := s__law_half) (ps := ["one", "other"]) F__law_half o__law_half G__law_half (fun _ _ _ _ _ _ us hl => match us, hl with | [_, _], _ => rfl) (fun _ _ _ _ _ _ us hl => match us, hl with | [_, _], _ => rfl)
  clear o__law_half
  have o__law_pair := ok__law_pair (P := P) (w := w) (mg := mg) (base := base) F__law_pair T c__law_slope c__law_take
  have c__law_pair := cal_mk (st := s__law_pair) (ps := ["stream"]) F__law_pair o__law_pair G__law_pair (fun _ _ _ _ _ _ us hl => match us, hl with | [_], _ => rfl) (fun _ _ _ _ _ _ us hl => match us, hl with | [_], _ => rfl)
  clear o__law_pair
  have o__law_new_slope := ok__law_new_slope (P := P) (w := w) (mg := mg) (base := base) F__law_new_slope T c__law_div c__law_neg c__law_turn
  have c__law_new_slope := cal_mk (st := s__law_new_slope) (ps := ["first", "second", "third"]) F__law_new_slope o__law_new_slope G__law_new_slope (fun _ _ _ _ _ _ us hl => match us, hl with | [_, _, _], _ => rfl) (fun _ _ _ _ _ _ us hl => match us, hl with | [_, _, _], _ => rfl)
  clear o__law_new_slope
  have o__law_mill := ok__law_mill (P := P) (w := w) (mg := mg) (base := base) F__law_mill T c__law_add c__law_div c__law_low c__law_mul c__law_slope c__law_sub c__law_take
  have c__law_mill := cal_mk (st := s__law_mill) (ps := ["stream"]) F__law_mill o__law_mill G__law_mill (fun _ _ _ _ _ _ us hl => match us, hl with | [_], _ => rfl) (fun _ _ _ _ _ _ us hl => match us, hl with | [_], _ => rfl)
  clear o__law_mill
  have o__law_closed := ok__law_closed (P := P) (w := w) (mg := mg) (base := base) F__law_closed T c__law_ray c__law_turn
  have c__law_closed := cal_mk (st := s__law_closed) (ps := ["quad"]) F__law_closed o__law_closed G__law_closed (fun _ _ _ _ _ _ us hl => match us, hl with | [_], _ => rfl) (fun _ _ _ _ _ _ us hl => match us, hl with | [_], _ => rfl)
  clear o__law_closed
  have o__law_four := ok__law_four (P := P) (w := w) (mg := mg) (base := base) F__law_four T c__law_fraction_pair c__law_neg
  have c__law_four := cal_mk (st := s__law_four) (ps := ["pair", "line"]) F__law_four o__law_four G__law_four (fun _ _ _ _ _ _ us hl => match us, hl with | [_, _], _ => rfl) (fun _ _ _ _ _ _ us hl => match us, hl with | [_, _], _ => rfl)
  clear o__law_four
  have o__law_is_table := ok__law_is_table (P := P) (w := w) (mg := mg) (base := base) F__law_is_table T c__law_is_slant
  have c__law_is_table := cal_mk (st := s__law_is_table) (ps := ["thing"]) F__law_is_table o__law_is_table G__law_is_table (fun _ _ _ _ _ _ us hl => match us, hl with | [_], _ => rfl) (fun _ _ _ _ _ _ us hl => match us, hl with | [_], _ => rfl)
  clear o__law_is_table
  have o__law_nudged := ok__law_nudged (P := P) (w := w) (mg := mg) (base := base) F__law_nudged T c__law_mul c__law_slope c__law_take
  have c__law_nudged := cal_mk (st := s__law_nudged) (ps := ["stream", "table"]) F__law_nudged o__law_nudged G__law_nudged (fun _ _ _ _ _ _ us hl => match us, hl with | [_, _], _ => rfl) (fun _ _ _ _ _ _ us hl => match us, hl with | [_, _], _ => rfl)
  clear o__law_nudged
  have o_is_table := ok_is_table (P := P) (w := w) (mg := mg) (base := base) F_is_table T c_is_angle_row c_is_row
  have c_is_table := cal_mk (st := s_is_table) (ps := ["thing"]) F_is_table o_is_table G_is_table (fun _ _ _ _ _ _ us hl => match us, hl with | [_], _ => rfl) (fun _ _ _ _ _ _ us hl => match us, hl with | [_], _ => rfl)
  clear o_is_table
  have o_cell_closes := ok_cell_closes (P := P) (w := w) (mg := mg) (base := base) F_cell_closes T c_minus c_plus c_product
  have c_cell_closes := cal_mk (st := s_cell_closes) (ps := ["corners"]) F_cell_closes o_cell_closes G_cell_closes (fun _ _ _ _ _ _ us hl => match us, hl with | [_], _ => rfl) (fun _ _ _ _ _ _ us hl => match us, hl with | [_], _ => rfl)
  clear o_cell_closes
  have o_pair_fractions := ok_pair_fractions (P := P) (w := w) (mg := mg) (base := base) F_pair_fractions T c_divided c_minus c_plus c_product
  have c_pair_fractions := cal_mk (st := s_pair_fractions) (ps := ["pair"]) F_pair_fractions o_pair_fractions G_pair_fractions (fun _ _ _ _ _ _ us hl => match us, hl with | [_], _ => rfl) (fun _ _ _ _ _ _ us hl => match us, hl with | [_], _ => rfl)
  clear o_pair_fractions
  have o__law_directions := ok__law_directions (P := P) (w := w) (mg := mg) (base := base) F__law_directions T c__law_back c__law_leaning c__law_neg c__law_take c__law_turn
  have c__law_directions := cal_mk (st := s__law_directions) (ps := ["stream", "across", "up", "bottom"]) F__law_directions o__law_directions G__law_directions (fun _ _ _ _ _ _ us hl => match us, hl with | [_, _, _, _], _ => rfl) (fun _ _ _ _ _ _ us hl => match us, hl with | [_, _, _, _], _ => rfl)
  clear o__law_directions
  have o__law_level_table := ok__law_level_table (P := P) (w := w) (mg := mg) (base := base) F__law_level_table T c__law_back c__law_half
  have c__law_level_table := cal_mk (st := s__law_level_table) (ps := ["leans", "columns"]) F__law_level_table o__law_level_table G__law_level_table (fun _ _ _ _ _ _ us hl => match us, hl with | [_, _], _ => rfl) (fun _ _ _ _ _ _ us hl => match us, hl with | [_, _], _ => rfl)
  clear o__law_level_table
  have o__law_free_table := ok__law_free_table (P := P) (w := w) (mg := mg) (base := base) F__law_free_table T c__law_new_slope c__law_pair c__law_slope
  have c__law_free_table := cal_mk (st := s__law_free_table) (ps := ["stream", "across", "up"]) F__law_free_table o__law_free_table G__law_free_table (fun _ _ _ _ _ _ us hl => match us, hl with | [_, _, _], _ => rfl) (fun _ _ _ _ _ _ us hl => match us, hl with | [_, _, _], _ => rfl)
  clear o__law_free_table
  have o__law_all_closed := ok__law_all_closed (P := P) (w := w) (mg := mg) (base := base) F__law_all_closed T c__law_closed c__law_quads
  have c__law_all_closed := cal_mk (st := s__law_all_closed) (ps := ["table"]) F__law_all_closed o__law_all_closed G__law_all_closed (fun _ _ _ _ _ _ us hl => match us, hl with | [_], _ => rfl) (fun _ _ _ _ _ _ us hl => match us, hl with | [_], _ => rfl)
  clear o__law_all_closed
  have o__law_rounds := ok__law_rounds (P := P) (w := w) (mg := mg) (base := base) F__law_rounds T c__law_four c__law_mul
  have c__law_rounds := cal_mk (st := s__law_rounds) (ps := ["quad", "lines"]) F__law_rounds o__law_rounds G__law_rounds (fun _ _ _ _ _ _ us hl => match us, hl with | [_, _], _ => rfl) (fun _ _ _ _ _ _ us hl => match us, hl with | [_, _], _ => rfl)
  clear o__law_rounds
  have o_check_table := ok_check_table (P := P) (w := w) (mg := mg) (base := base) F_check_table T c_is_table
  have c_check_table := cal_mk (st := s_check_table) (ps := ["table"]) F_check_table o_check_table G_check_table (fun _ _ _ _ _ _ us hl => match us, hl with | [_], _ => rfl) (fun _ _ _ _ _ _ us hl => match us, hl with | [_], _ => rfl)
  clear o_check_table
  have o_all_close := ok_all_close (P := P) (w := w) (mg := mg) (base := base) F_all_close T c_cell_closes c_cell_corners c_cells_of
  have c_all_close := cal_mk (st := s_all_close) (ps := ["table"]) F_all_close o_all_close G_all_close (fun _ _ _ _ _ _ us hl => match us, hl with | [_], _ => rfl) (fun _ _ _ _ _ _ us hl => match us, hl with | [_], _ => rfl)
  clear o_all_close
  have o_told_line := ok_told_line (P := P) (w := w) (mg := mg) (base := base) F_told_line T c_first_line c_pair_fractions c_second_line
  have c_told_line := cal_mk (st := s_told_line) (ps := ["pair", "line"]) F_told_line o_told_line G_told_line (fun _ _ _ _ _ _ us hl => match us, hl with | [_, _], _ => rfl) (fun _ _ _ _ _ _ us hl => match us, hl with | [_, _], _ => rfl)
  clear o_told_line
  have o_told_fraction := ok_told_fraction (P := P) (w := w) (mg := mg) (base := base) F_told_fraction T c_pair_fractions
  have c_told_fraction := cal_mk (st := s_told_fraction) (ps := ["pair", "line"]) F_told_fraction o_told_fraction G_told_fraction (fun _ _ _ _ _ _ us hl => match us, hl with | [_, _], _ => rfl) (fun _ _ _ _ _ _ us hl => match us, hl with | [_, _], _ => rfl)
  clear o_told_fraction
  have o__law_table := ok__law_table (P := P) (w := w) (mg := mg) (base := base) F__law_table T c__law_directions c__law_free_table c__law_level_table c__law_mill c__law_take
  have c__law_table := cal_mk (st := s__law_table) (ps := ["stream", "most"]) F__law_table o__law_table G__law_table (fun _ _ _ _ _ _ us hl => match us, hl with | [_, _], _ => rfl) (fun _ _ _ _ _ _ us hl => match us, hl with | [_, _], _ => rfl)
  clear o__law_table
  have o__law_kept := ok__law_kept (P := P) (w := w) (mg := mg) (base := base) F__law_kept T c__law_closed c__law_fraction_pair c__law_quads c__law_rounds
  have c__law_kept := cal_mk (st := s__law_kept) (ps := ["table", "wish"]) F__law_kept o__law_kept G__law_kept (fun _ _ _ _ _ _ us hl => match us, hl with | [_, _], _ => rfl) (fun _ _ _ _ _ _ us hl => match us, hl with | [_, _], _ => rfl)
  clear o__law_kept
  have o_fits_together := ok_fits_together (P := P) (w := w) (mg := mg) (base := base) F_fits_together T c_all_close c_check_table
  have c_fits_together := cal_mk (st := s_fits_together) (ps := ["table"]) F_fits_together o_fits_together G_fits_together (fun _ _ _ _ _ _ us hl => match us, hl with | [_], _ => rfl) (fun _ _ _ _ _ _ us hl => match us, hl with | [_], _ => rfl)
  clear o_fits_together
  have o_quotient_of := ok_quotient_of (P := P) (w := w) (mg := mg) (base := base) F_quotient_of T c_divided c_told_line
  have c_quotient_of := cal_mk (st := s_quotient_of) (ps := ["pair", "line", "later", "ahead"]) F_quotient_of o_quotient_of G_quotient_of (fun _ _ _ _ _ _ us hl => match us, hl with | [_, _, _, _], _ => rfl) (fun _ _ _ _ _ _ us hl => match us, hl with | [_, _, _, _], _ => rfl)
  clear o_quotient_of
  have o__law_is_right := ok__law_is_right (P := P) (w := w) (mg := mg) (base := base) F__law_is_right T c__law_is_table c__law_is_wish c__law_kept
  have c__law_is_right := cal_mk (st := s__law_is_right) (ps := ["table", "wish", "told", "word"]) F__law_is_right o__law_is_right G__law_is_right (fun _ _ _ _ _ _ us hl => match us, hl with | [_, _, _, _], _ => rfl) (fun _ _ _ _ _ _ us hl => match us, hl with | [_, _, _, _], _ => rfl)
  clear o__law_is_right
  have o_three_product := ok_three_product (P := P) (w := w) (mg := mg) (base := base) F_three_product T c_product c_quotient_of
  have c_three_product := cal_mk (st := s_three_product) (ps := ["corners", "lines"]) F_three_product o_three_product G_three_product (fun _ _ _ _ _ _ us hl => match us, hl with | [_, _], _ => rfl) (fun _ _ _ _ _ _ us hl => match us, hl with | [_, _], _ => rfl)
  clear o_three_product
  have o__law_fitting_told := ok__law_fitting_told (P := P) (w := w) (mg := mg) (base := base) F__law_fitting_told T c_fits_together
  have c__law_fitting_told := cal_mk (st := s__law_fitting_told) (ps := ["table"]) F__law_fitting_told o__law_fitting_told G__law_fitting_told (fun _ _ _ _ _ _ us hl => match us, hl with | [_], _ => rfl) (fun _ _ _ _ _ _ us hl => match us, hl with | [_], _ => rfl)
  clear o__law_fitting_told
  have o_cell_comes_out := ok_cell_comes_out (P := P) (w := w) (mg := mg) (base := base) F_cell_comes_out T c_product c_quotient_of c_three_product
  have c_cell_comes_out := cal_mk (st := s_cell_comes_out) (ps := ["corners", "lines"]) F_cell_comes_out o_cell_comes_out G_cell_comes_out (fun _ _ _ _ _ _ us hl => match us, hl with | [_, _], _ => rfl) (fun _ _ _ _ _ _ us hl => match us, hl with | [_, _], _ => rfl)
  clear o_cell_comes_out
  have o_is_fulfilled := ok_is_fulfilled (P := P) (w := w) (mg := mg) (base := base) F_is_fulfilled T c_all_close c_cell_comes_out c_cell_corners c_cells_of c_told_fraction
  have c_is_fulfilled := cal_mk (st := s_is_fulfilled) (ps := ["table", "wish"]) F_is_fulfilled o_is_fulfilled G_is_fulfilled (fun _ _ _ _ _ _ us hl => match us, hl with | [_, _], _ => rfl) (fun _ _ _ _ _ _ us hl => match us, hl with | [_, _], _ => rfl)
  clear o_is_fulfilled
  have o_fulfils := ok_fulfils (P := P) (w := w) (mg := mg) (base := base) F_fulfils T c_check_table c_is_fulfilled c_is_wish
  have c_fulfils := cal_mk (st := s_fulfils) (ps := ["table", "wish"]) F_fulfils o_fulfils G_fulfils (fun _ _ _ _ _ _ us hl => match us, hl with | [_, _], _ => rfl) (fun _ _ _ _ _ _ us hl => match us, hl with | [_, _], _ => rfl)
  clear o_fulfils
  have o__law_fulfilled_told := ok__law_fulfilled_told (P := P) (w := w) (mg := mg) (base := base) F__law_fulfilled_told T c_fulfils
  have c__law_fulfilled_told := cal_mk (st := s__law_fulfilled_told) (ps := ["table", "wish"]) F__law_fulfilled_told o__law_fulfilled_told G__law_fulfilled_told (fun _ _ _ _ _ _ us hl => match us, hl with | [_, _], _ => rfl) (fun _ _ _ _ _ _ us hl => match us, hl with | [_, _], _ => rfl)
  clear o__law_fulfilled_told
  exact ok_law (P := P) (w := w) (base := base) F_law T c__law_stream c__law_all_closed c__law_as_rows c__law_fitting_told c__law_fulfilled_told c__law_is_right c__law_is_table c__law_nudged c__law_spoiled_table c__law_spoiled_wish c__law_table c__law_take c__law_wish
theorem fnOk_calm {P : Program} {w : World} {K : PySem.W.Frag} {mg : Str → Option Value} {base : Heap} {k : Nat} {f : Addr} {fd : FuncData} {ps : List Str} {sp : Sp} (F : FnOk P w K mg base (L2.CX P w) k f fd ps sp)
    (h : ∀ vs H Q E, sp vs H Q E → sp vs H Q fun _ _ _ => False) : FnOk P w K mg base C8.CX0 k f fd ps sp := by
  refine ⟨F.len, fun A outer s H args us vs Q E hr he hb hv hs => codeAny_mono (F.run A outer s H args us vs Q (fun _ _ _ => False) hr he hb hv (h _ _ _ _ hs)) fun r s' hq => ?_⟩
  cases r with
  | error e =>
    have hq2 : L2.CX P w outer H s (fun _ _ _ => False) e s' := hq
    obtain ⟨_, _, _, _, _, _, _, _, _, _, _, _, z⟩ := hq2
    exact z.elim
  | ok fl => cases fl <;> exact hq
end X85
end
section
open PySem PySem.W PySem.Calls PyProof.Rows
theorem PySem.Challenge.cw_creasehall_k85_tables_that_fit_and_fulfi_holds : PySem.Challenge.rw_creasehall_k85_tables_that_fit_and_fulfi.Holds := by
  refine X85.head_of ?hc
  case hc =>
    refine L2.walk_ofE (l := PySem.Challenge.rw_creasehall_k85_tables_that_fit_and_fulfi) (n := 63) (k := 13) (x := "script") (CX := C8.CX0) rfl (by decide) (by kernel_rfl) ⟨rfl, by decide, by decide⟩ ?F (fun _ _ _ _ z => z)
    intro w mg fa h Y G hmg0
    obtain ⟨K, KX, c⟩ := Y
    have hmg : mg ("law" : PySem.Str) = some (.ref fa) := by
      have e : (HandSHeadRun.topDef (OpenLaw.row PySem.Challenge.rw_creasehall_k85_tables_that_fit_and_fulfi).prog 91).name = ("law" : PySem.Str) := by kernel_rfl
      rw [← e]
      exact hmg0
    obtain ⟨fd, hb, hF⟩ := X85.factsL (P := (PySem.Challenge.rw_creasehall_k85_tables_that_fit_and_fulfi).prog) (w := w) KX G hmg c
    exact ⟨K, fd, X85.spLaw K, KX, hb, fun H a ns hl _ hS => ⟨a, ns, rfl, hS, fun _ => rfl⟩, fun base i g => X85.fnOk_calm (hF base i g) fun vs H Q E z => z⟩
