import PyProof.Rows.All
import Wide.All
import OpenK.AllK
import Wide.FinOn
import KE.KStateDown
import Lean
import HandS.ForMost
import HandS.WordsExc
import HandS.Defaults
import HandS.Head0
import HandS.Head1
import HandS.Head2
import HandS.HeadEnd
import HandS.HeadHook1
import HandS.HeadHook2
import HandS.HeadHook3
import HandS.HeadHook4
import PySem.Challenge.RW_bentplane_k19_whole_just_as_many_of_each
import HandS.Evl
import HandS.Walk
import HandS.Zip
import HandS.TupAny
import HandS.Style
import HandS.Wide
import HandS.IsInst
import HandS.TupMul
import HandS.SetFor
import HandS.Conv
import KE.GoesNew
import KE.KIndexOf
import KE.GoesMore
import KE.GoesEnum
import KE.KeyNested
import KE.KDictKeyed
import HandS.TupSets
import KE.KDictPairs
import KE.KDictDisplayH
import HandS.Dict
import KE.SortData
import HandS.Iter
/-! TEXT K19Head -/
set_option Elab.async false
set_option linter.all false
set_option maxRecDepth 100000
set_option maxHeartbeats 0
namespace K19
open PySem PySem.Spec PyProof.Rows L2
def top (i : Nat) : Stmt := PySem.Challenge.pw_bentplane_k19_whole_just_as_many_of_each.main.body.getD i (.Pass ⟨0, 0, 0, 0⟩)
abbrev s_is_integer : Stmt := top 2
abbrev s_characteristic : Stmt := top 3
abbrev s_is_number : Stmt := top 4
abbrev s_plus : Stmt := top 5
abbrev s_opposite : Stmt := top 6
abbrev s_minus : Stmt := top 7
abbrev s_times : Stmt := top 8
abbrev s_power : Stmt := top 9
abbrev s_inverse : Stmt := top 10
abbrev s_multiple : Stmt := top 11
abbrev s_are_numbers : Stmt := top 16
abbrev s_trimmed : Stmt := top 17
abbrev s_is_one_letter : Stmt := top 18
abbrev s_one_plus : Stmt := top 19
abbrev s_one_opposite : Stmt := top 20
abbrev s_one_scaled : Stmt := top 21
abbrev s_one_times : Stmt := top 22
abbrev s_one_put : Stmt := top 23
abbrev s_dict_of : Stmt := top 25
abbrev s_poly_of : Stmt := top 26
abbrev s_add_poly : Stmt := top 27
abbrev s_sum_poly : Stmt := top 28
abbrev s_product_poly : Stmt := top 29
abbrev s_powers_poly : Stmt := top 30
abbrev s_put_poly : Stmt := top 31
abbrev s_map_pair : Stmt := top 32
abbrev s_bend_pair : Stmt := top 33
abbrev s_slope : Stmt := top 35
abbrev s_pair_then : Stmt := top 37
abbrev s_determinant : Stmt := top 38
abbrev s_map_determinant : Stmt := top 39
abbrev s_is_straight : Stmt := top 40
abbrev s_is_bend : Stmt := top 41
abbrev s_turn_map : Stmt := top 45
abbrev s_sum_of_products : Stmt := top 46
abbrev s_straight_then : Stmt := top 47
abbrev s_straight_back : Stmt := top 48
abbrev s_split_map : Stmt := top 49
abbrev s_bend_through : Stmt := top 50
abbrev s_turned_map : Stmt := top 51
abbrev s_with_straight : Stmt := top 52
abbrev s_with_bend : Stmt := top 53
abbrev s_with_pieces : Stmt := top 54
abbrev s_pieces_of : Stmt := top 55
abbrev s_then : Stmt := top 56
abbrev s_back : Stmt := top 57
abbrev s_are_bends : Stmt := top 58
abbrev s_are_turns : Stmt := top 59
abbrev s_is_start : Stmt := top 60
abbrev s_is_step_value : Stmt := top 61
abbrev s_check_step : Stmt := top 62
abbrev s_many_straight : Stmt := top 64
abbrev s_many_bends : Stmt := top 65
abbrev s_many_steps : Stmt := top 66
abbrev s_many_with : Stmt := top 67
abbrev s_seconds : Stmt := top 68
abbrev s_map_at : Stmt := top 69
abbrev s_bend_at : Stmt := top 70
abbrev s_step_at : Stmt := top 71
abbrev s_pair_of_row : Stmt := top 73
abbrev s_product : Stmt := top 75
abbrev s_undoing : Stmt := top 76
abbrev s_bend_degrees : Stmt := top 77
abbrev s_degrees_of : Stmt := top 78
abbrev s_step_determinant : Stmt := top 79
abbrev s_determinant_of : Stmt := top 80
abbrev s_pair_of : Stmt := top 81
abbrev s_law_deck : Stmt := top 83
abbrev s_law_draw : Stmt := top 84
abbrev s_law_pick : Stmt := top 85
abbrev s_law_far : Stmt := top 86
abbrev s_law_field : Stmt := top 87
abbrev s_law_powers : Stmt := top 88
abbrev s_law_plus : Stmt := top 89
abbrev s_law_by : Stmt := top 90
abbrev s_law_less : Stmt := top 91
abbrev s_law_under : Stmt := top 92
abbrev s_law_cross : Stmt := top 93
abbrev s_law_map : Stmt := top 94
abbrev s_law_bend : Stmt := top 95
abbrev s_law_step : Stmt := top 96
abbrev s_law_is_number : Stmt := top 97
abbrev s_law_is_bend : Stmt := top 98
abbrev s_law_is_map : Stmt := top 99
abbrev s_law_is_step : Stmt := top 100
abbrev s_law_same : Stmt := top 101
abbrev s_law_size : Stmt := top 102
abbrev s_law_told : Stmt := top 103
abbrev s_law_is_block : Stmt := top 104
abbrev s_law_is_moved : Stmt := top 105
abbrev s_law : Stmt := top 106
def d_is_integer : He.DefD := ⟨("is_integer", none), "is_integer", "is_integer", defArgs s_is_integer, defBody s_is_integer, defScope s_is_integer, [], []⟩
def d_characteristic : He.DefD := ⟨("characteristic", none), "characteristic", "characteristic", defArgs s_characteristic, defBody s_characteristic, defScope s_characteristic, [], []⟩
def d_is_number : He.DefD := ⟨("is_number", none), "is_number", "is_number", defArgs s_is_number, defBody s_is_number, defScope s_is_number, [], []⟩
def d_plus : He.DefD := ⟨("plus", none), "plus", "plus", defArgs s_plus, defBody s_plus, defScope s_plus, [], []⟩
def d_opposite : He.DefD := ⟨("opposite", none), "opposite", "opposite", defArgs s_opposite, defBody s_opposite, defScope s_opposite, [], []⟩
def d_minus : He.DefD := ⟨("minus", none), "minus", "minus", defArgs s_minus, defBody s_minus, defScope s_minus, [], []⟩
def d_times : He.DefD := ⟨("times", none), "times", "times", defArgs s_times, defBody s_times, defScope s_times, [], []⟩
def d_power : He.DefD := ⟨("power", none), "power", "power", defArgs s_power, defBody s_power, defScope s_power, [], []⟩
def d_inverse : He.DefD := ⟨("inverse", none), "inverse", "inverse", defArgs s_inverse, defBody s_inverse, defScope s_inverse, [], []⟩
def d_multiple : He.DefD := ⟨("multiple", none), "multiple", "multiple", defArgs s_multiple, defBody s_multiple, defScope s_multiple, [], []⟩
def d_are_numbers : He.DefD := ⟨("are_numbers", none), "are_numbers", "are_numbers", defArgs s_are_numbers, defBody s_are_numbers, defScope s_are_numbers, [], []⟩
def d_trimmed : He.DefD := ⟨("trimmed", none), "trimmed", "trimmed", defArgs s_trimmed, defBody s_trimmed, defScope s_trimmed, [], []⟩
def d_is_one_letter : He.DefD := ⟨("is_one_letter", none), "is_one_letter", "is_one_letter", defArgs s_is_one_letter, defBody s_is_one_letter, defScope s_is_one_letter, [], []⟩
def d_one_plus : He.DefD := ⟨("one_plus", none), "one_plus", "one_plus", defArgs s_one_plus, defBody s_one_plus, defScope s_one_plus, [], []⟩
def d_one_opposite : He.DefD := ⟨("one_opposite", none), "one_opposite", "one_opposite", defArgs s_one_opposite, defBody s_one_opposite, defScope s_one_opposite, [], []⟩
def d_one_scaled : He.DefD := ⟨("one_scaled", none), "one_scaled", "one_scaled", defArgs s_one_scaled, defBody s_one_scaled, defScope s_one_scaled, [], []⟩
def d_one_times : He.DefD := ⟨("one_times", none), "one_times", "one_times", defArgs s_one_times, defBody s_one_times, defScope s_one_times, [], []⟩
def d_one_put : He.DefD := ⟨("one_put", none), "one_put", "one_put", defArgs s_one_put, defBody s_one_put, defScope s_one_put, [], []⟩
def d_dict_of : He.DefD := ⟨("dict_of", none), "dict_of", "dict_of", defArgs s_dict_of, defBody s_dict_of, defScope s_dict_of, [], []⟩
def d_poly_of : He.DefD := ⟨("poly_of", none), "poly_of", "poly_of", defArgs s_poly_of, defBody s_poly_of, defScope s_poly_of, [], []⟩
def d_add_poly : He.DefD := ⟨("add_poly", none), "add_poly", "add_poly", defArgs s_add_poly, defBody s_add_poly, defScope s_add_poly, [], []⟩
def d_sum_poly : He.DefD := ⟨("sum_poly", none), "sum_poly", "sum_poly", defArgs s_sum_poly, defBody s_sum_poly, defScope s_sum_poly, [], []⟩
def d_product_poly : He.DefD := ⟨("product_poly", none), "product_poly", "product_poly", defArgs s_product_poly, defBody s_product_poly, defScope s_product_poly, [], []⟩
def d_powers_poly : He.DefD := ⟨("powers_poly", none), "powers_poly", "powers_poly", defArgs s_powers_poly, defBody s_powers_poly, defScope s_powers_poly, [], []⟩
def d_put_poly : He.DefD := ⟨("put_poly", none), "put_poly", "put_poly", defArgs s_put_poly, defBody s_put_poly, defScope s_put_poly, [], []⟩
def d_map_pair : He.DefD := ⟨("map_pair", none), "map_pair", "map_pair", defArgs s_map_pair, defBody s_map_pair, defScope s_map_pair, [], []⟩
def d_bend_pair : He.DefD := ⟨("bend_pair", none), "bend_pair", "bend_pair", defArgs s_bend_pair, defBody s_bend_pair, defScope s_bend_pair, [], []⟩
def d_slope : He.DefD := ⟨("slope", none), "slope", "slope", defArgs s_slope, defBody s_slope, defScope s_slope, [], []⟩
def d_pair_then : He.DefD := ⟨("pair_then", none), "pair_then", "pair_then", defArgs s_pair_then, defBody s_pair_then, defScope s_pair_then, [], []⟩
def d_determinant : He.DefD := ⟨("determinant", none), "determinant", "determinant", defArgs s_determinant, defBody s_determinant, defScope s_determinant, [], []⟩
def d_map_determinant : He.DefD := ⟨("map_determinant", none), "map_determinant", "map_determinant", defArgs s_map_determinant, defBody s_map_determinant, defScope s_map_determinant, [], []⟩
def d_is_straight : He.DefD := ⟨("is_straight", none), "is_straight", "is_straight", defArgs s_is_straight, defBody s_is_straight, defScope s_is_straight, [], []⟩
def d_is_bend : He.DefD := ⟨("is_bend", none), "is_bend", "is_bend", defArgs s_is_bend, defBody s_is_bend, defScope s_is_bend, [], []⟩
def d_turn_map : He.DefD := ⟨("turn_map", none), "turn_map", "turn_map", defArgs s_turn_map, defBody s_turn_map, defScope s_turn_map, [], []⟩
def d_sum_of_products : He.DefD := ⟨("sum_of_products", none), "sum_of_products", "sum_of_products", defArgs s_sum_of_products, defBody s_sum_of_products, defScope s_sum_of_products, [], []⟩
def d_straight_then : He.DefD := ⟨("straight_then", none), "straight_then", "straight_then", defArgs s_straight_then, defBody s_straight_then, defScope s_straight_then, [], []⟩
def d_straight_back : He.DefD := ⟨("straight_back", none), "straight_back", "straight_back", defArgs s_straight_back, defBody s_straight_back, defScope s_straight_back, [], []⟩
def d_split_map : He.DefD := ⟨("split_map", none), "split_map", "split_map", defArgs s_split_map, defBody s_split_map, defScope s_split_map, [], []⟩
def d_bend_through : He.DefD := ⟨("bend_through", none), "bend_through", "bend_through", defArgs s_bend_through, defBody s_bend_through, defScope s_bend_through, [], []⟩
def d_turned_map : He.DefD := ⟨("turned_map", none), "turned_map", "turned_map", defArgs s_turned_map, defBody s_turned_map, defScope s_turned_map, [], []⟩
def d_with_straight : He.DefD := ⟨("with_straight", none), "with_straight", "with_straight", defArgs s_with_straight, defBody s_with_straight, defScope s_with_straight, [], []⟩
def d_with_bend : He.DefD := ⟨("with_bend", none), "with_bend", "with_bend", defArgs s_with_bend, defBody s_with_bend, defScope s_with_bend, [], []⟩
def d_with_pieces : He.DefD := ⟨("with_pieces", none), "with_pieces", "with_pieces", defArgs s_with_pieces, defBody s_with_pieces, defScope s_with_pieces, [], []⟩
def d_pieces_of : He.DefD := ⟨("pieces_of", none), "pieces_of", "pieces_of", defArgs s_pieces_of, defBody s_pieces_of, defScope s_pieces_of, [], []⟩
def d_then : He.DefD := ⟨("then", none), "then", "then", defArgs s_then, defBody s_then, defScope s_then, [], []⟩
def d_back : He.DefD := ⟨("back", none), "back", "back", defArgs s_back, defBody s_back, defScope s_back, [], []⟩
def d_are_bends : He.DefD := ⟨("are_bends", none), "are_bends", "are_bends", defArgs s_are_bends, defBody s_are_bends, defScope s_are_bends, [], []⟩
def d_are_turns : He.DefD := ⟨("are_turns", none), "are_turns", "are_turns", defArgs s_are_turns, defBody s_are_turns, defScope s_are_turns, [], []⟩
def d_is_start : He.DefD := ⟨("is_start", none), "is_start", "is_start", defArgs s_is_start, defBody s_is_start, defScope s_is_start, [], []⟩
def d_is_step_value : He.DefD := ⟨("is_step_value", none), "is_step_value", "is_step_value", defArgs s_is_step_value, defBody s_is_step_value, defScope s_is_step_value, [], []⟩
def d_check_step : He.DefD := ⟨("check_step", none), "check_step", "check_step", defArgs s_check_step, defBody s_check_step, defScope s_check_step, [], []⟩
def d_many_straight : He.DefD := ⟨("many_straight", none), "many_straight", "many_straight", defArgs s_many_straight, defBody s_many_straight, defScope s_many_straight, [], []⟩
def d_many_bends : He.DefD := ⟨("many_bends", none), "many_bends", "many_bends", defArgs s_many_bends, defBody s_many_bends, defScope s_many_bends, [], []⟩
def d_many_steps : He.DefD := ⟨("many_steps", none), "many_steps", "many_steps", defArgs s_many_steps, defBody s_many_steps, defScope s_many_steps, [], []⟩
def d_many_with : He.DefD := ⟨("many_with", none), "many_with", "many_with", defArgs s_many_with, defBody s_many_with, defScope s_many_with, [], []⟩
def d_seconds : He.DefD := ⟨("seconds", none), "seconds", "seconds", defArgs s_seconds, defBody s_seconds, defScope s_seconds, [], []⟩
def d_map_at : He.DefD := ⟨("map_at", none), "map_at", "map_at", defArgs s_map_at, defBody s_map_at, defScope s_map_at, [], []⟩
def d_bend_at : He.DefD := ⟨("bend_at", none), "bend_at", "bend_at", defArgs s_bend_at, defBody s_bend_at, defScope s_bend_at, [], []⟩
def d_step_at : He.DefD := ⟨("step_at", none), "step_at", "step_at", defArgs s_step_at, defBody s_step_at, defScope s_step_at, [], []⟩
def d_pair_of_row : He.DefD := ⟨("pair_of_row", none), "pair_of_row", "pair_of_row", defArgs s_pair_of_row, defBody s_pair_of_row, defScope s_pair_of_row, [], []⟩
def d_product : He.DefD := ⟨("product", none), "product", "product", defArgs s_product, defBody s_product, defScope s_product, [], []⟩
def d_undoing : He.DefD := ⟨("undoing", none), "undoing", "undoing", defArgs s_undoing, defBody s_undoing, defScope s_undoing, [], []⟩
def d_bend_degrees : He.DefD := ⟨("bend_degrees", none), "bend_degrees", "bend_degrees", defArgs s_bend_degrees, defBody s_bend_degrees, defScope s_bend_degrees, [], []⟩
def d_degrees_of : He.DefD := ⟨("degrees_of", none), "degrees_of", "degrees_of", defArgs s_degrees_of, defBody s_degrees_of, defScope s_degrees_of, [], []⟩
def d_step_determinant : He.DefD := ⟨("step_determinant", none), "step_determinant", "step_determinant", defArgs s_step_determinant, defBody s_step_determinant, defScope s_step_determinant, [], []⟩
def d_determinant_of : He.DefD := ⟨("determinant_of", none), "determinant_of", "determinant_of", defArgs s_determinant_of, defBody s_determinant_of, defScope s_determinant_of, [], []⟩
def d_pair_of : He.DefD := ⟨("pair_of", none), "pair_of", "pair_of", defArgs s_pair_of, defBody s_pair_of, defScope s_pair_of, [], []⟩
def d_law_deck : He.DefD := ⟨("_law_deck", none), "_law_deck", "_law_deck", defArgs s_law_deck, defBody s_law_deck, defScope s_law_deck, [], []⟩
def d_law_draw : He.DefD := ⟨("_law_draw", none), "_law_draw", "_law_draw", defArgs s_law_draw, defBody s_law_draw, defScope s_law_draw, [], []⟩
def d_law_pick : He.DefD := ⟨("_law_pick", none), "_law_pick", "_law_pick", defArgs s_law_pick, defBody s_law_pick, defScope s_law_pick, [], []⟩
def d_law_far : He.DefD := ⟨("_law_far", none), "_law_far", "_law_far", defArgs s_law_far, defBody s_law_far, defScope s_law_far, [], []⟩
def d_law_field : He.DefD := ⟨("_law_field", none), "_law_field", "_law_field", defArgs s_law_field, defBody s_law_field, defScope s_law_field, [], []⟩
def d_law_powers : He.DefD := ⟨("_law_powers", none), "_law_powers", "_law_powers", defArgs s_law_powers, defBody s_law_powers, defScope s_law_powers, [], []⟩
def d_law_plus : He.DefD := ⟨("_law_plus", none), "_law_plus", "_law_plus", defArgs s_law_plus, defBody s_law_plus, defScope s_law_plus, [], []⟩
def d_law_by : He.DefD := ⟨("_law_by", none), "_law_by", "_law_by", defArgs s_law_by, defBody s_law_by, defScope s_law_by, [], []⟩
def d_law_less : He.DefD := ⟨("_law_less", none), "_law_less", "_law_less", defArgs s_law_less, defBody s_law_less, defScope s_law_less, [], []⟩
def d_law_under : He.DefD := ⟨("_law_under", none), "_law_under", "_law_under", defArgs s_law_under, defBody s_law_under, defScope s_law_under, [], []⟩
def d_law_cross : He.DefD := ⟨("_law_cross", none), "_law_cross", "_law_cross", defArgs s_law_cross, defBody s_law_cross, defScope s_law_cross, [], []⟩
def d_law_map : He.DefD := ⟨("_law_map", none), "_law_map", "_law_map", defArgs s_law_map, defBody s_law_map, defScope s_law_map, [], []⟩
def d_law_bend : He.DefD := ⟨("_law_bend", none), "_law_bend", "_law_bend", defArgs s_law_bend, defBody s_law_bend, defScope s_law_bend, [], []⟩
def d_law_step : He.DefD := ⟨("_law_step", none), "_law_step", "_law_step", defArgs s_law_step, defBody s_law_step, defScope s_law_step, [], []⟩
def d_law_is_number : He.DefD := ⟨("_law_is_number", none), "_law_is_number", "_law_is_number", defArgs s_law_is_number, defBody s_law_is_number, defScope s_law_is_number, [], []⟩
def d_law_is_bend : He.DefD := ⟨("_law_is_bend", none), "_law_is_bend", "_law_is_bend", defArgs s_law_is_bend, defBody s_law_is_bend, defScope s_law_is_bend, [], []⟩
def d_law_is_map : He.DefD := ⟨("_law_is_map", none), "_law_is_map", "_law_is_map", defArgs s_law_is_map, defBody s_law_is_map, defScope s_law_is_map, [], []⟩
def d_law_is_step : He.DefD := ⟨("_law_is_step", none), "_law_is_step", "_law_is_step", defArgs s_law_is_step, defBody s_law_is_step, defScope s_law_is_step, [], []⟩
def d_law_same : He.DefD := ⟨("_law_same", none), "_law_same", "_law_same", defArgs s_law_same, defBody s_law_same, defScope s_law_same, [], []⟩
def d_law_size : He.DefD := ⟨("_law_size", none), "_law_size", "_law_size", defArgs s_law_size, defBody s_law_size, defScope s_law_size, [], []⟩
def d_law_told : He.DefD := ⟨("_law_told", none), "_law_told", "_law_told", defArgs s_law_told, defBody s_law_told, defScope s_law_told, [], []⟩
def d_law_is_block : He.DefD := ⟨("_law_is_block", none), "_law_is_block", "_law_is_block", defArgs s_law_is_block, defBody s_law_is_block, defScope s_law_is_block, [], []⟩
def d_law_is_moved : He.DefD := ⟨("_law_is_moved", none), "_law_is_moved", "_law_is_moved", defArgs s_law_is_moved, defBody s_law_is_moved, defScope s_law_is_moved, [], []⟩
def d_law : He.DefD := ⟨("law", none), "law", "law", defArgs s_law, defBody s_law, defScope s_law, [], []⟩
def fn0 : List He.DefD := [d_is_integer, d_characteristic, d_is_number, d_plus, d_opposite, d_minus, d_times, d_power, d_inverse, d_multiple, d_are_numbers, d_trimmed, d_is_one_letter, d_one_plus, d_one_opposite, d_one_scaled, d_one_times, d_one_put, d_dict_of, d_poly_of, d_add_poly, d_sum_poly, d_product_poly, d_powers_poly, d_put_poly, d_map_pair, d_bend_pair, d_slope, d_pair_then, d_determinant]
def fg0 : List He.Fa := [.glo "is_integer", .glo "characteristic", .glo "is_number", .glo "plus", .glo "opposite", .glo "minus", .glo "times", .glo "power", .glo "inverse", .glo "multiple", .glo "are_numbers", .glo "trimmed", .glo "is_one_letter", .glo "one_plus", .glo "one_opposite", .glo "one_scaled", .glo "one_times", .glo "one_put", .glo "dict_of", .glo "poly_of", .glo "add_poly", .glo "sum_poly", .glo "product_poly", .glo "powers_poly", .glo "put_poly", .glo "map_pair", .glo "bend_pair", .glo "slope", .glo "pair_then", .glo "determinant"]
def fn1 : List He.DefD := [d_map_determinant, d_is_straight, d_is_bend, d_turn_map, d_sum_of_products, d_straight_then, d_straight_back, d_split_map, d_bend_through, d_turned_map, d_with_straight, d_with_bend, d_with_pieces, d_pieces_of, d_then, d_back, d_are_bends, d_are_turns, d_is_start, d_is_step_value, d_check_step, d_many_straight, d_many_bends, d_many_steps, d_many_with, d_seconds, d_map_at, d_bend_at, d_step_at, d_pair_of_row]
def fg1 : List He.Fa := [.glo "map_determinant", .glo "is_straight", .glo "is_bend", .glo "turn_map", .glo "sum_of_products", .glo "straight_then", .glo "straight_back", .glo "split_map", .glo "bend_through", .glo "turned_map", .glo "with_straight", .glo "with_bend", .glo "with_pieces", .glo "pieces_of", .glo "then", .glo "back", .glo "are_bends", .glo "are_turns", .glo "is_start", .glo "is_step_value", .glo "check_step", .glo "many_straight", .glo "many_bends", .glo "many_steps", .glo "many_with", .glo "seconds", .glo "map_at", .glo "bend_at", .glo "step_at", .glo "pair_of_row"]
def fn2 : List He.DefD := [d_product, d_undoing, d_bend_degrees, d_degrees_of, d_step_determinant, d_determinant_of, d_pair_of, d_law_deck, d_law_draw, d_law_pick, d_law_far, d_law_field, d_law_powers, d_law_plus, d_law_by, d_law_less, d_law_under, d_law_cross, d_law_map, d_law_bend, d_law_step, d_law_is_number, d_law_is_bend, d_law_is_map, d_law_is_step, d_law_same, d_law_size, d_law_told, d_law_is_block, d_law_is_moved]
def fg2 : List He.Fa := [.glo "product", .glo "undoing", .glo "bend_degrees", .glo "degrees_of", .glo "step_determinant", .glo "determinant_of", .glo "pair_of", .glo "_law_deck", .glo "_law_draw", .glo "_law_pick", .glo "_law_far", .glo "_law_field", .glo "_law_powers", .glo "_law_plus", .glo "_law_by", .glo "_law_less", .glo "_law_under", .glo "_law_cross", .glo "_law_map", .glo "_law_bend", .glo "_law_step", .glo "_law_is_number", .glo "_law_is_bend", .glo "_law_is_map", .glo "_law_is_step", .glo "_law_same", .glo "_law_size", .glo "_law_told", .glo "_law_is_block", .glo "_law_is_moved"]
def fn3 : List He.DefD := [d_law]
def fg3 : List He.Fa := [.glo "law"]
def fn : List He.DefD := fn0 ++ fn1 ++ fn2 ++ fn3
def fr : List He.Fa := [.free "all", .free "bool", .free "dict", .free "enumerate", .free "int", .free "isinstance", .free "len", .free "list", .free "max", .free "range", .free "repr", .free "set", .free "sorted", .free "tuple", .free "zip"]
def fo : List He.Fa := [.glo "POWERS", .glo "NOTHING"]
def fa : List He.Fa := fg0 ++ fg1 ++ fg2 ++ fg3 ++ fo ++ fr
def ln0 : List PySem.Str := ["POWERS", "is_integer", "characteristic", "is_number", "plus", "opposite", "minus", "times", "power", "inverse", "multiple", "PlaneError", "BadStep", "are_numbers", "trimmed", "is_one_letter", "one_plus", "one_opposite", "one_scaled", "one_times", "one_put", "dict_of", "poly_of", "add_poly", "sum_poly", "product_poly", "powers_poly", "put_poly", "map_pair", "bend_pair"]
def ln1 : List PySem.Str := ["slope", "pair_then", "determinant", "map_determinant", "is_straight", "is_bend", "IDENTITY", "NOTHING", "turn_map", "sum_of_products", "straight_then", "straight_back", "split_map", "bend_through", "turned_map", "with_straight", "with_bend", "with_pieces", "pieces_of", "then", "back", "are_bends", "are_turns", "is_start", "is_step_value", "check_step", "many_straight", "many_bends", "many_steps", "many_with"]
def ln2 : List PySem.Str := ["seconds", "map_at", "bend_at", "step_at", "pair_of_row", "product", "undoing", "bend_degrees", "degrees_of", "step_determinant", "determinant_of", "pair_of", "_law_deck", "_law_draw", "_law_pick", "_law_far", "_law_field", "_law_powers", "_law_plus", "_law_by", "_law_less", "_law_under", "_law_cross", "_law_map", "_law_bend", "_law_step", "_law_is_number", "_law_is_bend", "_law_is_map", "_law_is_step"]
def ln3 : List PySem.Str := ["_law_same", "_law_size", "_law_told", "_law_is_block", "_law_is_moved"]
def loose : List PySem.Str := ln0 ++ ln1 ++ ln2 ++ ln3
def lawAt : Nat := 106
/-! what the top's tables hold -/
def tupA (K : PySem.W.Frag) (a : Addr) (ns : List Int) : Bool := match K.lookup a with
  | some ⟨.type c, none, .seq its _, _⟩ => decide (c = "tuple") && (decide (its.size ≤ sizeLine) && He.relAll (ns.map V.int) its.toList)
  | _ => false
def entA (K : PySem.W.Frag) : List DictEntry → List (Int × List Int) → Bool
  | [], [] => true
  | e :: es, (k, ns) :: r => decide (e.hash = hashInt k) && (Value.isInt k e.key && ((match e.val with
      | .ref a => tupA K a ns
      | _ => false) && entA K es r))
  | _, _ => false
def powT : List (Int × List Int) := [(4, [1, 2, 3]), (8, [1, 2, 4, 3, 6, 7, 5]), (9, [1, 3, 4, 7, 2, 6, 8, 5]), (16, [1, 2, 4, 8, 3, 6, 12, 11, 5, 10, 7, 14, 15, 13, 9])]
def powA (K : PySem.W.Frag) : Bool := match K.lookup (He.ga K "POWERS") with
  | some ⟨.type c, none, .dict es _, sl⟩ => decide (c = "dict") && (sl.isEmpty && ((He.ga K "POWERS" != sysModules) && entA K es.toList powT))
  | _ => false
def notA (K : PySem.W.Frag) : Bool := match K.lookup (He.ga K "NOTHING") with
  | some ⟨.type c, none, .seq its _, _⟩ => decide (c = "tuple") && (match its.toList with
      | [.int i _, .ref b, .ref t, .ref m] => decide (i = -1) && (tupA K b [] && (tupA K t [] && tupA K m [1, 0, 0, 0, 1, 0]))
      | _ => false)
  | _ => false
def exA (K : PySem.W.Frag) : Bool := powA K && notA K
/-! a hook of our own: the part of the heap that the top's names reach, laid out once -/
def frO {α : Type} (o : Option Obj) (k : Option Obj → α) : α := match o with
  | some ⟨c, d, .func f, sl⟩ => k (some ⟨c, d, .func f, sl⟩)
  | some ⟨c, d, .dict es n, sl⟩ => k (some ⟨c, d, .dict es n, sl⟩)
  | some ⟨c, d, .seq es n, sl⟩ => k (some ⟨c, d, .seq es n, sl⟩)
  | some ⟨c, d, .fields es, sl⟩ => k (some ⟨c, d, .fields es, sl⟩)
  | o => k o
theorem frO_eq {α : Type} (o : Option Obj) (k : Option Obj → α) : frO o k = k o := by
  cases o with
  | none => rfl
  | some o =>
    obtain ⟨c, d, dt, sl⟩ := o
    cases dt <;> rfl
def layK {α : Type} (g : Addr → Option Obj) : List Nat → List (Addr × Obj) → (List (Addr × Obj) → α) → α
  | [], acc, k => k acc
  | a :: l, acc, k => HandSHeadRun.frNat a fun a => frO (g a) fun o => match o with
    | some o => layK g l ((a, o) :: acc) k
    | none => layK g l acc k
def layF (g : Addr → Option Obj) : List Nat → List (Addr × Obj) → List (Addr × Obj)
  | [], acc => acc
  | a :: l, acc => match g a with
    | some o => layF g l ((a, o) :: acc)
    | none => layF g l acc
theorem layK_eq {α : Type} (g : Addr → Option Obj) (k : List (Addr × Obj) → α) : ∀ (l : List Nat) (acc : List (Addr × Obj)), layK g l acc k = k (layF g l acc)
  | [], _ => rfl
  | a :: l, acc => by
    unfold layK layF
    rw [HandSHeadRun.frNat_eq, frO_eq]
    cases g a with
    | none => exact layK_eq g k l acc
    | some o => exact layK_eq g k l _
theorem layF_in {g : Addr → Option Obj} : ∀ (l : List Nat) (acc : List (Addr × Obj)), (∀ p ∈ acc, g p.1 = some p.2) → ∀ p ∈ layF g l acc, g p.1 = some p.2
  | [], _, h => h
  | a :: l, acc, h => by
    unfold layF
    cases e : g a with
    | none => exact layF_in l acc h
    | some o =>
      refine layF_in l _ fun p hp => ?_
      rcases List.mem_cons.mp hp with rfl | hp
      · exact e
      · exact h p hp
def adrs (g : Addr → Option Obj) : List Nat := match g mainGlobals with
  | some ⟨_, _, .dict es _, _⟩ => (fun l1 : List Nat => (l1.flatMap fun a => match g a with
      | some ⟨_, _, .func fd, _⟩ => He.refV fd.code
      | some ⟨_, _, .seq its _, _⟩ => its.toList.flatMap He.refV
      | some ⟨_, _, .dict es _, _⟩ => if Nat.ble es.size 8 then es.toList.flatMap fun e => He.refV e.val else []
      | _ => []) ++ (l1.reverse ++ [mainGlobals])) (es.toList.flatMap fun e => He.refV e.val)
  | _ => []
abbrev AlK : Type := He.AlD × Bool
def obK (g : Addr → Option Obj) : AlK := layK g (adrs g) [] fun K => (He.obsD fa fn K, exA K)
theorem layF_sub {g : Addr → Option Obj} {h : Heap} (e : g = h.get?) (l : List Nat) : PySem.W.Frag.In (layF g l []) h := fun a o q => by
  rw [← e]
  exact layF_in l [] (fun p hp => (by cases hp)) (a, o) (He.lookup_mem q)
/-- what the head tells -/
structure Told (K : PySem.W.Frag) : Prop where
  d : He.SaysD fa fn K
  x : exA K = true
def hk : PySem.W.Hook where
  α := AlK
  obs := fun s => obK s.heap.get?
  val := fun _ => (He.valD fn, true)
  says := fun _ h => ∃ K : PySem.W.Frag, K.In h ∧ Told K
  of := fun _ s e => by
    have e' : (He.obsD fa fn (layF s.heap.get? (adrs s.heap.get?) []), exA (layF s.heap.get? (adrs s.heap.get?) [])) = (He.valD fn, true) := by
      rw [← e]
      exact (layK_eq s.heap.get? (fun K => (He.obsD fa fn K, exA K)) (adrs s.heap.get?) []).symm
    exact ⟨_, layF_sub rfl _, ⟨congrArg Prod.fst e', congrArg Prod.snd e'⟩⟩
  keeps := fun _ _ _ ⟨K, hK, c⟩ k => ⟨K, PySem.W.Frag.In.keeps hK k, c⟩
def ob (s : PySem.W.SharedT) : AlK := obK (HandSHeadRun.getT s)
theorem ob_eq (s : PySem.W.SharedT) : ob s = hk.obs s.abs := by
  have e : HandSHeadRun.getT s = s.abs.heap.get? := funext fun a => HandSHeadRun.getT_eq s a
  unfold ob
  rw [e]
  all_goals rfl
abbrev R : PySem.W.OpenRow := PySem.W.OpenLaw.row PySem.Challenge.rw_bentplane_k19_whole_just_as_many_of_each
end K19

/-! TEXT K19Run -/
set_option Elab.async false
set_option linter.all false
set_option maxRecDepth 100000
set_option maxHeartbeats 0
namespace K19
open PySem PySem.Spec PyProof.Rows L2
theorem runF (w : World) : HandSHeadRun.RunEq R (PySem.W.view R.prog [lawAt]) hk ob 4000 loose (w.withFollow "special-get-raises" false) := by
  intro os
  kernel_rfl
theorem runT (w : World) : HandSHeadRun.RunEq R (PySem.W.view R.prog [lawAt]) hk ob 4000 loose (w.withFollow "special-get-raises" true) := by
  intro os
  kernel_rfl
theorem run (w : World) : HandSHeadRun.RunEq R (PySem.W.view R.prog [lawAt]) hk ob 4000 loose w := PySem.W.byRow2 "special-get-raises" (P := fun w => HandSHeadRun.RunEq R (PySem.W.view R.prog [lawAt]) hk ob 4000 loose w) runF runT w
end K19

/-! TEXT K19F -/
set_option autoImplicit false
set_option maxRecDepth 100000
/-! THE TEN FIELDS, in plain Lean. -/
namespace K19
def powN (q : Nat) : List Nat :=
  if q = 4 then [1, 2, 3] else if q = 8 then [1, 2, 4, 3, 6, 7, 5] else if q = 9 then [1, 3, 4, 7, 2, 6, 8, 5] else if q = 16 then [1, 2, 4, 8, 3, 6, 12, 11, 5, 10, 7, 14, 15, 13, 9] else []
def plusN (q a b : Nat) : Nat := if q = 9 then (a / 3 + b / 3) % 3 * 3 + (a + b) % 3 else if q = 4 ∨ q = 8 ∨ q = 16 then a ^^^ b else (a + b) % q
def oppN (q a : Nat) : Nat := if q = 9 then (3 - a / 3) % 3 * 3 + (9 - a) % 3 else if q = 4 ∨ q = 8 ∨ q = 16 then a else (q - a) % q
def timesN (q a b : Nat) : Nat := if q = 4 ∨ q = 8 ∨ q = 9 ∨ q = 16 then (if a = 0 ∨ b = 0 then 0 else (powN q).getD (((powN q).idxOf a + (powN q).idxOf b) % (q - 1)) 0) else a * b % q
def charN (q : Nat) : Nat := if q % 2 = 0 then 2 else if q % 3 = 0 then 3 else q
def fields : List Nat := [2, 3, 4, 5, 7, 8, 9, 11, 13, 16]
def powF (q a : Nat) : Nat → Nat
  | 0 => 1
  | n + 1 => timesN q (powF q a n) a
/-- the laws of three, of two, of one -/
def ck3 (q : Nat) : Bool := (List.range q).all fun a => (List.range q).all fun b => (List.range q).all fun c =>
  Nat.beq (plusN q (plusN q a b) c) (plusN q a (plusN q b c)) && (Nat.beq (timesN q (timesN q a b) c) (timesN q a (timesN q b c)) && Nat.beq (timesN q a (plusN q b c)) (plusN q (timesN q a b) (timesN q a c)))
def ck2 (q : Nat) : Bool := (List.range q).all fun a => (List.range q).all fun b =>
  Nat.blt (plusN q a b) q && (Nat.blt (timesN q a b) q && (Nat.beq (plusN q a b) (plusN q b a) && Nat.beq (timesN q a b) (timesN q b a)))
def ck1 (q : Nat) : Bool := (List.range q).all fun a =>
  Nat.blt (oppN q a) q && (Nat.beq (plusN q a 0) a && (Nat.beq (timesN q a 1) a && (Nat.beq (timesN q a 0) 0 && (Nat.beq (plusN q (oppN q a) a) 0 && (Nat.beq a 0 || Nat.beq (timesN q a (powF q a (q - 2))) 1)))))
def ck0 (q : Nat) : Bool := (List.range (charN q)).all fun n => Nat.blt n q && Nat.beq ((n + 1) % charN q) (plusN q n 1)
theorem all3 : (fields.all fun q => ck3 q) = true := by decide +kernel
theorem all2 : (fields.all fun q => ck2 q && (ck1 q && ck0 q)) = true := by decide +kernel
/-- a field number -/
class Fld (q : Nat) : Prop where
  mem : q ∈ fields
/-- a number of the field -/
structure F (q : Nat) where
  v : Nat
  h : v < q
deriving DecidableEq
theorem F.ext' {q : Nat} {a b : F q} (h : a.v = b.v) : a = b := by
  obtain ⟨x, hx⟩ := a
  obtain ⟨y, hy⟩ := b
  have h : x = y := h
  subst h
  rfl
section
variable {q : Nat} [Fld q]
theorem fld_all {p : Nat → Bool} (h : fields.all p = true) : p q = true := List.all_eq_true.mp h q Fld.mem
theorem ba2 {a b : Bool} (h : (a && b) = true) : a = true ∧ b = true := by simpa using h
theorem ax3 {a b c : Nat} (ha : a < q) (hb : b < q) (hc : c < q) : plusN q (plusN q a b) c = plusN q a (plusN q b c) ∧ timesN q (timesN q a b) c = timesN q a (timesN q b c) ∧ timesN q a (plusN q b c) = plusN q (timesN q a b) (timesN q a c) := by
  have h := fld_all (q := q) all3
  have h := List.all_eq_true.mp h a (List.mem_range.mpr ha)
  have h := List.all_eq_true.mp h b (List.mem_range.mpr hb)
  have h := List.all_eq_true.mp h c (List.mem_range.mpr hc)
  obtain ⟨h1, h⟩ := ba2 h
  obtain ⟨h2, h3⟩ := ba2 h
  exact ⟨Nat.eq_of_beq_eq_true h1, Nat.eq_of_beq_eq_true h2, Nat.eq_of_beq_eq_true h3⟩
theorem ax2 {a b : Nat} (ha : a < q) (hb : b < q) : plusN q a b < q ∧ timesN q a b < q ∧ plusN q a b = plusN q b a ∧ timesN q a b = timesN q b a := by
  have h := (ba2 (fld_all (q := q) all2)).1
  have h := List.all_eq_true.mp h a (List.mem_range.mpr ha)
  have h := List.all_eq_true.mp h b (List.mem_range.mpr hb)
  obtain ⟨h1, h⟩ := ba2 h
  obtain ⟨h2, h⟩ := ba2 h
  obtain ⟨h3, h4⟩ := ba2 h
  exact ⟨Nat.le_of_ble_eq_true h1, Nat.le_of_ble_eq_true h2, Nat.eq_of_beq_eq_true h3, Nat.eq_of_beq_eq_true h4⟩
theorem ax1 {a : Nat} (ha : a < q) : oppN q a < q ∧ plusN q a 0 = a ∧ timesN q a 1 = a ∧ timesN q a 0 = 0 ∧ plusN q (oppN q a) a = 0 ∧ (a = 0 ∨ timesN q a (powF q a (q - 2)) = 1) := by
  have h := (ba2 (ba2 (fld_all (q := q) all2)).2).1
  have h := List.all_eq_true.mp h a (List.mem_range.mpr ha)
  obtain ⟨h1, h⟩ := ba2 h
  obtain ⟨h2, h⟩ := ba2 h
  obtain ⟨h3, h⟩ := ba2 h
  obtain ⟨h4, h⟩ := ba2 h
  obtain ⟨h5, h6⟩ := ba2 h
  refine ⟨Nat.le_of_ble_eq_true h1, Nat.eq_of_beq_eq_true h2, Nat.eq_of_beq_eq_true h3, Nat.eq_of_beq_eq_true h4, Nat.eq_of_beq_eq_true h5, ?_⟩
  cases e : Nat.beq a 0 with
  | true => exact .inl (Nat.eq_of_beq_eq_true e)
  | false =>
    rw [e] at h6
    exact .inr (Nat.eq_of_beq_eq_true h6)
theorem ax0 {n : Nat} (hn : n < charN q) : n < q ∧ (n + 1) % charN q = plusN q n 1 := by
  have h := (ba2 (ba2 (fld_all (q := q) all2)).2).2
  have h := List.all_eq_true.mp h n (List.mem_range.mpr hn)
  obtain ⟨h1, h2⟩ := ba2 h
  exact ⟨Nat.le_of_ble_eq_true h1, Nat.eq_of_beq_eq_true h2⟩
theorem q_bd : 2 ≤ q ∧ q ≤ 16 ∧ 1 < charN q := by
  have h : (fields.all fun q => Nat.ble 2 q && (Nat.ble q 16 && Nat.blt 1 (charN q))) = true := by decide
  have h := fld_all (q := q) h
  obtain ⟨h1, h⟩ := ba2 h
  obtain ⟨h2, h3⟩ := ba2 h
  exact ⟨Nat.le_of_ble_eq_true h1, Nat.le_of_ble_eq_true h2, Nat.le_of_ble_eq_true h3⟩
namespace F
def add (a b : F q) : F q := ⟨plusN q a.v b.v, (ax2 a.h b.h).1⟩
def mul (a b : F q) : F q := ⟨timesN q a.v b.v, (ax2 a.h b.h).2.1⟩
def neg (a : F q) : F q := ⟨oppN q a.v, (ax1 a.h).1⟩
def ofNat (n : Nat) : F q := ⟨n % charN q, (ax0 (q := q) (Nat.mod_lt n (Nat.lt_trans Nat.zero_lt_one (q_bd (q := q)).2.2))).1⟩
def npow (a : F q) : Nat → F q
  | 0 => ofNat 1
  | n + 1 => mul (npow a n) a
def ofInt : Int → F q
  | .ofNat n => ofNat n
  | .negSucc n => neg (ofNat (n + 1))
instance : Add (F q) := ⟨add⟩
instance : Mul (F q) := ⟨mul⟩
instance : Neg (F q) := ⟨neg⟩
instance : Sub (F q) := ⟨fun a b => add a (neg b)⟩
instance : NatCast (F q) := ⟨ofNat⟩
instance : IntCast (F q) := ⟨ofInt⟩
instance (n : Nat) : OfNat (F q) n := ⟨ofNat n⟩
instance : SMul Nat (F q) := ⟨fun n a => mul (ofNat n) a⟩
instance : SMul Int (F q) := ⟨fun n a => mul (ofInt n) a⟩
instance : HPow (F q) Nat (F q) := ⟨npow⟩
theorem zero_v : (0 : F q).v = 0 := Nat.zero_mod _
theorem one_v : (1 : F q).v = 1 := Nat.mod_eq_of_lt (q_bd (q := q)).2.2
theorem add_v (a b : F q) : (a + b).v = plusN q a.v b.v := rfl
theorem mul_v (a b : F q) : (a * b).v = timesN q a.v b.v := rfl
theorem neg_v (a : F q) : (-a).v = oppN q a.v := rfl
theorem add_comm' (a b : F q) : a + b = b + a := F.ext' (ax2 a.h b.h).2.2.1
theorem mul_comm' (a b : F q) : a * b = b * a := F.ext' (ax2 a.h b.h).2.2.2
theorem add_zero' (a : F q) : a + 0 = a := F.ext' (by rw [add_v, zero_v]; exact (ax1 a.h).2.1)
theorem mul_one' (a : F q) : a * 1 = a := F.ext' (by rw [mul_v, one_v]; exact (ax1 a.h).2.2.1)
theorem mul_zero' (a : F q) : a * 0 = 0 := F.ext' (by rw [mul_v, zero_v]; exact (ax1 a.h).2.2.2.1)
theorem neg_add' (a : F q) : -a + a = 0 := F.ext' (by rw [add_v, neg_v, zero_v]; exact (ax1 a.h).2.2.2.2.1)
theorem add_assoc' (a b c : F q) : a + b + c = a + (b + c) := F.ext' (ax3 a.h b.h c.h).1
theorem mul_assoc' (a b c : F q) : a * b * c = a * (b * c) := F.ext' (ax3 a.h b.h c.h).2.1
theorem mul_add' (a b c : F q) : a * (b + c) = a * b + a * c := F.ext' (ax3 a.h b.h c.h).2.2
theorem add_mul' (a b c : F q) : (a + b) * c = a * c + b * c := by rw [mul_comm', mul_add', mul_comm' c, mul_comm' c]
theorem ofNat_succ' (n : Nat) : (ofNat (n + 1) : F q) = ofNat n + 1 := F.ext' (by
  rw [add_v, one_v]
  show (n + 1) % charN q = plusN q (n % charN q) 1
  have h0 : 0 < charN q := Nat.lt_trans Nat.zero_lt_one (q_bd (q := q)).2.2
  rw [← (ax0 (q := q) (Nat.mod_lt n h0)).2]
  simp)
theorem neg_unique {a b : F q} (h : a + b = 0) : a = -b := by
  have h1 : a + b + -b = 0 + -b := by rw [h]
  rw [add_assoc', add_comm' b, neg_add', add_zero', add_comm' 0, add_zero'] at h1
  exact h1
theorem neg_zero' : (-0 : F q) = 0 := (neg_unique (add_zero' (0 : F q))).symm
theorem neg_neg' (a : F q) : - -a = a := (neg_unique (by rw [add_comm', neg_add'] : a + -a = 0)).symm
theorem neg_mul' (a b : F q) : -a * b = -(a * b) := neg_unique (by rw [← add_mul', neg_add', mul_comm', mul_zero'])
instance : Lean.Grind.CommRing (F q) where
  add_zero := add_zero'
  add_comm := add_comm'
  add_assoc := add_assoc'
  mul_assoc := mul_assoc'
  mul_one := mul_one'
  one_mul a := by rw [mul_comm', mul_one']
  left_distrib := mul_add'
  right_distrib := add_mul'
  zero_mul a := by rw [mul_comm', mul_zero']
  mul_zero := mul_zero'
  mul_comm := mul_comm'
  pow_zero _ := rfl
  pow_succ _ _ := rfl
  ofNat_succ n := ofNat_succ' n
  neg_add_cancel := neg_add'
  sub_eq_add_neg _ _ := rfl
  intCast_ofNat n := rfl
  intCast_neg i := by
    cases i with
    | ofNat n =>
      cases n with
      | zero => exact neg_zero'.symm
      | succ n => rfl
    | negSucc n => exact (neg_neg' _).symm
  neg_zsmul i a := by
    show mul (ofInt (-i)) a = neg (mul (ofInt i) a)
    have e : (ofInt (-i) : F q) = -(ofInt i) := by
      cases i with
      | ofNat n =>
        cases n with
        | zero => exact neg_zero'.symm
        | succ n => rfl
      | negSucc n => exact (neg_neg' _).symm
    rw [e]
    exact neg_mul' _ _
  zsmul_natCast_eq_nsmul n a := rfl
  ofNat_eq_natCast n := rfl
  nsmul_eq_natCast_mul n a := rfl
theorem pow_v (a : F q) : ∀ n : Nat, (a ^ n).v = powF q a.v n
  | 0 => one_v
  | n + 1 => by
    show (a ^ n * a).v = timesN q (powF q a.v n) a.v
    rw [mul_v, pow_v a n]
/-- the inverse -/
def inv (a : F q) : F q := a ^ (q - 2)
theorem mul_inv {a : F q} (h : a ≠ 0) : a * inv a = 1 := F.ext' (by
  rcases (ax1 a.h).2.2.2.2.2 with z | z
  · exact absurd (F.ext' (z.trans zero_v.symm)) h
  · rw [mul_v, one_v]
    unfold inv
    rw [pow_v]
    exact z)
theorem one_ne : (1 : F q) ≠ 0 := fun h => by
  have e : (1 : F q).v = (0 : F q).v := by rw [h]
  rw [one_v, zero_v] at e
  cases e
theorem mul_ne {a b : F q} (ha : a ≠ 0) (hb : b ≠ 0) : a * b ≠ 0 := fun h => by
  have e1 := mul_inv ha
  have e2 := mul_inv hb
  have : (1 : F q) = 0 := by grind
  exact one_ne this
theorem inv_ne {a : F q} (ha : a ≠ 0) : inv a ≠ 0 := fun h => by
  have e1 := mul_inv ha
  rw [h, mul_zero'] at e1
  exact one_ne e1.symm
theorem neg_ne {a : F q} (ha : a ≠ 0) : -a ≠ 0 := fun h => ha (by grind)
theorem ne_v {a : F q} : a ≠ 0 ↔ a.v ≠ 0 := ⟨fun h e => h (F.ext' (e.trans zero_v.symm)), fun h e => h (by rw [e, zero_v])⟩
theorem mul_cancel {a b c : F q} (ha : a ≠ 0) (h : a * b = a * c) : b = c := by
  have e1 := mul_inv ha
  have : inv a * (a * b) = inv a * (a * c) := by rw [h]
  grind
end F
end
end K19

/-! TEXT K19M1 -/
set_option autoImplicit false
set_option linter.all false
/-! PLAIN: polynomials in one letter, as lists of numbers. -/
namespace K19
section
variable {q : Nat} [Fld q]
instance : DecidableEq (F q) := fun a b => if h : a.v = b.v then .isTrue (F.ext' h) else .isFalse fun e => h (by rw [e])
abbrev co (f : List (F q)) (i : Nat) : F q := f.getD i 0
theorem co_some {f : List (F q)} {i : Nat} (h : i < f.length) : f[i]? = some (co f i) := by
  rw [List.getElem?_eq_getElem h]
  simp [co, List.getD_eq_getElem?_getD, List.getElem?_eq_getElem h]
theorem co_out {f : List (F q)} {i : Nat} (h : f.length ≤ i) : co f i = 0 := by
  simp [co, List.getD_eq_getElem?_getD, List.getElem?_eq_none h]
/-- how many stay behind the last that is not 0 -/
def szT (f : List (F q)) : Nat → Nat
  | 0 => 0
  | n + 1 => if co f n = 0 then szT f n else n + 1
def trim (f : List (F q)) : List (F q) := f.take (szT f f.length)
theorem szT_le (f : List (F q)) : ∀ n, szT f n ≤ n
  | 0 => Nat.le_refl 0
  | n + 1 => by
    unfold szT
    split
    · exact Nat.le_trans (szT_le f n) (Nat.le_succ n)
    · exact Nat.le_refl _
theorem szT_zero (f : List (F q)) : ∀ n i, szT f n ≤ i → i < n → co f i = 0
  | 0, i, _, h => absurd h (Nat.not_lt_zero i)
  | n + 1, i, h1, h2 => by
    unfold szT at h1
    split at h1
    · rename_i h
      by_cases e : i = n
      · rw [e]; exact h
      · exact szT_zero f n i h1 (by omega)
    · omega
theorem szT_top (f : List (F q)) : ∀ n, szT f n = 0 ∨ co f (szT f n - 1) ≠ 0
  | 0 => .inl rfl
  | n + 1 => by
    unfold szT
    split
    · exact szT_top f n
    · rename_i h
      exact .inr h
theorem trim_len (f : List (F q)) : (trim f).length = szT f f.length := by
  unfold trim
  rw [List.length_take]
  exact Nat.min_eq_left (szT_le f f.length)
theorem trim_le (f : List (F q)) : (trim f).length ≤ f.length := by
  rw [trim_len]
  exact szT_le f f.length
theorem trim_co (f : List (F q)) (i : Nat) : co (trim f) i = co f i := by
  by_cases h : i < szT f f.length
  · unfold trim co
    rw [List.getD_eq_getElem?_getD, List.getD_eq_getElem?_getD, List.getElem?_take_of_lt h]
  · rw [co_out (by rw [trim_len]; omega)]
    by_cases h2 : i < f.length
    · exact (szT_zero f f.length i (by omega) h2).symm
    · exact (co_out (by omega)).symm
theorem trim_top (f : List (F q)) : trim f = [] ∨ co (trim f) ((trim f).length - 1) ≠ 0 := by
  rcases szT_top f f.length with h | h
  · left
    unfold trim
    rw [h]
    rfl
  · right
    rw [trim_co, trim_len]
    exact h
/-- a list whose last is not 0 stays -/
theorem trim_id {f : List (F q)} (h : f = [] ∨ co f (f.length - 1) ≠ 0) : trim f = f := by
  cases hn : f.length with
  | zero =>
    rw [List.eq_nil_of_length_eq_zero hn]
    rfl
  | succ n =>
    have h2 : co f n ≠ 0 := by
      rcases h with h | h
      · subst h; cases hn
      · rw [hn] at h; exact h
    unfold trim
    have : szT f f.length = f.length := by
      rw [hn]
      show (if co f n = 0 then szT f n else n + 1) = n + 1
      rw [if_neg h2]
    rw [this, List.take_length]
theorem trim_lenOf {f : List (F q)} {n : Nat} (h1 : n < f.length) (h2 : co f n ≠ 0) (h3 : ∀ i, n < i → co f i = 0) : (trim f).length = n + 1 := by
  have a : ¬ szT f f.length ≤ n := fun h => h2 (szT_zero f f.length n h h1)
  have b : ¬ n + 1 < szT f f.length := fun h => by
    rcases szT_top f f.length with e | e
    · omega
    · exact e (h3 _ (by omega))
  rw [trim_len]
  omega
theorem trim_nil {f : List (F q)} (h : ∀ i, co f i = 0) : trim f = [] := by
  rcases trim_top f with e | e
  · exact e
  · exact absurd (by rw [trim_co]; exact h _) e
def pad (f : List (F q)) (n : Nat) : List (F q) := f ++ List.replicate (n - f.length) 0
theorem pad_len (f : List (F q)) {n : Nat} (h : f.length ≤ n) : (pad f n).length = n := by
  unfold pad
  rw [List.length_append, List.length_replicate]
  omega
theorem pad_co (f : List (F q)) (n i : Nat) : co (pad f n) i = co f i := by
  unfold pad co
  rw [List.getD_eq_getElem?_getD, List.getD_eq_getElem?_getD]
  by_cases h : i < f.length
  · rw [List.getElem?_append_left h]
  · rw [List.getElem?_append_right (by omega), List.getElem?_eq_none (l := f) (by omega), List.getElem?_replicate]
    split <;> rfl
def onePlus (f g : List (F q)) : List (F q) := trim (List.zipWith (· + ·) (pad f (max f.length g.length)) (pad g (max f.length g.length)))
theorem zip_co (f g : List (F q)) (h : f.length = g.length) (i : Nat) : co (List.zipWith (· + ·) f g) i = co f i + co g i := by
  by_cases hi : i < f.length
  · have hj : i < g.length := by omega
    unfold co
    simp [List.getD_eq_getElem?_getD, List.getElem?_zipWith, List.getElem?_eq_getElem hi, List.getElem?_eq_getElem hj]
  · rw [co_out (f := f) (by omega), co_out (f := g) (by omega), co_out (by simp; omega), F.add_zero']
theorem onePlus_co (f g : List (F q)) (i : Nat) : co (onePlus f g) i = co f i + co g i := by
  unfold onePlus
  rw [trim_co, zip_co _ _ (by rw [pad_len _ (Nat.le_max_left _ _), pad_len _ (Nat.le_max_right _ _)]), pad_co, pad_co]
theorem onePlus_le (f g : List (F q)) : (onePlus f g).length ≤ max f.length g.length := by
  unfold onePlus
  refine Nat.le_trans (trim_le _) ?_
  rw [List.length_zipWith, pad_len _ (Nat.le_max_left _ _), pad_len _ (Nat.le_max_right _ _)]
  omega
def oneOpp (f : List (F q)) : List (F q) := f.map fun a => -a
def oneScaled (f : List (F q)) (c : F q) : List (F q) := trim (f.map fun a => a * c)
theorem map_co (f : List (F q)) (p : F q → F q) (h : p 0 = 0) (i : Nat) : co (f.map p) i = p (co f i) := by
  unfold co
  rw [List.getD_eq_getElem?_getD, List.getD_eq_getElem?_getD, List.getElem?_map]
  cases f[i]? with
  | none => exact h.symm
  | some a => rfl
theorem zero_mul' (a : F q) : 0 * a = 0 := by grind
/-- the product's loops -/
def addAt (fd : List (F q)) (k : Nat) (c : F q) : List (F q) := fd.set k (co fd k + c)
def inn (fd : List (F q)) (i : Nat) (a : F q) (g : List (F q)) : Nat → List (F q)
  | 0 => fd
  | j + 1 => addAt (inn fd i a g j) (i + j) (a * co g j)
def outr (f g : List (F q)) : Nat → List (F q)
  | 0 => List.replicate (f.length + g.length) 0
  | i + 1 => inn (outr f g i) i (co f i) g g.length
def oneTimes (f g : List (F q)) : List (F q) := trim (outr f g f.length)
theorem addAt_len (fd : List (F q)) (k : Nat) (c : F q) : (addAt fd k c).length = fd.length := List.length_set
theorem inn_len (fd : List (F q)) (i : Nat) (a : F q) (g : List (F q)) : ∀ j, (inn fd i a g j).length = fd.length
  | 0 => rfl
  | j + 1 => (addAt_len _ _ _).trans (inn_len fd i a g j)
theorem outr_len (f g : List (F q)) : ∀ i, (outr f g i).length = f.length + g.length
  | 0 => List.length_replicate
  | i + 1 => (inn_len _ _ _ _ _).trans (outr_len f g i)
theorem addAt_co {fd : List (F q)} {k : Nat} (c : F q) (h : k < fd.length) (i : Nat) : co (addAt fd k c) i = if i = k then co fd i + c else co fd i := by
  unfold addAt co
  rw [List.getD_eq_getElem?_getD]
  by_cases e : i = k
  · subst e
    rw [List.getElem?_set_self h, if_pos rfl]
    rfl
  · rw [List.getElem?_set_ne (Ne.symm e), if_neg e, List.getD_eq_getElem?_getD]
theorem inn_co {fd : List (F q)} {i : Nat} {a : F q} {g : List (F q)} (k : Nat) : ∀ j, i + j ≤ fd.length → co (inn fd i a g j) k = if i ≤ k ∧ k < i + j then co fd k + a * co g (k - i) else co fd k
  | 0, _ => by
    rw [if_neg (by omega)]
    rfl
  | j + 1, h => by
    show co (addAt (inn fd i a g j) (i + j) (a * co g j)) k = _
    rw [addAt_co _ (by rw [inn_len]; omega), inn_co k j (by omega)]
    by_cases e : k = i + j
    · subst e
      rw [if_pos rfl, if_neg (by omega), if_pos (by omega)]
      have : i + j - i = j := by omega
      rw [this]
    · rw [if_neg e]
      by_cases c : i ≤ k ∧ k < i + j
      · rw [if_pos c, if_pos (by omega)]
      · rw [if_neg c, if_neg (by omega)]
/-- by a line g0 + g1 y -/
theorem outr_lin (f : List (F q)) (g0 g1 : F q) (k : Nat) : ∀ i, i ≤ f.length → co (outr f [g0, g1] i) k = (if k < i then co f k * g0 else 0) + (if 1 ≤ k ∧ k - 1 < i then co f (k - 1) * g1 else 0)
  | 0, _ => by
    show co (List.replicate _ 0) k = _
    rw [if_neg (by omega), if_neg (by omega), F.add_zero']
    unfold co
    rw [List.getD_eq_getElem?_getD, List.getElem?_replicate]
    split <;> rfl
  | i + 1, h => by
    show co (inn (outr f [g0, g1] i) i (co f i) [g0, g1] 2) k = _
    rw [inn_co k 2 (by rw [outr_len]; simp; omega), outr_lin f g0 g1 k i (by omega)]
    by_cases e1 : k = i
    · subst e1
      rw [if_pos (by omega), if_neg (by omega), if_pos (show k < k + 1 by omega)]
      have : k - k = 0 := by omega
      rw [this]
      have e0 : co [g0, g1] 0 = g0 := rfl
      rw [e0]
      by_cases e2 : 1 ≤ k ∧ k - 1 < k
      · rw [if_pos e2, if_pos (by omega)]
        grind
      · rw [if_neg e2, if_neg (by omega)]
        grind
    · by_cases e2 : k = i + 1
      · subst e2
        rw [if_pos (by omega), if_neg (by omega), if_neg (by omega), if_neg (by omega), if_pos (by omega)]
        have : i + 1 - i = 1 := by omega
        rw [this]
        have e0 : co [g0, g1] 1 = g1 := rfl
        rw [e0]
        have : i + 1 - 1 = i := by omega
        rw [this]
        grind
      · rw [if_neg (by omega)]
        congr 1
        · by_cases c : k < i
          · rw [if_pos c, if_pos (by omega)]
          · rw [if_neg c, if_neg (by omega)]
        · by_cases c : 1 ≤ k ∧ k - 1 < i
          · rw [if_pos c, if_pos (by omega)]
          · rw [if_neg c, if_neg (by omega)]
theorem oneTimes_lin (f : List (F q)) (g0 g1 : F q) (k : Nat) : co (oneTimes f [g0, g1]) k = co f k * g0 + (if 1 ≤ k then co f (k - 1) * g1 else 0) := by
  unfold oneTimes
  rw [trim_co, outr_lin f g0 g1 k _ (Nat.le_refl _)]
  congr 1
  · by_cases c : k < f.length
    · rw [if_pos c]
    · rw [if_neg c, co_out (by omega), zero_mul']
  · by_cases c : 1 ≤ k
    · rw [if_pos c]
      by_cases d : 1 ≤ k ∧ k - 1 < f.length
      · rw [if_pos d]
      · rw [if_neg d, co_out (f := f) (by omega), zero_mul']
    · rw [if_neg c, if_neg (by omega)]
theorem oneTimes_le (f g : List (F q)) : (oneTimes f g).length ≤ f.length + g.length := by
  unfold oneTimes
  refine Nat.le_trans (trim_le _) ?_
  rw [outr_len]
  exact Nat.le_refl _
/-- f of g: Horner, the last first -/
def onePutR (g : List (F q)) : List (F q) → List (F q) → List (F q)
  | fd, [] => fd
  | fd, a :: r => onePutR g (onePlus (oneTimes fd g) (trim [a])) r
def onePut (f g : List (F q)) : List (F q) := onePutR g [] f.reverse
theorem co_one (a : F q) (i : Nat) : co (trim [a]) i = if i = 0 then a else 0 := by
  rw [trim_co]
  cases i with
  | zero => rfl
  | succ i => rfl
theorem len_of {f : List (F q)} {n : Nat} (hn : f = [] ∨ co f (f.length - 1) ≠ 0) (h2 : co f n ≠ 0) (h3 : ∀ i, n < i → co f i = 0) : f.length = n + 1 := by
  have a : n < f.length := by
    by_cases a : n < f.length
    · exact a
    · exact absurd (co_out (by omega)) h2
  have := trim_lenOf a h2 h3
  rwa [trim_id hn] at this
theorem onePlus_top (f g : List (F q)) : onePlus f g = [] ∨ co (onePlus f g) ((onePlus f g).length - 1) ≠ 0 := trim_top _
theorem onePutR_len {g0 g1 : F q} (h1 : g1 ≠ 0) : ∀ (r fd : List (F q)), fd ≠ [] → co fd (fd.length - 1) ≠ 0 → (onePutR [g0, g1] fd r).length = fd.length + r.length ∧ co (onePutR [g0, g1] fd r) (fd.length + r.length - 1) ≠ 0
  | [], fd, _, h => ⟨rfl, h⟩
  | a :: r, fd, h2, h3 => by
    have hl : 0 < fd.length := List.length_pos_iff.mpr h2
    have e1 : co (onePlus (oneTimes fd [g0, g1]) (trim [a])) fd.length ≠ 0 := by
      rw [onePlus_co, oneTimes_lin, co_one, if_pos (by omega), if_neg (by omega), co_out (f := fd) (Nat.le_refl _), zero_mul', F.add_zero', F.add_comm', F.add_zero']
      exact F.mul_ne h3 h1
    have e2 : ∀ i, fd.length < i → co (onePlus (oneTimes fd [g0, g1]) (trim [a])) i = 0 := fun i hi => by
      rw [onePlus_co, oneTimes_lin, co_one, if_pos (by omega), if_neg (by omega), co_out (f := fd) (by omega), co_out (f := fd) (by omega), zero_mul', zero_mul', F.add_zero', F.add_zero']
    have e3 := len_of (onePlus_top _ _) e1 e2
    obtain ⟨i1, i2⟩ := onePutR_len (g0 := g0) h1 r (onePlus (oneTimes fd [g0, g1]) (trim [a])) (fun e => by rw [e] at e3; cases e3) (by rw [e3]; exact e1)
    rw [e3] at i1 i2
    have e4 : fd.length + (a :: r).length = fd.length + 1 + r.length := by
      rw [List.length_cons]
      omega
    rw [e4]
    exact ⟨i1, i2⟩
theorem trim_two {g0 g1 : F q} (h : g1 ≠ 0) : trim [g0, g1] = [g0, g1] := trim_id (.inr h)
theorem onePut_len {f : List (F q)} {g0 g1 : F q} (h1 : g1 ≠ 0) (h2 : f ≠ []) (h3 : co f (f.length - 1) ≠ 0) : (onePut f [g0, g1]).length = f.length ∧ co (onePut f [g0, g1]) (f.length - 1) ≠ 0 := by
  unfold onePut
  have hl : 0 < f.length := List.length_pos_iff.mpr h2
  cases hr : f.reverse with
  | nil => exact absurd (List.reverse_eq_nil_iff.mp hr) h2
  | cons a r =>
    have hlen : f.length = r.length + 1 := by
      have := congrArg List.length hr
      rw [List.length_reverse] at this
      exact this
    have ea : a = co f (f.length - 1) := by
      have : f.reverse[0]? = some a := by rw [hr]; rfl
      rw [List.getElem?_reverse hl] at this
      unfold co
      rw [List.getD_eq_getElem?_getD]
      have e : f.length - 1 - 0 = f.length - 1 := by omega
      rw [e] at this
      rw [this]
      rfl
    have ha : a ≠ 0 := by rw [ea]; exact h3
    have hn : oneTimes ([] : List (F q)) [g0, g1] = [] := by
      unfold oneTimes
      apply trim_nil
      intro i
      have z : ([] : List (F q)).length = 0 := rfl
      rw [outr_lin [] g0 g1 i _ (Nat.le_refl _), z, if_neg (Nat.not_lt_zero _), if_neg (by intro h; exact absurd h.2 (Nat.not_lt_zero _)), F.add_zero']
    have e0 : onePlus (oneTimes ([] : List (F q)) [g0, g1]) (trim [a]) = [a] := by
      have e1 : co (onePlus (oneTimes ([] : List (F q)) [g0, g1]) (trim [a])) 0 ≠ 0 := by
        rw [onePlus_co, hn, co_one, if_pos rfl, co_out (f := []) (Nat.zero_le _), F.add_comm', F.add_zero']
        exact ha
      have e2 : ∀ i, 0 < i → co (onePlus (oneTimes ([] : List (F q)) [g0, g1]) (trim [a])) i = 0 := fun i hi => by
        rw [onePlus_co, hn, co_one, if_neg (by omega), co_out (f := []) (Nat.zero_le _), F.add_zero']
      have e3 := len_of (onePlus_top _ _) e1 e2
      have e4 : co (onePlus (oneTimes ([] : List (F q)) [g0, g1]) (trim [a])) 0 = a := by
        rw [onePlus_co, hn, co_one, if_pos rfl, co_out (f := []) (Nat.zero_le _), F.add_comm', F.add_zero']
      match h : onePlus (oneTimes ([] : List (F q)) [g0, g1]) (trim [a]), e3, e4 with
      | [b], _, e4 =>
        have : b = a := e4
        rw [this]
    show (onePutR [g0, g1] (onePlus (oneTimes [] [g0, g1]) (trim [a])) r).length = _ ∧ co (onePutR [g0, g1] (onePlus (oneTimes [] [g0, g1]) (trim [a])) r) _ ≠ 0
    rw [e0]
    obtain ⟨i1, i2⟩ := onePutR_len (g0 := g0) h1 r [a] (by simp) ha
    have e5 : [a].length + r.length = f.length := by
      rw [hlen]
      show 1 + r.length = r.length + 1
      omega
    rw [e5] at i1 i2
    exact ⟨i1, i2⟩
/-- a bend: its numbers, the first for 1 -/
structure Bend (b : List (F q)) : Prop where
  lo : 3 ≤ b.length
  hi : b.length ≤ 7
  z0 : co b 0 = 0
  z1 : co b 1 = 0
  top : co b (b.length - 1) ≠ 0
theorem Bend.ne {b : List (F q)} (h : Bend b) : b ≠ [] := fun e => by
  have := h.lo
  rw [e] at this
  simp at this
theorem Bend.opp {b : List (F q)} (h : Bend b) : Bend (oneOpp b) := by
  have z : (-0 : F q) = 0 := F.neg_zero'
  have l : (oneOpp b).length = b.length := List.length_map ..
  refine ⟨by rw [l]; exact h.lo, by rw [l]; exact h.hi, ?_, ?_, ?_⟩
  · unfold oneOpp
    rw [map_co _ _ z, h.z0, z]
  · unfold oneOpp
    rw [map_co _ _ z, h.z1, z]
  · rw [l]
    unfold oneOpp
    rw [map_co _ _ z]
    exact F.neg_ne h.top
/-- two bends one behind the other -/
theorem Bend.plus {b c : List (F q)} (h : Bend b) (k : Bend c) : onePlus b c = [] ∨ Bend (onePlus b c) := by
  rcases onePlus_top b c with e | e
  · exact .inl e
  · right
    have z0 : co (onePlus b c) 0 = 0 := by rw [onePlus_co, h.z0, k.z0, F.add_zero']
    have z1 : co (onePlus b c) 1 = 0 := by rw [onePlus_co, h.z1, k.z1, F.add_zero']
    refine ⟨?_, ?_, z0, z1, e⟩
    · by_cases g : 3 ≤ (onePlus b c).length
      · exact g
      · have : (onePlus b c).length - 1 = 0 ∨ (onePlus b c).length - 1 = 1 := by omega
        rcases this with g2 | g2
        · rw [g2] at e
          exact absurd z0 e
        · rw [g2] at e
          exact absurd z1 e
    · have := onePlus_le b c
      have h1 := h.hi
      have h2 := k.hi
      omega
/-- a bend seen through a straight map -/
theorem Bend.through {b : List (F q)} (h : Bend b) {e f c : F q} (he : e ≠ 0) (hc : c ≠ 0) : Bend (oneScaled ([0, 0] ++ (onePut b (trim [f, e])).drop 2) c) ∧ (oneScaled ([0, 0] ++ (onePut b (trim [f, e])).drop 2) c).length = b.length := by
  rw [trim_two he]
  obtain ⟨l1, l2⟩ := onePut_len (g0 := f) he h.ne h.top
  have hlo := h.lo
  generalize onePut b [f, e] = w at l1 l2
  have lw : ([0, 0] ++ w.drop 2).length = b.length := by
    rw [List.length_append, List.length_drop]
    simp
    omega
  have cw : ∀ i, co ([0, 0] ++ w.drop 2) i = if i < 2 then 0 else co w i := fun i => by
    match i with
    | 0 => rfl
    | 1 => rfl
    | i + 2 =>
      rw [if_neg (by omega)]
      unfold co
      rw [List.getD_eq_getElem?_getD, List.getD_eq_getElem?_getD]
      show (([0, 0] : List (F q)) ++ w.drop 2)[i + 2]?.getD 0 = _
      rw [List.getElem?_append_right (by simp), List.getElem?_drop]
      simp only [List.length_cons, List.length_nil]
      have : 2 + (i + 2 - (0 + 1 + 1)) = i + 2 := by omega
      rw [this]
  have cm : ∀ i, co ((([0, 0] : List (F q)) ++ w.drop 2).map fun a => a * c) i = (if i < 2 then 0 else co w i) * c := fun i => by
    rw [map_co _ _ (zero_mul' c), cw]
  have tp : co ((([0, 0] : List (F q)) ++ w.drop 2).map fun a => a * c) (b.length - 1) ≠ 0 := by
    rw [cm, if_neg (by omega)]
    exact F.mul_ne l2 hc
  have e1 : oneScaled ([0, 0] ++ w.drop 2) c = ([0, 0] ++ w.drop 2).map fun a => a * c := trim_id (.inr (by rw [List.length_map, lw]; exact tp))
  rw [e1]
  have l3 : ((([0, 0] : List (F q)) ++ w.drop 2).map fun a => a * c).length = b.length := by rw [List.length_map, lw]
  refine ⟨⟨by rw [l3]; exact hlo, by rw [l3]; exact h.hi, ?_, ?_, by rw [l3]; exact tp⟩, l3⟩
  · rw [cm, if_pos (by omega), zero_mul']
  · rw [cm, if_pos (by omega), zero_mul']
end
end K19

/-! TEXT K19M2 -/
set_option autoImplicit false
set_option linter.all false
/-! PLAIN: straight maps and steps. -/
namespace K19
structure SM (q : Nat) where
  (a b c d e f : F q)
/-- a step -/
structure ST (q : Nat) where
  start : Option (F q)
  bends : List (List (F q))
  turns : List (F q)
  last : SM q
inductive Pc (q : Nat) where
  | str (m : SM q)
  | bnd (b : List (F q))
section
variable {q : Nat} [Fld q]
namespace SM
def det (m : SM q) : F q := m.a * m.e - m.b * m.d
def turn (r : F q) : SM q := ⟨0, 1, 0, 1, r, 0⟩
def one : SM q := ⟨1, 0, 0, 0, 1, 0⟩
def thn (x y : SM q) : SM q := ⟨y.a * x.a + y.b * x.d, y.a * x.b + y.b * x.e, y.a * x.c + y.b * x.f + y.c, y.d * x.a + y.e * x.d, y.d * x.b + y.e * x.e, y.d * x.c + y.e * x.f + y.f⟩
def back (m : SM q) : SM q :=
  let k := F.inv (m.a * m.e - m.b * m.d)
  let a := m.e * k
  let b := -(m.b * k)
  let d := -(m.d * k)
  let e := m.a * k
  ⟨a, b, -(a * m.c + b * m.f), d, e, -(d * m.c + e * m.f)⟩
theorem det_thn (x y : SM q) : (thn x y).det = x.det * y.det := by
  unfold det thn
  grind
theorem det_turn (r : F q) : (turn r).det = -1 := by
  unfold det turn
  grind
theorem det_back {m : SM q} (h : m.det ≠ 0) : m.back.det = F.inv m.det := by
  have k := F.mul_inv h
  unfold back det at *
  simp only
  generalize F.inv (m.a * m.e - m.b * m.d) = i at *
  grind
end SM
theorem neg1_ne : (-1 : F q) ≠ 0 := F.neg_ne F.one_ne
theorem inv_neg1 : F.inv (-1 : F q) = -1 := by
  have h := F.mul_inv (q := q) neg1_ne
  grind
/-- a map in two: a turn, and one that leaves the lines -/
def split (m : SM q) : Option (F q) × SM q :=
  if m.d = 0 then (none, m) else (some (m.e * F.inv m.d), SM.thn (SM.turn (m.e * F.inv m.d)).back m)
theorem split_d (m : SM q) : (split m).2.d = 0 := by
  unfold split
  by_cases h : m.d = 0
  · rw [if_pos h]
    exact h
  · rw [if_neg h]
    have k := F.mul_inv h
    have z : (0 : F q) * (m.e * F.inv m.d) - 1 * 1 = -1 := by grind
    unfold SM.thn SM.back SM.turn
    simp only
    rw [z, inv_neg1]
    generalize F.inv m.d = i at *
    grind
theorem split_det (m : SM q) : (split m).2.det = if (split m).1.isSome then -m.det else m.det := by
  unfold split
  by_cases h : m.d = 0
  · rw [if_pos h]
    rfl
  · rw [if_neg h]
    show (SM.thn _ m).det = -m.det
    rw [SM.det_thn, SM.det_back (by rw [SM.det_turn]; exact neg1_ne), SM.det_turn, inv_neg1]
    grind
/-- a bend through a map that leaves the lines -/
def thruW (m : SM q) (b : List (F q)) : List (F q) := onePut b (trim [m.f, m.e])
def thruB (m : SM q) (b : List (F q)) : List (F q) := oneScaled ([0, 0] ++ (thruW m b).drop 2) (F.inv m.a)
def thruM (m : SM q) (b : List (F q)) : SM q := ⟨m.a, m.b + co (thruW m b) 1, m.c + co (thruW m b) 0, m.d, m.e, m.f⟩
theorem det_ne {m : SM q} (h : m.det ≠ 0) (hd : m.d = 0) : m.a ≠ 0 ∧ m.e ≠ 0 := by
  constructor
  · intro e
    apply h
    unfold SM.det
    rw [e, hd]
    grind
  · intro e
    apply h
    unfold SM.det
    rw [e, hd]
    grind
theorem thru_ok {m : SM q} {b : List (F q)} (h : m.det ≠ 0) (hd : m.d = 0) (hb : Bend b) : Bend (thruB m b) ∧ (thruB m b).length = b.length := Bend.through hb (det_ne h hd).2 (F.inv_ne (det_ne h hd).1)
theorem thru_det {m : SM q} (b : List (F q)) (hd : m.d = 0) : (thruM m b).det = m.det := by
  unfold SM.det thruM
  simp only
  rw [hd]
  grind
def turned (r : Option (F q)) (m : SM q) : SM q := match r with
  | none => m
  | some r => SM.thn (SM.turn r) m
theorem turned_det (r : Option (F q)) (m : SM q) : (turned r m).det = if r.isSome then -m.det else m.det := by
  cases r with
  | none => rfl
  | some r =>
    show (SM.thn _ m).det = -m.det
    rw [SM.det_thn, SM.det_turn]
    grind
namespace ST
structure Ok (s : ST q) : Prop where
  bend : ∀ b ∈ s.bends, Bend b
  det : s.last.det ≠ 0
  len : s.turns.length = s.bends.length - 1
  nil : s.bends = [] → s.start = none
def none_ : ST q := ⟨none, [], [], SM.one⟩
def wStr (s : ST q) (m : SM q) : ST q := { s with last := SM.thn s.last m }
def wBnd (s : ST q) (b : List (F q)) : ST q :=
  let r := (split s.last).1
  let m := (split s.last).2
  let g := thruB m b
  let m' := thruM m b
  if s.bends = [] then ⟨r, [g], [], m'⟩
  else match r with
    | some r => ⟨s.start, s.bends ++ [g], s.turns ++ [r], m'⟩
    | none =>
      let g2 := onePlus (s.bends.getLastD []) g
      if g2 ≠ [] then ⟨s.start, s.bends.dropLast ++ [g2], s.turns, m'⟩
      else if s.bends.length = 1 then ⟨none, [], [], turned s.start m'⟩
      else ⟨s.start, s.bends.dropLast, s.turns.dropLast, turned (some (s.turns.getLastD 0)) m'⟩
def tail : List (List (F q)) → List (F q) → List (Pc q)
  | [], _ => []
  | b :: bs, [] => .bnd b :: tail bs []
  | b :: bs, t :: ts => .bnd b :: .str (SM.turn t) :: tail bs ts
def head (r : Option (F q)) : List (Pc q) := match r with
  | none => []
  | some r => [.str (SM.turn r)]
def pieces (s : ST q) : List (Pc q) := head s.start ++ tail s.bends s.turns ++ [.str s.last]
def wPc (s : ST q) : Pc q → ST q
  | .str m => s.wStr m
  | .bnd b => s.wBnd b
def wPcs (s : ST q) (row : List (Pc q)) : ST q := row.foldl wPc s
def thn (x y : ST q) : ST q := x.wPcs y.pieces
def bk : Pc q → Pc q
  | .str m => .str m.back
  | .bnd b => .bnd (oneOpp b)
def back (s : ST q) : ST q := none_.wPcs (s.pieces.reverse.map bk)
def flips (s : ST q) : Nat := s.turns.length + (if s.start.isSome then 1 else 0)
def sgn (n : Nat) (x : F q) : F q := if n % 2 = 1 then -x else x
def det (s : ST q) : F q := sgn s.flips s.last.det
theorem sgn_succ (n : Nat) (x : F q) : sgn (n + 1) x = -sgn n x := by
  unfold sgn
  by_cases h : n % 2 = 1
  · rw [if_pos h, if_neg (by omega)]
    grind
  · rw [if_neg h, if_pos (by omega)]
theorem sgn_neg (n : Nat) (x : F q) : sgn n (-x) = -sgn n x := by
  unfold sgn
  split
  · rfl
  · rfl
theorem sgn_mul (n : Nat) (x y : F q) : sgn n (x * y) = sgn n x * y := by
  unfold sgn
  split
  · grind
  · rfl
theorem sgn_ne {n : Nat} {x : F q} (h : x ≠ 0) : sgn n x ≠ 0 := by
  unfold sgn
  split
  · exact F.neg_ne h
  · exact h
theorem none_ok : Ok (none_ : ST q) := ⟨fun b hb => absurd hb List.not_mem_nil, by
  unfold none_ SM.one SM.det
  have : (1 : F q) * 1 - 0 * 0 = 1 := by grind
  simp only
  rw [this]
  exact F.one_ne, rfl, fun _ => rfl⟩
theorem Ok.wStr {s : ST q} (h : s.Ok) {m : SM q} (hm : m.det ≠ 0) : (s.wStr m).Ok := ⟨h.bend, by
  show (SM.thn s.last m).det ≠ 0
  rw [SM.det_thn]
  exact F.mul_ne h.det hm, h.len, h.nil⟩
theorem det_wStr (s : ST q) (m : SM q) : (s.wStr m).det = s.det * m.det := by
  show sgn s.flips (SM.thn s.last m).det = sgn s.flips s.last.det * m.det
  rw [SM.det_thn, sgn_mul]
theorem lastD_mem {α : Type} {l : List α} {d : α} (h : l ≠ []) : l.getLastD d ∈ l := by
  cases l with
  | nil => exact absurd rfl h
  | cons a l =>
    rw [List.getLastD_cons]
    cases l with
    | nil => exact List.mem_cons_self
    | cons b l =>
      have : (b :: l).getLastD a = (b :: l).getLast (by simp) := by simp [List.getLastD_eq_getLast?, List.getLast?_eq_some_getLast]
      rw [this]
      exact List.mem_cons_of_mem _ (List.getLast_mem _)
theorem wBnd_ok {s : ST q} (h : s.Ok) {b : List (F q)} (hb : Bend b) : (s.wBnd b).Ok ∧ (s.wBnd b).det = s.det := by
  have h1 := split_d s.last
  have h2 := split_det s.last
  have h3 : (split s.last).2.det ≠ 0 := by
    rw [h2]
    split
    · exact F.neg_ne h.det
    · exact h.det
  obtain ⟨g1, g2⟩ := thru_ok h3 h1 hb
  have h4 := thru_det (m := (split s.last).2) b h1
  have h5 : (thruM (split s.last).2 b).det ≠ 0 := by rw [h4]; exact h3
  unfold wBnd
  simp only
  generalize hr : (split s.last).1 = r at *
  generalize (split s.last).2 = m at *
  by_cases c1 : s.bends = []
  · rw [if_pos c1]
    have c2 := h.nil c1
    have c3 : s.turns.length = 0 := by rw [h.len, c1]; rfl
    refine ⟨⟨fun x hx => by rw [List.mem_singleton.mp hx]; exact g1, h5, rfl, fun e => nomatch e⟩, ?_⟩
    show sgn (0 + _) _ = sgn (s.turns.length + _) _
    rw [c3, c2, h4, h2]
    cases r with
    | none => rfl
    | some r =>
      show sgn (0 + 1) (-s.last.det) = s.last.det
      rw [sgn_succ]
      show -(-s.last.det) = s.last.det
      exact F.neg_neg' _
  · rw [if_neg c1]
    have hpos : 0 < s.bends.length := List.length_pos_iff.mpr c1
    cases r with
    | some r =>
      refine ⟨⟨fun x hx => ?_, h5, ?_, fun e => ?_⟩, ?_⟩
      · rcases List.mem_append.mp hx with hx | hx
        · exact h.bend x hx
        · rw [List.mem_singleton.mp hx]
          exact g1
      · show (s.turns ++ [r]).length = (s.bends ++ [_]).length - 1
        rw [List.length_append, List.length_append, h.len]
        show s.bends.length - 1 + 1 = s.bends.length + 1 - 1
        omega
      · have : (s.bends ++ [thruB m b]) = [] := e
        simp at this
      · show sgn ((s.turns ++ [r]).length + _) (thruM m b).det = sgn (s.turns.length + _) s.last.det
        have e1 : (s.turns ++ [r]).length + (if s.start.isSome then 1 else 0) = s.turns.length + (if s.start.isSome then 1 else 0) + 1 := by
          rw [List.length_append]
          show s.turns.length + 1 + _ = _
          omega
        rw [e1, sgn_succ, h4, h2]
        show -sgn _ (-s.last.det) = _
        rw [sgn_neg]
        exact F.neg_neg' _
    | none =>
      have h6 : (thruM m b).det = s.last.det := by
        rw [h4, h2]
        rfl
      have bl : Bend (s.bends.getLastD []) := h.bend _ (lastD_mem c1)
      by_cases c2 : onePlus (s.bends.getLastD []) (thruB m b) ≠ []
      · show (if _ then _ else _ : ST q).Ok ∧ (if _ then _ else _ : ST q).det = _
        rw [if_pos c2]
        have g3 : Bend (onePlus (s.bends.getLastD []) (thruB m b)) := by
          rcases Bend.plus bl g1 with e | e
          · exact absurd e c2
          · exact e
        refine ⟨⟨fun x hx => ?_, h5, ?_, fun e => ?_⟩, ?_⟩
        · rcases List.mem_append.mp hx with hx | hx
          · exact h.bend x (List.dropLast_subset _ hx)
          · rw [List.mem_singleton.mp hx]
            exact g3
        · show s.turns.length = (s.bends.dropLast ++ [_]).length - 1
          rw [List.length_append, List.length_dropLast, h.len]
          show _ = s.bends.length - 1 + 1 - 1
          omega
        · have : s.bends.dropLast ++ [onePlus (s.bends.getLastD []) (thruB m b)] = [] := e
          simp at this
        · show sgn (s.turns.length + _) _ = sgn (s.turns.length + _) _
          rw [h6]
      · show (if _ then _ else _ : ST q).Ok ∧ (if _ then _ else _ : ST q).det = _
        rw [if_neg c2]
        by_cases c3 : s.bends.length = 1
        · rw [if_pos c3]
          have c4 : s.turns.length = 0 := by rw [h.len, c3]
          refine ⟨⟨fun x hx => absurd hx List.not_mem_nil, ?_, rfl, fun _ => rfl⟩, ?_⟩
          · show (turned s.start (thruM m b)).det ≠ 0
            rw [turned_det]
            split
            · exact F.neg_ne h5
            · exact h5
          · show sgn 0 (turned s.start (thruM m b)).det = sgn (s.turns.length + _) _
            rw [c4, turned_det, h6]
            cases s.start with
            | none => rfl
            | some r =>
              show sgn 0 (-s.last.det) = sgn (0 + 1) s.last.det
              rw [sgn_succ]
              rfl
        · rw [if_neg c3]
          refine ⟨⟨fun x hx => h.bend x (List.dropLast_subset _ hx), ?_, ?_, fun e => ?_⟩, ?_⟩
          · show (turned (some _) (thruM m b)).det ≠ 0
            rw [turned_det]
            exact F.neg_ne h5
          · show s.turns.dropLast.length = s.bends.dropLast.length - 1
            rw [List.length_dropLast, List.length_dropLast, h.len]
          · have e : s.bends.dropLast = [] := e
            have := congrArg List.length e
            rw [List.length_dropLast] at this
            simp at this
            omega
          · show sgn (s.turns.dropLast.length + _) (turned (some _) (thruM m b)).det = sgn (s.turns.length + _) _
            rw [turned_det, h6]
            have e1 : s.turns.length + (if s.start.isSome then 1 else 0) = s.turns.dropLast.length + (if s.start.isSome then 1 else 0) + 1 := by
              rw [List.length_dropLast, h.len]
              omega
            rw [e1, sgn_succ]
            show sgn _ (-s.last.det) = _
            rw [sgn_neg]
def pcOk : Pc q → Prop
  | .str m => m.det ≠ 0
  | .bnd b => Bend b
def pcDet : Pc q → F q
  | .str m => m.det
  | .bnd _ => 1
def pcsDet (row : List (Pc q)) : F q := row.foldr (fun p x => pcDet p * x) 1
theorem wPc_ok {s : ST q} (h : s.Ok) {p : Pc q} (hp : pcOk p) : (s.wPc p).Ok ∧ (s.wPc p).det = s.det * pcDet p := by
  cases p with
  | str m => exact ⟨h.wStr hp, det_wStr s m⟩
  | bnd b =>
    obtain ⟨h1, h2⟩ := wBnd_ok h (b := b) hp
    exact ⟨h1, h2.trans (F.mul_one' _).symm⟩
theorem wPcs_ok : ∀ {row : List (Pc q)} {s : ST q}, s.Ok → (∀ p ∈ row, pcOk p) → (s.wPcs row).Ok ∧ (s.wPcs row).det = s.det * pcsDet row
  | [], s, h, _ => ⟨h, (F.mul_one' _).symm⟩
  | p :: row, s, h, hp => by
    obtain ⟨h1, h2⟩ := wPc_ok h (hp p List.mem_cons_self)
    obtain ⟨h3, h4⟩ := wPcs_ok (row := row) h1 fun x hx => hp x (List.mem_cons_of_mem _ hx)
    refine ⟨h3, ?_⟩
    show ((s.wPc p).wPcs row).det = s.det * (pcDet p * pcsDet row)
    rw [h4, h2, F.mul_assoc']
theorem pcsDet_app (x y : List (Pc q)) : pcsDet (x ++ y) = pcsDet x * pcsDet y := by
  induction x with
  | nil =>
    show pcsDet y = 1 * pcsDet y
    grind
  | cons p x ih =>
    show pcDet p * pcsDet (x ++ y) = pcDet p * pcsDet x * pcsDet y
    rw [ih, F.mul_assoc']
theorem tail_ok : ∀ {bs : List (List (F q))} {ts : List (F q)}, (∀ b ∈ bs, Bend b) → ∀ p ∈ tail bs ts, pcOk p
  | [], _, _, p, hp => absurd hp List.not_mem_nil
  | b :: bs, [], h, p, hp => by
    rcases List.mem_cons.mp hp with rfl | hp
    · exact h b List.mem_cons_self
    · exact tail_ok (fun x hx => h x (List.mem_cons_of_mem _ hx)) p hp
  | b :: bs, t :: ts, h, p, hp => by
    rcases List.mem_cons.mp hp with rfl | hp
    · exact h b List.mem_cons_self
    · rcases List.mem_cons.mp hp with rfl | hp
      · show (SM.turn t).det ≠ 0
        rw [SM.det_turn]
        exact neg1_ne
      · exact tail_ok (fun x hx => h x (List.mem_cons_of_mem _ hx)) p hp
theorem tail_det : ∀ {bs : List (List (F q))} {ts : List (F q)}, ts.length ≤ bs.length → pcsDet (tail bs ts) = sgn ts.length 1
  | [], [], _ => rfl
  | [], _ :: _, h => absurd h (Nat.not_succ_le_zero _)
  | b :: bs, [], _ => by
    show 1 * pcsDet (tail bs []) = _
    rw [tail_det (Nat.zero_le _), F.mul_comm', F.mul_one']
  | b :: bs, t :: ts, h => by
    show 1 * ((SM.turn t).det * pcsDet (tail bs ts)) = _
    rw [tail_det (Nat.le_of_succ_le_succ h), SM.det_turn, List.length_cons, sgn_succ]
    grind
theorem pieces_ok {s : ST q} (h : s.Ok) : (∀ p ∈ s.pieces, pcOk p) ∧ pcsDet s.pieces = s.det := by
  refine ⟨fun p hp => ?_, ?_⟩
  · rcases List.mem_append.mp hp with hp | hp
    · rcases List.mem_append.mp hp with hp | hp
      · cases hs : s.start with
        | none =>
          rw [hs] at hp
          exact absurd hp List.not_mem_nil
        | some r =>
          rw [hs] at hp
          rw [List.mem_singleton.mp hp]
          show (SM.turn r).det ≠ 0
          rw [SM.det_turn]
          exact neg1_ne
      · exact tail_ok h.bend p hp
    · rw [List.mem_singleton.mp hp]
      exact h.det
  · unfold pieces
    rw [pcsDet_app, pcsDet_app, tail_det (by rw [h.len]; omega)]
    show pcsDet (head s.start) * sgn s.turns.length 1 * (s.last.det * 1) = sgn (s.turns.length + _) _
    have e : sgn s.turns.length (s.last.det) = sgn s.turns.length 1 * s.last.det := by
      rw [← sgn_mul]
      congr 1
      grind
    cases s.start with
    | none =>
      show 1 * sgn s.turns.length 1 * (s.last.det * 1) = sgn (s.turns.length + 0) _
      rw [Nat.add_zero, e]
      grind
    | some r =>
      show (SM.turn r).det * 1 * sgn s.turns.length 1 * (s.last.det * 1) = sgn (s.turns.length + 1) _
      rw [sgn_succ, e, SM.det_turn]
      grind
theorem thn_ok {x y : ST q} (hx : x.Ok) (hy : y.Ok) : (x.thn y).Ok ∧ (x.thn y).det = x.det * y.det := by
  obtain ⟨h1, h2⟩ := pieces_ok hy
  obtain ⟨h3, h4⟩ := wPcs_ok hx h1
  exact ⟨h3, by rw [← h2]; exact h4⟩
theorem det_ne0 {s : ST q} (h : s.Ok) : s.det ≠ 0 := sgn_ne h.det
theorem pcsDet_rev (x : List (Pc q)) : pcsDet x.reverse = pcsDet x := by
  induction x with
  | nil => rfl
  | cons p x ih =>
    rw [List.reverse_cons, pcsDet_app, ih]
    show pcsDet x * (pcDet p * 1) = pcDet p * pcsDet x
    grind
theorem bk_inv : ∀ {row : List (Pc q)}, (∀ p ∈ row, pcOk p) → pcsDet row * pcsDet (row.map bk) = 1
  | [], _ => by
    show (1 : F q) * 1 = 1
    grind
  | p :: row, h => by
    have ih := bk_inv (row := row) fun x hx => h x (List.mem_cons_of_mem _ hx)
    have hp := h p List.mem_cons_self
    show pcDet p * pcsDet row * (pcDet (bk p) * pcsDet (row.map bk)) = 1
    have k : pcDet p * pcDet (bk p) = 1 := by
      cases p with
      | str m =>
        show m.det * m.back.det = 1
        rw [SM.det_back hp]
        exact F.mul_inv hp
      | bnd b =>
        show (1 : F q) * 1 = 1
        grind
    grind
theorem bk_ok {p : Pc q} (h : pcOk p) : pcOk (bk p) := by
  cases p with
  | str m =>
    show m.back.det ≠ 0
    rw [SM.det_back h]
    exact F.inv_ne h
  | bnd b => exact Bend.opp h
theorem back_ok {s : ST q} (h : s.Ok) : s.back.Ok ∧ s.back.det = F.inv s.det := by
  obtain ⟨h1, h2⟩ := pieces_ok h
  have h5 : ∀ p ∈ s.pieces.reverse.map bk, pcOk p := fun p hp => by
    obtain ⟨x, hx, rfl⟩ := List.mem_map.mp hp
    exact bk_ok (h1 x (List.mem_reverse.mp hx))
  obtain ⟨h3, h4⟩ := wPcs_ok (s := none_) none_ok h5
  refine ⟨h3, ?_⟩
  have k := bk_inv (row := s.pieces.reverse) fun p hp => h1 p (List.mem_reverse.mp hp)
  rw [pcsDet_rev, h2] at k
  have e : s.back.det = pcsDet (s.pieces.reverse.map bk) := by
    have z : (none_ : ST q).det = 1 := by
      show sgn 0 _ = _
      unfold sgn none_ SM.one SM.det
      rw [if_neg (by decide)]
      grind
    show (none_.wPcs _).det = _
    rw [h4, z]
    grind
  rw [e]
  have k2 := F.mul_inv (det_ne0 h)
  exact F.mul_cancel (det_ne0 h) (k.trans k2.symm)
end ST
end
end K19

/-! TEXT K19M3 -/
set_option autoImplicit false
set_option linter.all false
/-! PLAIN: the order of the steps. -/
namespace K19
/-! ### numbers -/
def msN (q : Nat) : Nat := (q * q - 1) * (q * q - q) * q * q
def mbN (q d : Nat) : Nat := (q - 1) * q ^ (d - 2)
def bsN (q : Nat) : List Nat → Nat
  | [] => 1
  | d :: ds => mbN q d * bsN q ds
def trN (q : Nat) : Nat → Nat
  | 0 => 1
  | k + 1 => (q + 1) * q ^ k
def mstN (q : Nat) (ds : List Nat) : Nat := msN q * bsN q ds * trN q ds.length
theorem bsN_app (q : Nat) (ds : List Nat) (d : Nat) : bsN q (ds ++ [d]) = bsN q ds * mbN q d := by
  induction ds with
  | nil =>
    show mbN q d * 1 = 1 * mbN q d
    omega
  | cons x ds ih =>
    show mbN q x * bsN q (ds ++ [d]) = mbN q x * bsN q ds * mbN q d
    rw [ih, Nat.mul_assoc]
theorem trN_succ (q k : Nat) : trN q (k + 1) = trN q k * (if k = 0 then q + 1 else q) := by
  cases k with
  | zero =>
    show (q + 1) * q ^ 0 = 1 * _
    rw [if_pos rfl, Nat.pow_zero]
    omega
  | succ k =>
    show (q + 1) * q ^ (k + 1) = (q + 1) * q ^ k * _
    rw [if_neg (Nat.succ_ne_zero k), Nat.pow_succ, Nat.mul_assoc]
theorem mst_snoc (q : Nat) (ds : List Nat) (d : Nat) : mstN q (ds ++ [d]) = mstN q ds * mbN q d * (if ds.length = 0 then q + 1 else q) := by
  unfold mstN
  rw [bsN_app, List.length_append]
  show _ * trN q (ds.length + 1) = _
  rw [trN_succ]
  generalize (if ds.length = 0 then q + 1 else q) = r
  generalize trN q ds.length = t
  generalize msN q = m
  generalize bsN q ds = b
  generalize mbN q d = e
  rw [Nat.mul_assoc m b t, Nat.mul_assoc m (b * t) e, Nat.mul_assoc m (b * t * e) r, Nat.mul_assoc m (b * e) (t * r), Nat.mul_right_comm b t e, Nat.mul_assoc (b * e) t r]
section
variable {q : Nat} [Fld q]
def dg (n : Nat) : F q := ⟨n % q, Nat.mod_lt n (by have := q_bd (q := q); omega)⟩
theorem dg_v (n : Nat) : (dg n : F q).v = n % q := rfl
theorem dg_of (a : F q) : dg a.v = a := F.ext' (Nat.mod_eq_of_lt a.h)
def allF (q : Nat) [Fld q] : List (F q) := (List.range q).map dg
theorem mem_allF (a : F q) : a ∈ allF q := List.mem_map.mpr ⟨a.v, List.mem_range.mpr a.h, dg_of a⟩
theorem nodup_map {α β : Type} {f : α → β} : ∀ {l : List α}, (∀ x ∈ l, ∀ y ∈ l, f x = f y → x = y) → l.Nodup → (l.map f).Nodup
  | [], _, _ => List.nodup_nil
  | a :: l, h, n => by
    rw [List.map_cons, List.nodup_cons]
    rw [List.nodup_cons] at n
    refine ⟨fun m => ?_, nodup_map (fun x hx y hy => h x (List.mem_cons_of_mem _ hx) y (List.mem_cons_of_mem _ hy)) n.2⟩
    obtain ⟨x, hx, e⟩ := List.mem_map.mp m
    have := h x (List.mem_cons_of_mem _ hx) a List.mem_cons_self e
    exact n.1 (this ▸ hx)
theorem allF_nodup : (allF q).Nodup := nodup_map (fun x hx y hy e => by
  have h1 := List.mem_range.mp hx
  have h2 := List.mem_range.mp hy
  have := congrArg F.v e
  rwa [dg_v, dg_v, Nat.mod_eq_of_lt h1, Nat.mod_eq_of_lt h2] at this) List.nodup_range
theorem allF_len : (allF q).length = q := by simp [allF]
/-- the places of one value in a list without another of it -/
theorem filter_one {α : Type} [DecidableEq α] {l : List α} {p : α → Bool} {x : α} (h : ∀ y, p y = true ↔ y = x) (m : x ∈ l) (n : l.Nodup) : (l.filter p).length = 1 := by
  induction l with
  | nil => cases m
  | cons a l ih =>
    rw [List.nodup_cons] at n
    by_cases e : a = x
    · subst e
      have z : l.filter p = [] := by
        rw [List.filter_eq_nil_iff]
        intro y hy hp
        exact n.1 ((h y).mp hp ▸ hy)
      rw [List.filter_cons, if_pos ((h a).mpr rfl), z]
      rfl
    · have : ¬ p a = true := fun hp => e ((h a).mp hp)
      rw [List.filter_cons, if_neg this]
      exact ih (by
        rcases List.mem_cons.mp m with m | m
        · exact absurd m.symm e
        · exact m) n.2
theorem filter_not {α : Type} {l : List α} {p : α → Bool} : (l.filter p).length + (l.filter fun x => !p x).length = l.length := by
  induction l with
  | nil => rfl
  | cons a l ih =>
    rw [List.filter_cons, List.filter_cons]
    cases hp : p a with
    | true =>
      simp only [if_true, Bool.not_true, Bool.false_eq_true, if_false, List.length_cons]
      omega
    | false =>
      simp only [if_true, Bool.not_false, Bool.false_eq_true, if_false, List.length_cons]
      omega
theorem flat_len {α β : Type} {f : α → List β} {n : Nat} : ∀ {l : List α}, (∀ x ∈ l, (f x).length = n) → (l.flatMap f).length = l.length * n
  | [], _ => by simp
  | a :: l, h => by
    rw [List.flatMap_cons, List.length_append, h a List.mem_cons_self, flat_len fun x hx => h x (List.mem_cons_of_mem _ hx), List.length_cons, Nat.add_mul]
    omega
/-- pairs d, e by a test -/
def prs (p : F q → F q → Bool) : List (F q × F q) := (allF q).flatMap fun d => ((allF q).filter (p d)).map fun e => (d, e)
theorem mem_prs {p : F q → F q → Bool} {x : F q × F q} : x ∈ prs p ↔ p x.1 x.2 = true := by
  unfold prs
  rw [List.mem_flatMap]
  constructor
  · rintro ⟨d, _, h⟩
    obtain ⟨e, he, rfl⟩ := List.mem_map.mp h
    exact (List.mem_filter.mp he).2
  · intro h
    exact ⟨x.1, mem_allF _, List.mem_map.mpr ⟨x.2, List.mem_filter.mpr ⟨mem_allF _, h⟩, rfl⟩⟩
theorem flat_nodup {α β γ : Type} {f : α → List β} {g : β → α} (hg : ∀ a, ∀ b ∈ f a, g b = a) : ∀ {l : List α}, l.Nodup → (∀ a ∈ l, (f a).Nodup) → (l.flatMap f).Nodup
  | [], _, _ => List.nodup_nil
  | a :: l, n, h => by
    rw [List.nodup_cons] at n
    rw [List.flatMap_cons, List.nodup_append]
    refine ⟨h a List.mem_cons_self, flat_nodup (γ := γ) hg n.2 fun x hx => h x (List.mem_cons_of_mem _ hx), fun x hx y hy e => ?_⟩
    subst e
    obtain ⟨b, hb, hy⟩ := List.mem_flatMap.mp hy
    have e1 := hg a x hx
    have e2 := hg b x hy
    exact n.1 (e1 ▸ e2 ▸ hb)
theorem prs_nodup (p : F q → F q → Bool) : (prs p).Nodup := flat_nodup (γ := Unit) (g := Prod.fst) (fun a b hb => by
  obtain ⟨e, _, rfl⟩ := List.mem_map.mp hb
  rfl) allF_nodup fun a _ => nodup_map (fun x _ y _ e => (Prod.mk.injEq .. ▸ e).2) (allF_nodup.filter _)
theorem prs_len {p : F q → F q → Bool} {n : Nat} (h : ∀ d, ((allF q).filter (p d)).length = n) : (prs p).length = q * n := by
  unfold prs
  rw [flat_len (n := n) fun d _ => by rw [List.length_map]; exact h d, allF_len]
theorem prs_not (p : F q → F q → Bool) : (prs p).length + (prs fun d e => !p d e).length = q * q := by
  have h : ∀ l : List (F q), (l.flatMap fun d => ((allF q).filter (p d)).map fun e => (d, e)).length + (l.flatMap fun d => ((allF q).filter fun e => !p d e).map fun e => (d, e)).length = l.length * q := fun l => by
    induction l with
    | nil => simp
    | cons a l ih =>
      rw [List.flatMap_cons, List.flatMap_cons, List.length_append, List.length_append, List.length_map, List.length_map, List.length_cons, Nat.add_mul]
      have := filter_not (l := allF q) (p := p a)
      rw [allF_len] at this
      omega
  have := h (allF q)
  rw [allF_len] at this
  exact this
/-- a e - b d = u has q answers -/
theorem lin_len {a b : F q} (h : ¬ (a = 0 ∧ b = 0)) (u : F q) : (prs fun d e => decide (a * e - b * d = u)).length = q := by
  by_cases ha : a = 0
  · have hb : b ≠ 0 := fun e => h ⟨ha, e⟩
    subst ha
    have k := F.mul_inv hb
    have e0 : ∀ d e : F q, decide (0 * e - b * d = u) = decide (d = -(u * F.inv b)) := fun d e => decide_eq_decide.mpr ⟨fun z => by
      generalize F.inv b = i at *
      grind, fun z => by
      generalize F.inv b = i at *
      grind⟩
    have e1 : (prs fun d e : F q => decide (0 * e - b * d = u)) = (allF q).flatMap fun d => if decide (d = -(u * F.inv b)) = true then (allF q).map fun e => (d, e) else [] := by
      unfold prs
      congr 1
      funext d
      by_cases hd : d = -(u * F.inv b)
      · rw [if_pos (decide_eq_true hd)]
        congr 1
        rw [List.filter_eq_self]
        intro e _
        show decide (0 * e - b * d = u) = true
        rw [e0]
        exact decide_eq_true hd
      · rw [if_neg (by simpa using hd)]
        have : (allF q).filter (fun e => decide (0 * e - b * d = u)) = [] := by
          rw [List.filter_eq_nil_iff]
          intro e _
          show ¬ decide (0 * e - b * d = u) = true
          rw [e0]
          simpa using hd
        rw [this]
        rfl
    rw [e1]
    have e2 : ∀ l : List (F q), (l.flatMap fun d => if decide (d = -(u * F.inv b)) = true then (allF q).map fun e => (d, e) else []).length = (l.filter fun d => decide (d = -(u * F.inv b))).length * q := fun l => by
      induction l with
      | nil => simp
      | cons x l ih =>
        rw [List.flatMap_cons, List.length_append, ih, List.filter_cons]
        by_cases hx : x = -(u * F.inv b)
        · rw [if_pos (decide_eq_true hx), if_pos (decide_eq_true hx), List.length_map, allF_len, List.length_cons, Nat.add_mul]
          omega
        · rw [if_neg (by simpa using hx), if_neg (by simpa using hx)]
          simp
    rw [e2, filter_one (x := -(u * F.inv b)) (fun y => by simp) (mem_allF _) allF_nodup, Nat.one_mul]
  · have k := F.mul_inv ha
    rw [prs_len (n := 1) fun d => filter_one (x := (u + b * d) * F.inv a) (fun e => by
      rw [decide_eq_true_iff]
      constructor
      · intro z
        generalize F.inv a = i at *
        grind
      · intro z
        generalize F.inv a = i at *
        grind) (mem_allF _) allF_nodup, Nat.mul_one]
def secs (a b : F q) : List (F q × F q) := prs fun d e => !decide (a * e = b * d)
theorem secs_len {a b : F q} (h : ¬ (a = 0 ∧ b = 0)) : (secs a b).length = q * q - q := by
  have h1 := prs_not (q := q) fun d e => decide (a * e - b * d = 0)
  rw [lin_len h] at h1
  have h2 : (fun d e : F q => !decide (a * e - b * d = 0)) = fun d e => !decide (a * e = b * d) := by
    funext d e
    congr 1
    exact decide_eq_decide.mpr ⟨fun z => by grind, fun z => by grind⟩
  rw [h2] at h1
  unfold secs
  omega
theorem mem_secs {a b : F q} {x : F q × F q} : x ∈ secs a b ↔ a * x.2 ≠ b * x.1 := by
  unfold secs
  rw [mem_prs]
  simp
theorem secs_cnt {a b : F q} (h : ¬ (a = 0 ∧ b = 0)) {u : F q} (hu : u ≠ 0) : ((secs a b).filter fun x => decide (a * x.2 - b * x.1 = u)).length = q := by
  refine Eq.trans ?_ (lin_len h u)
  apply List.Perm.length_eq
  have hc : ∀ {x y : List (F q × F q)}, x.Nodup → y.Nodup → (∀ z, z ∈ x ↔ z ∈ y) → x.Perm y := fun hx hy h => (List.perm_ext_iff_of_nodup hx hy).mpr h
  refine hc ((prs_nodup _).filter _) (prs_nodup _) fun x => ?_
  rw [List.mem_filter, mem_secs, mem_prs, decide_eq_true_iff]
  constructor
  · exact fun z => z.2
  · intro z
    refine ⟨fun e => hu ?_, z⟩
    grind
/-! ### the maps -/
def mapA (l : Nat) : F q := dg ((l + 1) / q)
def mapB (l : Nat) : F q := dg (l + 1)
def mapAt (n : Nat) : SM q :=
  let l := n / q / (q * q - q) / q
  let x := (secs (mapA l : F q) (mapB l)).getD (n / q % (q * q - q)) (0, 0)
  ⟨mapA l, mapB l, dg (n / q / (q * q - q)), x.1, x.2, dg n⟩
theorem qq_pos : 0 < q * q - q := by
  have h := q_bd (q := q)
  have : q * 2 ≤ q * q := Nat.mul_le_mul_left q h.1
  omega
theorem mapA_v {l : Nat} (h : l < q * q - 1) : (mapA l : F q).v = (l + 1) / q := by
  have hq := q_bd (q := q)
  unfold mapA
  rw [dg_v]
  exact Nat.mod_eq_of_lt (Nat.div_lt_of_lt_mul (by omega))
theorem map_ab {l : Nat} (h : l < q * q - 1) : ¬ ((mapA l : F q) = 0 ∧ (mapB l : F q) = 0) := fun e => by
  have hq := q_bd (q := q)
  have e1 := congrArg F.v e.1
  have e2 := congrArg F.v e.2
  rw [mapA_v h, F.zero_v] at e1
  unfold mapB at e2
  rw [dg_v, F.zero_v] at e2
  have := Nat.div_add_mod (l + 1) q
  rw [e1, e2] at this
  omega
theorem mapAt_l {n : Nat} (h : n < msN q) : n / q / (q * q - q) / q < q * q - 1 := by
  unfold msN at h
  have hq := q_bd (q := q)
  rw [Nat.div_div_eq_div_mul, Nat.div_div_eq_div_mul]
  apply Nat.div_lt_of_lt_mul
  have : (q * (q * q - q) * q) * (q * q - 1) = (q * q - 1) * (q * q - q) * q * q := by
    rw [Nat.mul_comm q (q * q - q), Nat.mul_comm _ (q * q - 1), ← Nat.mul_assoc (q * q - 1), ← Nat.mul_assoc (q * q - 1)]
  rw [← Nat.mul_assoc q, this]
  exact h
theorem mapAt_de {n : Nat} (h : n < msN q) : ∃ d e : F q, (secs (mapA (n / q / (q * q - q) / q) : F q) (mapB (n / q / (q * q - q) / q)))[n / q % (q * q - q)]? = some (d, e) ∧ (mapAt n : SM q).d = d ∧ (mapAt n : SM q).e = e ∧ (mapAt n : SM q).det ≠ 0 := by
  have h1 := map_ab (q := q) (mapAt_l h)
  have h2 := secs_len h1
  have h3 : n / q % (q * q - q) < (secs (mapA (n / q / (q * q - q) / q) : F q) (mapB (n / q / (q * q - q) / q))).length := by
    rw [h2]
    exact Nat.mod_lt _ (qq_pos (q := q))
  have h4 := List.getElem?_eq_getElem h3
  have h5 := mem_secs.mp (List.getElem_mem h3)
  have h6 : (secs (mapA (n / q / (q * q - q) / q) : F q) (mapB (n / q / (q * q - q) / q))).getD (n / q % (q * q - q)) (0, 0) = (secs (mapA (n / q / (q * q - q) / q) : F q) (mapB (n / q / (q * q - q) / q)))[n / q % (q * q - q)] := by
    rw [List.getD_eq_getElem?_getD, h4]
    rfl
  refine ⟨_, _, h4, congrArg Prod.fst h6, congrArg Prod.snd h6, ?_⟩
  have e1 : (mapAt n : SM q).det = (mapA (n / q / (q * q - q) / q) : F q) * (mapAt n : SM q).e - (mapB (n / q / (q * q - q) / q)) * (mapAt n : SM q).d := rfl
  have e2 : (mapAt n : SM q).d = _ := congrArg Prod.fst h6
  have e3 : (mapAt n : SM q).e = _ := congrArg Prod.snd h6
  rw [e1, e2, e3]
  intro z
  apply h5
  grind
/-! ### the bends -/
/-- l % q, l / q % q, .. -/
def digs (l : Nat) : Nat → List (F q)
  | 0 => []
  | k + 1 => digs l k ++ [dg (l / q ^ k)]
theorem digs_len (l k : Nat) : (digs l k : List (F q)).length = k := by
  induction k with
  | zero => rfl
  | succ k ih =>
    show (digs l k ++ [_]).length = _
    rw [List.length_append, ih]
    rfl
def bendAt (d n : Nat) : List (F q) := [0, 0] ++ (dg (n % (q - 1) + 1) :: digs (n / (q - 1)) (d - 2)).reverse
theorem bendAt_ok {d : Nat} (n : Nat) (h1 : 2 ≤ d) (h2 : d ≤ 6) : Bend (bendAt d n : List (F q)) ∧ (bendAt d n : List (F q)).length = d + 1 := by
  have hq := q_bd (q := q)
  have hl : (bendAt d n : List (F q)).length = d + 1 := by
    unfold bendAt
    rw [List.length_append, List.length_reverse, List.length_cons (as := digs _ _), digs_len]
    show 2 + _ = _
    omega
  refine ⟨⟨by omega, by omega, rfl, rfl, ?_⟩, hl⟩
  rw [hl]
  have e : co (bendAt d n : List (F q)) (d + 1 - 1) = dg (n % (q - 1) + 1) := by
    unfold bendAt co
    rw [List.getD_eq_getElem?_getD, List.getElem?_append_right (by show 2 ≤ _; omega), List.getElem?_reverse (by rw [List.length_cons (as := digs _ _), digs_len]; show d + 1 - 1 - 2 < _; omega)]
    rw [List.length_cons (as := digs _ _), digs_len]
    have : d - 2 + 1 - 1 - (d + 1 - 1 - ([0, 0] : List (F q)).length) = 0 := by
      show d - 2 + 1 - 1 - (d + 1 - 1 - 2) = 0
      omega
    rw [this]
    rfl
  rw [e]
  intro z
  have := congrArg F.v z
  rw [dg_v, F.zero_v] at this
  have h3 : n % (q - 1) < q - 1 := Nat.mod_lt _ (by omega)
  rw [Nat.mod_eq_of_lt (by omega)] at this
  omega
/-- the bends from l on, the last degree first: the bends, what is left -/
def bendsAt (l : Nat) : List Nat → List (List (F q)) × Nat
  | [] => ([], l)
  | d :: r => let x := bendsAt (l / mbN q d) r; (bendAt d (l % mbN q d) :: x.1, x.2)
theorem bendsAt_left (l : Nat) (ds : List Nat) : (bendsAt l ds : List (List (F q)) × Nat).2 = l / bsN q ds := by
  induction ds generalizing l with
  | nil => exact (Nat.div_one l).symm
  | cons d r ih =>
    show (bendsAt (l / mbN q d) r : List (List (F q)) × Nat).2 = _
    rw [ih, Nat.div_div_eq_div_mul]
    rfl
theorem bendsAt_ok (l : Nat) (ds : List Nat) (h : ∀ d ∈ ds, 2 ≤ d ∧ d ≤ 6) : (∀ b ∈ (bendsAt l ds : List (List (F q)) × Nat).1, Bend b) ∧ (bendsAt l ds : List (List (F q)) × Nat).1.map List.length = ds.map (· + 1) := by
  induction ds generalizing l with
  | nil => exact ⟨fun b hb => absurd hb List.not_mem_nil, rfl⟩
  | cons d r ih =>
    obtain ⟨i1, i2⟩ := ih (l / mbN q d) fun x hx => h x (List.mem_cons_of_mem _ hx)
    have hd := h d List.mem_cons_self
    have hb := bendAt_ok (q := q) (l % mbN q d) hd.1 hd.2
    refine ⟨fun b hb2 => ?_, ?_⟩
    · rcases List.mem_cons.mp hb2 with rfl | hb2
      · exact hb.1
      · exact i1 b hb2
    · show (bendAt d _ : List (F q)).length :: _ = _
      rw [hb.2, List.map_cons, ← i2]
def toR (n : Nat) : Option (F q) := if n = 0 then none else some (dg (n - 1))
def stepAt (ds : List Nat) (n : Nat) : ST q :=
  if ds = [] then ⟨none, [], [], mapAt (n % msN q)⟩
  else
    let l := n / msN q
    let t : List (F q) := digs l (ds.length - 1)
    let x := bendsAt (l / q ^ (ds.length - 1)) ds.reverse
    ⟨toR x.2, x.1.reverse, t.reverse, mapAt (n % msN q)⟩
theorem msN_pos : 0 < msN q := by
  have hq := q_bd (q := q)
  have h1 := qq_pos (q := q)
  unfold msN
  have h2 : 0 < q * q - 1 := by omega
  exact Nat.mul_pos (Nat.mul_pos (Nat.mul_pos h2 h1) (by omega)) (by omega)
theorem stepAt_ok {ds : List Nat} {n : Nat} (h : ∀ d ∈ ds, 2 ≤ d ∧ d ≤ 6) : (stepAt ds n : ST q).Ok ∧ (stepAt ds n : ST q).bends.map List.length = ds.map (· + 1) := by
  have hm := mapAt_de (q := q) (Nat.mod_lt n (msN_pos (q := q)))
  obtain ⟨_, _, _, _, _, hdet⟩ := hm
  unfold stepAt
  by_cases hd : ds = []
  · rw [if_pos hd]
    refine ⟨⟨fun b hb => absurd hb List.not_mem_nil, hdet, rfl, fun _ => rfl⟩, ?_⟩
    rw [hd]
    rfl
  · rw [if_neg hd]
    obtain ⟨b1, b2⟩ := bendsAt_ok (q := q) (n / msN q / q ^ (ds.length - 1)) ds.reverse fun d hd => h d (List.mem_reverse.mp hd)
    have bl := congrArg List.length b2
    rw [List.length_map, List.length_map, List.length_reverse] at bl
    refine ⟨⟨fun b hb => b1 b (List.mem_reverse.mp hb), hdet, ?_, fun e => ?_⟩, ?_⟩
    · show (List.reverse _).length = (List.reverse _).length - 1
      rw [List.length_reverse, List.length_reverse, digs_len, bl]
    · have e2 := congrArg List.length (show List.reverse _ = [] from e)
      rw [List.length_reverse, bl] at e2
      exact absurd (List.eq_nil_of_length_eq_zero e2) hd
    · show (List.reverse _).map List.length = _
      rw [List.map_reverse, b2, ← List.map_reverse, List.reverse_reverse]
end
end K19

/-! TEXT K19M4 -/
set_option autoImplicit false
set_option linter.all false
/-! PLAIN: power series over a commutative ring, and their derivation. -/
namespace K19
open Lean.Grind
local instance (priority := low) ncI {R : Type} [i : CommRing R] : NatCast R := i.toRing.toSemiring.natCast
local instance (priority := low) icI {R : Type} [i : CommRing R] : IntCast R := i.toRing.intCast
structure PS (R : Type) where
  c : Nat → R
namespace PS
section
variable {R : Type} [CommRing R]
theorem ext' {f g : PS R} (h : ∀ n, f.c n = g.c n) : f = g := by
  cases f
  cases g
  congr 1
  exact funext h
def tl (f : PS R) : PS R := ⟨fun n => f.c (n + 1)⟩
def add (f g : PS R) : PS R := ⟨fun n => f.c n + g.c n⟩
def neg (f : PS R) : PS R := ⟨fun n => -f.c n⟩
def cst (r : R) : PS R := ⟨fun n => match n with | 0 => r | _ + 1 => 0⟩
def mulC (f g : Nat → R) : Nat → R
  | 0 => f 0 * g 0
  | n + 1 => f 0 * g (n + 1) + mulC (fun k => f (k + 1)) g n
def mul (f g : PS R) : PS R := ⟨mulC f.c g.c⟩
theorem mulC_add_l (f g h : Nat → R) (n : Nat) : mulC (fun k => f k + g k) h n = mulC f h n + mulC g h n := by
  induction n generalizing f g with
  | zero =>
    show (f 0 + g 0) * h 0 = f 0 * h 0 + g 0 * h 0
    grind
  | succ n ih =>
    show (f 0 + g 0) * h (n + 1) + mulC (fun k => f (k + 1) + g (k + 1)) h n = f 0 * h (n + 1) + mulC (fun k => f (k + 1)) h n + (g 0 * h (n + 1) + mulC (fun k => g (k + 1)) h n)
    rw [ih (fun k => f (k + 1)) (fun k => g (k + 1))]
    grind
theorem mulC_add_r (f g h : Nat → R) (n : Nat) : mulC f (fun k => g k + h k) n = mulC f g n + mulC f h n := by
  induction n generalizing f with
  | zero =>
    show f 0 * (g 0 + h 0) = f 0 * g 0 + f 0 * h 0
    grind
  | succ n ih =>
    show f 0 * (g (n + 1) + h (n + 1)) + mulC (fun k => f (k + 1)) (fun k => g k + h k) n = f 0 * g (n + 1) + mulC (fun k => f (k + 1)) g n + (f 0 * h (n + 1) + mulC (fun k => f (k + 1)) h n)
    rw [ih (fun k => f (k + 1))]
    grind
theorem mulC_scale (r : R) (f g : Nat → R) (n : Nat) : mulC (fun k => r * f k) g n = r * mulC f g n := by
  induction n generalizing f with
  | zero =>
    show r * f 0 * g 0 = r * (f 0 * g 0)
    grind
  | succ n ih =>
    show r * f 0 * g (n + 1) + mulC (fun k => r * f (k + 1)) g n = r * (f 0 * g (n + 1) + mulC (fun k => f (k + 1)) g n)
    rw [ih (fun k => f (k + 1))]
    grind
theorem mulC_zero (g : Nat → R) (n : Nat) : mulC (fun _ => (0 : R)) g n = 0 := by
  induction n with
  | zero =>
    show (0 : R) * g 0 = 0
    grind
  | succ n ih =>
    show (0 : R) * g (n + 1) + mulC (fun _ => (0 : R)) g n = 0
    rw [ih]
    grind
/-- the other way to split -/
theorem mulC_r (f g : Nat → R) (n : Nat) : mulC f g (n + 1) = f (n + 1) * g 0 + mulC f (fun k => g (k + 1)) n := by
  induction n generalizing f with
  | zero =>
    show f 0 * g 1 + f 1 * g 0 = f 1 * g 0 + f 0 * g 1
    grind
  | succ n ih =>
    show f 0 * g (n + 2) + mulC (fun k => f (k + 1)) g (n + 1) = f (n + 2) * g 0 + (f 0 * g (n + 2) + mulC (fun k => f (k + 1)) (fun k => g (k + 1)) n)
    rw [ih (fun k => f (k + 1))]
    grind
theorem mulC_comm (f g : Nat → R) (n : Nat) : mulC f g n = mulC g f n := by
  induction n generalizing f g with
  | zero =>
    show f 0 * g 0 = g 0 * f 0
    grind
  | succ n ih =>
    rw [mulC_r]
    show f (n + 1) * g 0 + mulC f (fun k => g (k + 1)) n = g 0 * f (n + 1) + mulC (fun k => g (k + 1)) f n
    rw [ih f]
    grind
theorem mulC_congr {f f' g g' : Nat → R} (h1 : ∀ n, f n = f' n) (h2 : ∀ n, g n = g' n) (n : Nat) : mulC f g n = mulC f' g' n := by rw [funext h1, funext h2]
theorem mulC_tl (f g : Nat → R) : (fun n => mulC f g (n + 1)) = fun n => f 0 * g (n + 1) + mulC (fun k => f (k + 1)) g n := rfl
theorem mulC_assoc (f g h : Nat → R) (n : Nat) : mulC (mulC f g) h n = mulC f (mulC g h) n := by
  induction n generalizing f with
  | zero =>
    show f 0 * g 0 * h 0 = f 0 * (g 0 * h 0)
    grind
  | succ n ih =>
    show f 0 * g 0 * h (n + 1) + mulC (fun k => f 0 * g (k + 1) + mulC (fun k => f (k + 1)) g k) h n = f 0 * (g 0 * h (n + 1) + mulC (fun k => g (k + 1)) h n) + mulC (fun k => f (k + 1)) (mulC g h) n
    rw [mulC_add_l (fun k => f 0 * g (k + 1)) (mulC (fun k => f (k + 1)) g), mulC_scale (f 0) (fun k => g (k + 1)), ih (fun k => f (k + 1))]
    grind
theorem mulC_one (g : Nat → R) (n : Nat) : mulC (cst (1 : R)).c g n = g n := by
  cases n with
  | zero =>
    show (1 : R) * g 0 = g 0
    grind
  | succ n =>
    show (1 : R) * g (n + 1) + mulC (fun _ => (0 : R)) g n = g (n + 1)
    rw [mulC_zero]
    grind
instance : Add (PS R) := ⟨add⟩
instance : Mul (PS R) := ⟨mul⟩
instance : Neg (PS R) := ⟨neg⟩
instance : Sub (PS R) := ⟨fun a b => add a (neg b)⟩
instance : NatCast (PS R) := ⟨fun n => cst (n : R)⟩
instance : IntCast (PS R) := ⟨fun n => cst (n : R)⟩
instance (n : Nat) : OfNat (PS R) n := ⟨cst (OfNat.ofNat n : R)⟩
instance : SMul Nat (PS R) := ⟨fun n a => mul (cst (n : R)) a⟩
instance : SMul Int (PS R) := ⟨fun n a => mul (cst (n : R)) a⟩
def npow (a : PS R) : Nat → PS R
  | 0 => cst 1
  | n + 1 => mul (npow a n) a
instance : HPow (PS R) Nat (PS R) := ⟨npow⟩
theorem add_c (f g : PS R) (n : Nat) : (f + g).c n = f.c n + g.c n := rfl
theorem neg_c (f : PS R) (n : Nat) : (-f).c n = -f.c n := rfl
theorem sub_c (f g : PS R) (n : Nat) : (f - g).c n = f.c n - g.c n := by
  show f.c n + -g.c n = f.c n - g.c n
  grind
theorem mul_c (f g : PS R) : (f * g).c = mulC f.c g.c := rfl
theorem cst_add (a b : R) : (cst (a + b) : PS R) = cst a + cst b := ext' fun n => by
  cases n with
  | zero => rfl
  | succ n =>
    show (0 : R) = 0 + 0
    grind
theorem cst_mul (r : R) (f : PS R) (n : Nat) : (cst r * f).c n = r * f.c n := by
  show mulC (cst r).c f.c n = _
  cases n with
  | zero => rfl
  | succ n =>
    show r * f.c (n + 1) + mulC (fun _ => (0 : R)) f.c n = _
    rw [mulC_zero]
    grind
theorem cst_zero : (cst (0 : R) : PS R) = ⟨fun _ => 0⟩ := ext' fun n => by cases n <;> rfl
theorem zero_c (n : Nat) : (0 : PS R).c n = 0 := by
  show (cst (0 : R)).c n = 0
  rw [cst_zero]
instance : CommRing (PS R) where
  add_zero f := ext' fun n => by
    rw [add_c, zero_c]
    grind
  add_comm f g := ext' fun n => by
    rw [add_c, add_c]
    grind
  add_assoc f g h := ext' fun n => by
    rw [add_c, add_c, add_c, add_c]
    grind
  mul_assoc f g h := ext' fun n => mulC_assoc f.c g.c h.c n
  mul_comm f g := ext' fun n => mulC_comm f.c g.c n
  mul_one f := ext' fun n => by
    show mulC f.c (cst (1 : R)).c n = f.c n
    rw [mulC_comm]
    exact mulC_one f.c n
  one_mul f := ext' fun n => mulC_one f.c n
  left_distrib f g h := ext' fun n => mulC_add_r f.c g.c h.c n
  right_distrib f g h := ext' fun n => mulC_add_l f.c g.c h.c n
  zero_mul f := ext' fun n => by
    show mulC (cst (0 : R)).c f.c n = (cst (0 : R)).c n
    rw [cst_zero]
    exact mulC_zero f.c n
  mul_zero f := ext' fun n => by
    show mulC f.c (cst (0 : R)).c n = (cst (0 : R)).c n
    rw [mulC_comm, cst_zero]
    exact mulC_zero f.c n
  pow_zero f := rfl
  pow_succ f n := rfl
  ofNat_succ n := by
    show (cst (OfNat.ofNat (n + 1) : R) : PS R) = cst (OfNat.ofNat n : R) + cst (1 : R)
    rw [← cst_add, Semiring.ofNat_succ]
  ofNat_eq_natCast n := by
    show (cst (OfNat.ofNat n : R) : PS R) = cst ((n : Nat) : R)
    rw [Semiring.ofNat_eq_natCast]
  nsmul_eq_natCast_mul n a := rfl
  neg_add_cancel f := ext' fun n => by
    rw [add_c, neg_c, zero_c]
    grind
  sub_eq_add_neg f g := rfl
  intCast_ofNat n := by
    show (cst ((OfNat.ofNat n : Int) : R) : PS R) = cst (OfNat.ofNat n : R)
    rw [Ring.intCast_ofNat]
  intCast_neg i := by
    show (cst ((-i : Int) : R) : PS R) = -cst ((i : Int) : R)
    rw [Ring.intCast_neg]
    refine ext' fun n => ?_
    cases n with
    | zero => rfl
    | succ n =>
      show (0 : R) = -0
      grind
  zsmul_natCast_eq_nsmul n a := by
    show mul (cst (((n : Nat) : Int) : R)) a = mul (cst ((n : Nat) : R)) a
    rw [Ring.intCast_natCast]
  neg_zsmul i a := by
    show mul (cst ((-i : Int) : R)) a = neg (mul (cst ((i : Int) : R)) a)
    refine ext' fun n => ?_
    show (cst ((-i : Int) : R) * a).c n = -(cst ((i : Int) : R) * a).c n
    rw [cst_mul, cst_mul, Ring.intCast_neg]
    grind
end
/-! ### the derivation -/
section
variable {R : Type} [CommRing R]
def der (f : PS R) : PS R := ⟨fun n => ((n + 1 : Nat) : R) * f.c (n + 1)⟩
/-- X f -/
def sh (f : PS R) : PS R := ⟨fun n => match n with | 0 => 0 | n + 1 => f.c n⟩
theorem split_c (f : PS R) : f = cst (f.c 0) + sh (tl f) := ext' fun n => by
  cases n with
  | zero =>
    show f.c 0 = f.c 0 + 0
    grind
  | succ n =>
    show f.c (n + 1) = 0 + f.c (n + 1)
    grind
theorem der_add (f g : PS R) : der (f + g) = der f + der g := ext' fun n => by
  show ((n + 1 : Nat) : R) * (f.c (n + 1) + g.c (n + 1)) = ((n + 1 : Nat) : R) * f.c (n + 1) + ((n + 1 : Nat) : R) * g.c (n + 1)
  grind
theorem natCast_succ (n : Nat) : ((n + 1 : Nat) : R) = (n : R) + 1 := Semiring.natCast_succ n
/-- X f differentiates to f + X f' -/
theorem der_sh (f : PS R) (n : Nat) : (der (sh f)).c n = f.c n + (sh (der f)).c n := by
  cases n with
  | zero =>
    show ((0 + 1 : Nat) : R) * f.c 0 = f.c 0 + 0
    rw [natCast_succ, Semiring.natCast_zero]
    grind
  | succ n =>
    show ((n + 1 + 1 : Nat) : R) * f.c (n + 1) = f.c (n + 1) + ((n + 1 : Nat) : R) * f.c (n + 1)
    rw [natCast_succ (n + 1)]
    grind
theorem mulC_sh (f : Nat → R) (g : PS R) (n : Nat) : mulC f (sh g).c (n + 1) = mulC f g.c n := by
  rw [mulC_r]
  show f (n + 1) * 0 + mulC f g.c n = _
  grind
theorem leib (n : Nat) : ∀ f g : PS R, (der (f * g)).c n = mulC (der f).c g.c n + mulC f.c (der g).c n := by
  induction n with
  | zero =>
    intro f g
    show ((0 + 1 : Nat) : R) * (f.c 0 * g.c 1 + f.c 1 * g.c 0) = ((0 + 1 : Nat) : R) * f.c 1 * g.c 0 + f.c 0 * (((0 + 1 : Nat) : R) * g.c 1)
    grind
  | succ n ih =>
    intro f g
    -- f = f0 + X t; f g = f0 g + X (t g)
    have e1 : ∀ k, (f * g).c (k + 1) = f.c 0 * g.c (k + 1) + (tl f * g).c k := fun k => rfl
    have e2 : (der (f * g)).c (n + 1) = f.c 0 * (der g).c (n + 1) + (tl f * g).c (n + 1) + (der (tl f * g)).c n := by
      show ((n + 1 + 1 : Nat) : R) * (f * g).c (n + 1 + 1) = f.c 0 * (((n + 1 + 1 : Nat) : R) * g.c (n + 1 + 1)) + (tl f * g).c (n + 1) + ((n + 1 : Nat) : R) * (tl f * g).c (n + 1)
      rw [e1, natCast_succ (n + 1)]
      grind
    have e3 : mulC f.c (der g).c (n + 1) = f.c 0 * (der g).c (n + 1) + mulC (tl f).c (der g).c n := rfl
    -- f' = t + X t'
    have e4 : (der f).c = fun k => (tl f).c k + (sh (der (tl f))).c k := by
      funext k
      rw [← der_sh (tl f) k]
      have := split_c f
      show ((k + 1 : Nat) : R) * f.c (k + 1) = ((k + 1 : Nat) : R) * (sh (tl f)).c (k + 1)
      rfl
    have e5 : mulC (der f).c g.c (n + 1) = (tl f * g).c (n + 1) + mulC (der (tl f)).c g.c n := by
      rw [e4, mulC_add_l]
      congr 1
      show (0 : R) * g.c (n + 1) + mulC (der (tl f)).c g.c n = _
      grind
    rw [e2, e3, e5, ih (tl f) g]
    grind
theorem der_mul (f g : PS R) : der (f * g) = der f * g + f * der g := ext' fun n => leib n f g
theorem der_cst (r : R) : der (cst r) = 0 := ext' fun n => by
  rw [zero_c]
  show ((n + 1 : Nat) : R) * 0 = 0
  grind
/-- a derivation by the numbers -/
def mp (d : R → R) (f : PS R) : PS R := ⟨fun n => d (f.c n)⟩
structure Der (d : R → R) : Prop where
  add : ∀ a b, d (a + b) = d a + d b
  mul : ∀ a b, d (a * b) = d a * b + a * d b
theorem mp_der {d : R → R} (h : Der d) : Der (mp d : PS R → PS R) := by
  refine ⟨fun a b => ext' fun n => h.add _ _, fun a b => ext' fun n => ?_⟩
  have h0 : d 0 = 0 := by
    have := h.add 0 0
    have e : (0 : R) + 0 = 0 := by grind
    rw [e] at this
    grind
  have key : ∀ (n : Nat) (f g : Nat → R), d (mulC f g n) = mulC (fun k => d (f k)) g n + mulC f (fun k => d (g k)) n := fun n => by
    induction n with
    | zero =>
      intro f g
      exact h.mul _ _
    | succ n ih =>
      intro f g
      show d (f 0 * g (n + 1) + mulC (fun k => f (k + 1)) g n) = d (f 0) * g (n + 1) + mulC (fun k => d (f (k + 1))) g n + (f 0 * d (g (n + 1)) + mulC (fun k => f (k + 1)) (fun k => d (g k)) n)
      rw [h.add, h.mul, ih]
      grind
  exact key n a.c b.c
theorem der_der : Der (der : PS R → PS R) := ⟨der_add, der_mul⟩
end
end PS
end K19

/-! TEXT K19M5 -/
set_option autoImplicit false
set_option linter.all false
/-! PLAIN: polynomials in two letters, as lists of terms. -/
namespace K19
open PS
abbrev PL (q : Nat) := List ((Nat × Nat) × F q)
section
variable {q : Nat} [Fld q]
abbrev G (q : Nat) := PS (PS (F q))
def getP (l : PL q) (k : Nat × Nat) : F q := match l.find? fun t => decide (t.1 = k) with
  | some t => t.2
  | none => 0
def putP (l : PL q) (k : Nat × Nat) (c : F q) : PL q := if (l.any fun t => decide (t.1 = k)) = true then l.map (fun t => if t.1 = k then (t.1, c) else t) else l ++ [(k, c)]
def ND (l : PL q) : Prop := (l.map Prod.fst).Nodup
theorem getP_cons (t : (Nat × Nat) × F q) (l : PL q) (k : Nat × Nat) : getP (t :: l) k = if t.1 = k then t.2 else getP l k := by
  unfold getP
  rw [List.find?_cons]
  by_cases h : t.1 = k
  · rw [decide_eq_true h, if_pos h]
  · rw [decide_eq_false h, if_neg h]
theorem getP_app (l : PL q) (k k' : Nat × Nat) (c : F q) (h : (l.any fun t => decide (t.1 = k)) = false) : getP (l ++ [(k, c)]) k' = if k = k' then c else getP l k' := by
  induction l with
  | nil =>
    show getP [(k, c)] k' = _
    rw [getP_cons]
  | cons t l ih =>
    rw [List.any_cons, Bool.or_eq_false_iff] at h
    rw [List.cons_append, getP_cons, getP_cons, ih h.2]
    have h1 := of_decide_eq_false h.1
    by_cases e : t.1 = k'
    · rw [if_pos e, if_pos e, if_neg (fun z => h1 (e.trans z.symm))]
    · rw [if_neg e, if_neg e]
theorem getP_map (l : PL q) (k k' : Nat × Nat) (c : F q) : getP (l.map fun t => if t.1 = k then (t.1, c) else t) k' = if k = k' ∧ (l.any fun t => decide (t.1 = k)) = true then c else getP l k' := by
  induction l with
  | nil =>
    rw [if_neg (fun z => by simp at z)]
    rfl
  | cons t l ih =>
    rw [List.map_cons, getP_cons, getP_cons, ih, List.any_cons]
    by_cases e : t.1 = k
    · rw [if_pos e]
      by_cases e2 : k = k'
      · rw [if_pos (e.trans e2), if_pos ⟨e2, by rw [decide_eq_true e]; rfl⟩]
      · rw [if_neg (fun z => e2 (e.symm.trans z)), if_neg (fun z => e2 z.1), if_neg (fun z => e2 (e.symm.trans z)), if_neg (fun z => e2 z.1)]
    · rw [if_neg e, decide_eq_false e, Bool.false_or]
      by_cases e2 : t.1 = k'
      · rw [if_pos e2, if_neg (fun z => e (e2.trans z.1.symm)), if_pos e2]
      · rw [if_neg e2, if_neg e2]
theorem getP_put (l : PL q) (k k' : Nat × Nat) (c : F q) : getP (putP l k c) k' = if k = k' then c else getP l k' := by
  unfold putP
  by_cases h : (l.any fun t => decide (t.1 = k)) = true
  · rw [if_pos h, getP_map]
    by_cases e : k = k'
    · rw [if_pos ⟨e, h⟩, if_pos e]
    · rw [if_neg (fun z => e z.1), if_neg e]
  · rw [if_neg h, getP_app _ _ _ _ (Bool.not_eq_true _ ▸ h)]
theorem keys_put (l : PL q) (k : Nat × Nat) (c : F q) : (putP l k c).map Prod.fst = if (l.any fun t => decide (t.1 = k)) = true then l.map Prod.fst else l.map Prod.fst ++ [k] := by
  unfold putP
  split
  · rw [List.map_map]
    refine List.map_congr_left fun t _ => ?_
    show (if t.1 = k then (t.1, c) else t).1 = t.1
    split <;> rfl
  · rw [List.map_append]
    rfl
theorem nd_put {l : PL q} (h : ND l) (k : Nat × Nat) (c : F q) : ND (putP l k c) := by
  unfold ND at h ⊢
  rw [keys_put]
  split
  · exact h
  · rename_i hn
    rw [List.nodup_append]
    refine ⟨h, by simp, fun a ha b hb e => ?_⟩
    rw [List.mem_singleton.mp hb] at e
    subst e
    obtain ⟨t, ht, e⟩ := List.mem_map.mp ha
    exact hn (List.any_eq_true.mpr ⟨t, ht, decide_eq_true e⟩)
/-- the terms' degrees -/
def Dg (n : Nat) (l : PL q) : Prop := ∀ t ∈ l, t.1.1 + t.1.2 ≤ n
theorem dg_keys {n : Nat} {l l' : PL q} (h : Dg n l) (e : ∀ k ∈ l'.map Prod.fst, k ∈ l.map Prod.fst) : Dg n l' := fun t ht => by
  obtain ⟨t2, h2, e2⟩ := List.mem_map.mp (e t.1 (List.mem_map.mpr ⟨t, ht, rfl⟩))
  have := h t2 h2
  rw [e2] at this
  exact this
theorem dg_put {n : Nat} {l : PL q} (h : Dg n l) {k : Nat × Nat} (hk : k.1 + k.2 ≤ n) (c : F q) : Dg n (putP l k c) := fun t ht => by
  have : t.1 ∈ (putP l k c).map Prod.fst := List.mem_map.mpr ⟨t, ht, rfl⟩
  rw [keys_put] at this
  have key : t.1 ∈ l.map Prod.fst ∨ t.1 = k := by
    split at this
    · exact .inl this
    · rcases List.mem_append.mp this with z | z
      · exact .inl z
      · exact .inr (List.mem_singleton.mp z)
  rcases key with z | z
  · obtain ⟨t2, h2, e2⟩ := List.mem_map.mp z
    have := h t2 h2
    rw [e2] at this
    exact this
  · rw [z]
    exact hk
theorem nodup_len : ∀ (N : Nat) {l : List Nat}, l.Nodup → (∀ x ∈ l, x < N) → l.length ≤ N
  | 0, l, _, h => by
    cases l with
    | nil => exact Nat.le_refl _
    | cons a l => exact absurd (h a List.mem_cons_self) (Nat.not_lt_zero _)
  | N + 1, l, n, h => by
    by_cases hm : N ∈ l
    · have h1 := nodup_len N (l := l.erase N) (n.erase N) fun x hx => by
        have h2 := h x (List.mem_of_mem_erase hx)
        have h3 : x ≠ N := fun e => by
          subst e
          exact (List.Nodup.not_mem_erase n) hx
        omega
      rw [List.length_erase_of_mem hm] at h1
      omega
    · have h1 := nodup_len N n fun x hx => by
        have h2 := h x hx
        have h3 : x ≠ N := fun e => hm (e ▸ hx)
        omega
      omega
theorem pl_len {n : Nat} {l : PL q} (h : ND l) (d : Dg n l) : l.length ≤ (n + 1) * (n + 1) := by
  have h1 : ((l.map Prod.fst).map fun k => k.1 * (n + 1) + k.2).Nodup := by
    have aux : ∀ ks : List (Nat × Nat), ks.Nodup → (∀ k ∈ ks, k.1 + k.2 ≤ n) → (ks.map fun k => k.1 * (n + 1) + k.2).Nodup := fun ks => by
      induction ks with
      | nil => intro _ _; exact List.nodup_nil
      | cons k ks ih =>
        intro nd hk
        rw [List.nodup_cons] at nd
        rw [List.map_cons, List.nodup_cons]
        refine ⟨fun m => ?_, ih nd.2 fun k hk2 => hk k (List.mem_cons_of_mem _ hk2)⟩
        obtain ⟨k2, m2, e⟩ := List.mem_map.mp m
        have b1 := hk k List.mem_cons_self
        have b2 := hk k2 (List.mem_cons_of_mem _ m2)
        have e1 : k2.1 = k.1 := by
          have x1 : (k2.1 * (n + 1) + k2.2) / (n + 1) = k2.1 := by
            rw [Nat.mul_comm, Nat.mul_add_div (by omega), Nat.div_eq_of_lt (by omega)]
            rfl
          have x2 : (k.1 * (n + 1) + k.2) / (n + 1) = k.1 := by
            rw [Nat.mul_comm, Nat.mul_add_div (by omega), Nat.div_eq_of_lt (by omega)]
            rfl
          rw [← x1, ← x2, e]
        have e2 : k2.2 = k.2 := by
          rw [e1] at e
          omega
        exact nd.1 (Prod.ext e1 e2 ▸ m2)
    refine aux _ h fun k hk => ?_
    obtain ⟨t, ht, rfl⟩ := List.mem_map.mp hk
    exact d t ht
  have h2 := nodup_len ((n + 1) * (n + 1)) h1 fun x hx => by
    obtain ⟨k, hk, rfl⟩ := List.mem_map.mp hx
    obtain ⟨t, ht, rfl⟩ := List.mem_map.mp hk
    have := d t ht
    have h3 : t.1.1 * (n + 1) ≤ n * (n + 1) := Nat.mul_le_mul_right _ (by omega)
    rw [Nat.add_mul]
    omega
  rwa [List.length_map, List.length_map] at h2
/-! ### their meaning -/
def tm (k : Nat × Nat) (c : F q) : G q := ⟨fun i => ⟨fun j => if (i, j) = k then c else 0⟩⟩
def cf (l : PL q) : G q := ⟨fun i => ⟨fun j => getP l (i, j)⟩⟩
theorem gext {f g : G q} (h : ∀ i j, (f.c i).c j = (g.c i).c j) : f = g := PS.ext' fun i => PS.ext' fun j => h i j
theorem gadd (f g : G q) (i j : Nat) : ((f + g).c i).c j = (f.c i).c j + (g.c i).c j := rfl
theorem gzero (i j : Nat) : ((0 : G q).c i).c j = 0 := by
  rw [PS.zero_c, PS.zero_c]
theorem cf_nil : cf ([] : PL q) = 0 := gext fun i j => (gzero i j).symm
theorem cf_put (l : PL q) (k : Nat × Nat) (c : F q) : cf (putP l k (getP l k + c)) = cf l + tm k c := gext fun i j => by
  rw [gadd]
  show getP (putP l k (getP l k + c)) (i, j) = getP l (i, j) + (if (i, j) = k then c else 0)
  rw [getP_put]
  by_cases e : k = (i, j)
  · rw [if_pos e, if_pos e.symm, e]
  · rw [if_neg e, if_neg (fun z => e z.symm)]
    grind
/-- the sum of the terms -/
def sm (l : PL q) : G q := l.foldr (fun t s => tm t.1 t.2 + s) 0
theorem sm_cons (t : (Nat × Nat) × F q) (l : PL q) : sm (t :: l) = tm t.1 t.2 + sm l := rfl
theorem cf_sm {l : PL q} (h : ND l) : cf l = sm l := by
  induction l with
  | nil => exact cf_nil
  | cons t l ih =>
    unfold ND at h
    rw [List.map_cons, List.nodup_cons] at h
    rw [sm_cons, ← ih h.2]
    refine gext fun i j => ?_
    rw [gadd]
    show getP (t :: l) (i, j) = (if (i, j) = t.1 then t.2 else 0) + getP l (i, j)
    rw [getP_cons]
    by_cases e : t.1 = (i, j)
    · rw [if_pos e, if_pos e.symm]
      have z : getP l (i, j) = 0 := by
        unfold getP
        rw [List.find?_eq_none.mpr fun x hx hp => h.1 (List.mem_map.mpr ⟨x, hx, (of_decide_eq_true hp).trans e.symm⟩)]
      rw [z]
      grind
    · rw [if_neg e, if_neg (fun z => e z.symm)]
      grind
theorem sm_app (a b : PL q) : sm (a ++ b) = sm a + sm b := by
  induction a with
  | nil =>
    show sm b = 0 + sm b
    grind
  | cons t a ih =>
    rw [List.cons_append, sm_cons, sm_cons, ih]
    grind
theorem sm_perm {a b : PL q} (h : a.Perm b) : sm a = sm b := by
  induction h with
  | nil => rfl
  | cons t _ ih => rw [sm_cons, sm_cons, ih]
  | swap x y l =>
    rw [sm_cons, sm_cons, sm_cons, sm_cons]
    grind
  | trans _ _ h1 h2 => exact h1.trans h2
theorem tm_zero (k : Nat × Nat) : tm k (0 : F q) = 0 := gext fun i j => by
  rw [gzero]
  show (if (i, j) = k then (0 : F q) else 0) = 0
  split <;> rfl
theorem tm_add (k : Nat × Nat) (a b : F q) : tm k (a + b) = tm k a + tm k b := gext fun i j => by
  rw [gadd]
  show (if (i, j) = k then a + b else 0) = (if (i, j) = k then a else 0) + (if (i, j) = k then b else 0)
  split
  · rfl
  · grind
def nz (t : (Nat × Nat) × F q) : Bool := !decide (t.2 = 0)
theorem sm_nz (l : PL q) : sm (l.filter nz) = sm l := by
  induction l with
  | nil => rfl
  | cons t l ih =>
    rw [List.filter_cons]
    by_cases h : t.2 = 0
    · have : nz t = false := by
        unfold nz
        rw [decide_eq_true h]
        rfl
      rw [this, if_neg Bool.false_ne_true, ih, sm_cons, h, tm_zero]
      grind
    · have : nz t = true := by
        unfold nz
        rw [decide_eq_false h]
        rfl
      rw [this, if_pos rfl, sm_cons, sm_cons, ih]
/-- a polynomial as the program holds it -/
structure Po (l : PL q) : Prop where
  nd : ND l
  nz : ∀ t ∈ l, t.2 ≠ 0
variable {le : (Nat × Nat) × F q → (Nat × Nat) × F q → Bool}
def canon (le : (Nat × Nat) × F q → (Nat × Nat) × F q → Bool) (l : PL q) : PL q := (l.filter nz).mergeSort le
theorem canon_perm (l : PL q) : (canon le l).Perm (l.filter nz) := List.mergeSort_perm _ _
theorem canon_po {l : PL q} (h : ND l) : Po (canon le l) := by
  refine ⟨?_, fun t ht => ?_⟩
  · have h1 := ((canon_perm (le := le) l).map Prod.fst).nodup_iff.mpr (List.Nodup.sublist (List.filter_sublist.map Prod.fst) h)
    exact h1
  · have := (List.mem_filter.mp ((canon_perm (le := le) l).mem_iff.mp ht)).2
    unfold K19.nz at this
    simpa using this
theorem canon_cf {l : PL q} (h : ND l) : cf (canon le l) = cf l := by
  rw [cf_sm (canon_po (le := le) h).nd, sm_perm (canon_perm l), sm_nz, cf_sm h]
theorem canon_dg {n : Nat} {l : PL q} (h : Dg n l) : Dg n (canon le l) := fun t ht => h t (List.mem_filter.mp ((canon_perm l).mem_iff.mp ht)).1
/-- only one term -/
theorem po_one {l : PL q} (h : Po l) {u : F q} (hu : u ≠ 0) (e : cf l = tm (0, 0) u) : l = [((0, 0), u)] := by
  have hget : ∀ k, getP l k = if k = (0, 0) then u else 0 := fun k => by
    have := congrArg (fun g : G q => (g.c k.1).c k.2) e
    exact this
  have hkey : ∀ t ∈ l, t.1 = (0, 0) := fun t ht => by
    have h1 := hget t.1
    have h2 : getP l t.1 = t.2 := by
      have aux : ∀ l : PL q, ND l → ∀ t ∈ l, getP l t.1 = t.2 := fun l => by
        induction l with
        | nil => intro _ t ht; cases ht
        | cons x l ih =>
          intro nd t ht
          unfold ND at nd
          rw [List.map_cons, List.nodup_cons] at nd
          rw [getP_cons]
          rcases List.mem_cons.mp ht with rfl | ht
          · rw [if_pos rfl]
          · rw [if_neg (fun z => nd.1 (by rw [z]; exact List.mem_map.mpr ⟨t, ht, rfl⟩))]
            exact ih nd.2 t ht
      exact aux l h.nd t ht
    by_cases z : t.1 = (0, 0)
    · exact z
    · rw [if_neg z, h2] at h1
      exact absurd h1 (h.nz t ht)
  have h0 := hget (0, 0)
  rw [if_pos rfl] at h0
  cases l with
  | nil => exact absurd h0.symm hu
  | cons t l =>
    have ht := hkey t List.mem_cons_self
    cases l with
    | nil =>
      rw [getP_cons, if_pos ht] at h0
      have : t = ((0, 0), u) := Prod.ext ht h0
      rw [this]
    | cons s l =>
      have hs := hkey s (List.mem_cons_of_mem _ List.mem_cons_self)
      have nd := h.nd
      unfold ND at nd
      rw [List.map_cons, List.map_cons, List.nodup_cons] at nd
      exact absurd (List.mem_cons.mpr (.inl (ht.trans hs.symm))) nd.1
end
end K19

/-! TEXT K19M6 -/
set_option autoImplicit false
set_option linter.all false
/-! PLAIN: what the program does with polynomials in two letters. -/
namespace K19
open PS
section
variable {q : Nat} [Fld q]
/-! ### monomials -/
def mono {R : Type} [Lean.Grind.CommRing R] (i : Nat) (a : R) : PS R := ⟨fun n => if n = i then a else 0⟩
section
variable {R : Type} [Lean.Grind.CommRing R]
theorem mono_zero (a : R) : mono 0 a = cst a := PS.ext' fun n => by
  cases n with
  | zero => rfl
  | succ n =>
    show (if n + 1 = 0 then a else 0) = 0
    rw [if_neg (Nat.succ_ne_zero n)]
theorem mono_succ (i : Nat) (a : R) : mono (i + 1) a = sh (mono i a) := PS.ext' fun n => by
  cases n with
  | zero =>
    show (if 0 = i + 1 then a else 0) = 0
    rw [if_neg (Nat.zero_ne_add_one i)]
  | succ n =>
    show (if n + 1 = i + 1 then a else 0) = if n = i then a else 0
    by_cases h : n = i
    · rw [if_pos h, if_pos (by rw [h])]
    · rw [if_neg h, if_neg (fun e => h (Nat.succ.inj e))]
theorem sh_mul (f g : PS R) : sh f * g = sh (f * g) := PS.ext' fun n => by
  cases n with
  | zero =>
    show (0 : R) * g.c 0 = 0
    grind
  | succ n =>
    show (0 : R) * g.c (n + 1) + mulC f.c g.c n = mulC f.c g.c n
    grind
theorem mono_mul (i j : Nat) (a b : R) : mono i a * mono j b = mono (i + j) (a * b) := by
  induction i with
  | zero =>
    rw [mono_zero, Nat.zero_add]
    refine PS.ext' fun n => ?_
    rw [cst_mul]
    show a * (if n = j then b else 0) = if n = j then a * b else 0
    split
    · rfl
    · grind
  | succ i ih =>
    rw [mono_succ, sh_mul, ih, ← mono_succ]
    congr 1
    omega
end
theorem tm_mono (k : Nat × Nat) (c : F q) : tm k c = mono k.1 (mono k.2 c) := gext fun i j => by
  show (if (i, j) = k then c else 0) = ((if i = k.1 then mono k.2 c else (0 : PS (F q))).c j)
  by_cases h : i = k.1
  · rw [if_pos h]
    show _ = if j = k.2 then c else 0
    by_cases h2 : j = k.2
    · rw [if_pos h2, if_pos (by rw [h, h2])]
    · rw [if_neg h2, if_neg (fun e => h2 (by rw [← e]))]
  · rw [if_neg h, if_neg (fun e => h (by rw [← e])), PS.zero_c]
theorem tm_mul (k l : Nat × Nat) (a b : F q) : tm k a * tm l b = tm (k.1 + l.1, k.2 + l.2) (a * b) := by
  rw [tm_mono, tm_mono, tm_mono, mono_mul, mono_mul]
abbrev kn (c : F q) : G q := tm (0, 0) c
theorem kn_mul (a : F q) (k : Nat × Nat) (c : F q) : kn a * tm k c = tm k (a * c) := by
  rw [tm_mul]
  congr 1
  exact Prod.ext (Nat.zero_add _) (Nat.zero_add _)
theorem kn_one : kn (1 : F q) = 1 := by
  show tm (0, 0) (1 : F q) = 1
  rw [tm_mono, mono_zero, mono_zero]
  rfl
/-! ### the derivations -/
def dx : G q → G q := PS.der
def dy : G q → G q := PS.mp PS.der
theorem dx_der : PS.Der (dx (q := q)) := PS.der_der
theorem dy_der : PS.Der (dy (q := q)) := PS.mp_der PS.der_der
theorem der_zero {R : Type} [Lean.Grind.CommRing R] {d : R → R} (h : PS.Der d) : d 0 = 0 := by
  have := h.add 0 0
  have e : (0 : R) + 0 = 0 := by grind
  rw [e] at this
  grind
theorem ncast {n : Nat} : (@NatCast.natCast (F q) (Lean.Grind.Semiring.natCast) n) = ((n : Nat) : F q) := rfl
theorem ncG {n : Nat} (f : PS (F q)) (j : Nat) : ((@NatCast.natCast (PS (F q)) (Lean.Grind.Semiring.natCast) n) * f).c j = ((n : Nat) : F q) * f.c j := cst_mul _ f j
theorem dx_tm (k : Nat × Nat) (c : F q) : dx (tm k c) = if k.1 = 0 then 0 else tm (k.1 - 1, k.2) (((k.1 : Nat) : F q) * c) := gext fun i j => by
  show ((@NatCast.natCast (PS (F q)) (Lean.Grind.Semiring.natCast) (i + 1)) * (tm k c).c (i + 1)).c j = _
  rw [ncG]
  show (((i + 1 : Nat)) : F q) * (if (i + 1, j) = k then c else 0) = _
  by_cases h : k.1 = 0
  · rw [if_pos h, if_neg (fun e => by rw [← e] at h; cases h), gzero]
    grind
  · rw [if_neg h]
    show _ = if (i, j) = (k.1 - 1, k.2) then ((k.1 : Nat) : F q) * c else 0
    by_cases e : (i + 1, j) = k
    · have e1 : i + 1 = k.1 := congrArg Prod.fst e
      have e2 : j = k.2 := congrArg Prod.snd e
      rw [if_pos e, if_pos (Prod.ext (by show i = k.1 - 1; omega) e2), e1]
    · rw [if_neg e, if_neg (fun z => e (Prod.ext (by have : i = k.1 - 1 := congrArg Prod.fst z; show i + 1 = k.1; omega) (congrArg Prod.snd z : j = k.2)))]
      grind
theorem dy_tm (k : Nat × Nat) (c : F q) : dy (tm k c) = if k.2 = 0 then 0 else tm (k.1, k.2 - 1) (((k.2 : Nat) : F q) * c) := gext fun i j => by
  show (@NatCast.natCast (F q) (Lean.Grind.Semiring.natCast) (j + 1)) * (if (i, j + 1) = k then c else 0) = _
  rw [ncast]
  by_cases h : k.2 = 0
  · rw [if_pos h, if_neg (fun e => by rw [← e] at h; cases h), gzero]
    grind
  · rw [if_neg h]
    show _ = if (i, j) = (k.1, k.2 - 1) then ((k.2 : Nat) : F q) * c else 0
    by_cases e : (i, j + 1) = k
    · have e1 : i = k.1 := congrArg Prod.fst e
      have e2 : j + 1 = k.2 := congrArg Prod.snd e
      rw [if_pos e, if_pos (Prod.ext e1 (by show j = k.2 - 1; omega)), e2]
    · rw [if_neg e, if_neg (fun z => e (Prod.ext (congrArg Prod.fst z : i = k.1) (by have : j = k.2 - 1 := congrArg Prod.snd z; show j + 1 = k.2; omega)))]
      grind
/-! ### sums, products -/
def incP (l : PL q) (k : Nat × Nat) (c : F q) : PL q := putP l k (getP l k + c)
theorem cf_inc (l : PL q) (k : Nat × Nat) (c : F q) : cf (incP l k c) = cf l + tm k c := cf_put l k c
def addP (fd : PL q) (p : PL q) (n : F q) : PL q := p.foldl (fun fd t => incP fd t.1 (t.2 * n)) fd
def dicP (p : PL q) : PL q := p.foldl (fun fd t => putP fd t.1 t.2) []
def mulI (fd : PL q) (t : (Nat × Nat) × F q) (p : PL q) : PL q := p.foldl (fun fd s => incP fd (t.1.1 + s.1.1, t.1.2 + s.1.2) (t.2 * s.2)) fd
def mulL (a b : PL q) : PL q := a.foldl (fun fd t => mulI fd t b) []
theorem addP_cf (n : F q) (p : PL q) : ∀ fd : PL q, cf (addP fd p n) = cf fd + kn n * sm p := by
  induction p with
  | nil =>
    intro fd
    show cf fd = cf fd + kn n * 0
    grind
  | cons t p ih =>
    intro fd
    show cf (addP (incP fd t.1 (t.2 * n)) p n) = cf fd + kn n * (tm t.1 t.2 + sm p)
    rw [ih, cf_inc, F.mul_comm', ← kn_mul]
    grind
theorem mulI_cf (t : (Nat × Nat) × F q) (p : PL q) : ∀ fd : PL q, cf (mulI fd t p) = cf fd + tm t.1 t.2 * sm p := by
  induction p with
  | nil =>
    intro fd
    show cf fd = cf fd + tm t.1 t.2 * 0
    grind
  | cons s p ih =>
    intro fd
    show cf (mulI (incP fd (t.1.1 + s.1.1, t.1.2 + s.1.2) (t.2 * s.2)) t p) = cf fd + tm t.1 t.2 * (tm s.1 s.2 + sm p)
    rw [ih, cf_inc, ← tm_mul]
    grind
theorem mulL_cf (a b : PL q) : cf (mulL a b) = sm a * sm b := by
  have h : ∀ (a fd : PL q), cf (a.foldl (fun fd t => mulI fd t b) fd) = cf fd + sm a * sm b := fun a => by
    induction a with
    | nil =>
      intro fd
      show cf fd = cf fd + 0 * sm b
      grind
    | cons t a ih =>
      intro fd
      show cf (a.foldl (fun fd t => mulI fd t b) (mulI fd t b)) = cf fd + (tm t.1 t.2 + sm a) * sm b
      rw [ih, mulI_cf]
      grind
  have := h a []
  rw [cf_nil] at this
  show cf (a.foldl (fun fd t => mulI fd t b) []) = _
  rw [this]
  grind
theorem nd_nil : ND ([] : PL q) := List.nodup_nil
theorem nd_inc {l : PL q} (h : ND l) (k : Nat × Nat) (c : F q) : ND (incP l k c) := nd_put h k _
theorem dg_inc {n : Nat} {l : PL q} (h : Dg n l) {k : Nat × Nat} (hk : k.1 + k.2 ≤ n) (c : F q) : Dg n (incP l k c) := dg_put h hk _
theorem addP_nd (n : F q) (p : PL q) : ∀ {fd : PL q}, ND fd → ND (addP fd p n) := by
  induction p with
  | nil => exact fun h => h
  | cons t p ih => exact fun h => ih (nd_inc h _ _)
theorem addP_dg {m : Nat} (n : F q) {p : PL q} (hp : Dg m p) : ∀ {fd : PL q}, Dg m fd → Dg m (addP fd p n) := by
  induction p with
  | nil => exact fun h => h
  | cons t p ih => exact fun h => ih (fun x hx => hp x (List.mem_cons_of_mem _ hx)) (dg_inc h (hp t List.mem_cons_self) _)
theorem mulI_nd (t : (Nat × Nat) × F q) (p : PL q) : ∀ {fd : PL q}, ND fd → ND (mulI fd t p) := by
  induction p with
  | nil => exact fun h => h
  | cons s p ih => exact fun h => ih (nd_inc h _ _)
theorem mulI_dg {m n : Nat} {t : (Nat × Nat) × F q} (ht : t.1.1 + t.1.2 ≤ m) {p : PL q} (hp : Dg n p) : ∀ {fd : PL q}, Dg (m + n) fd → Dg (m + n) (mulI fd t p) := by
  induction p with
  | nil => exact fun h => h
  | cons s p ih => exact fun h => ih (fun x hx => hp x (List.mem_cons_of_mem _ hx)) (dg_inc h (by have := hp s List.mem_cons_self; show t.1.1 + s.1.1 + (t.1.2 + s.1.2) ≤ _; omega) _)
theorem mulL_ok {m n : Nat} {a b : PL q} (ha : Dg m a) (hb : Dg n b) : ∀ k, ND (mulL (a.take k) b) ∧ Dg (m + n) (mulL (a.take k) b) := fun k => by
  have h : ∀ (l fd : PL q), (∀ t ∈ l, t ∈ a) → ND fd → Dg (m + n) fd → ND (l.foldl (fun fd t => mulI fd t b) fd) ∧ Dg (m + n) (l.foldl (fun fd t => mulI fd t b) fd) := fun l => by
    induction l with
    | nil => exact fun fd _ h1 h2 => ⟨h1, h2⟩
    | cons t l ih => exact fun fd hl h1 h2 => ih _ (fun x hx => hl x (List.mem_cons_of_mem _ hx)) (mulI_nd t b h1) (mulI_dg (ha t (hl t List.mem_cons_self)) hb h2)
  exact h (a.take k) [] (fun t ht => List.mem_of_mem_take ht) nd_nil fun t ht => absurd ht List.not_mem_nil
/-- a list without twice a key, as a dict -/
theorem dicP_id {l : PL q} (h : ND l) : dicP l = l := by
  have aux : ∀ (l acc : PL q), ND (acc ++ l) → l.foldl (fun fd t => putP fd t.1 t.2) acc = acc ++ l := fun l => by
    induction l with
    | nil => exact fun acc _ => (List.append_nil acc).symm
    | cons t l ih =>
      intro acc h
      have hn : (acc.any fun x => decide (x.1 = t.1)) = false := by
        rw [Bool.eq_false_iff]
        intro e
        obtain ⟨x, hx, e⟩ := List.any_eq_true.mp e
        unfold ND at h
        rw [List.map_append, List.nodup_append] at h
        exact h.2.2 _ (List.mem_map.mpr ⟨x, hx, rfl⟩) _ (List.mem_map.mpr ⟨t, List.mem_cons_self, rfl⟩) (of_decide_eq_true e)
      have hp : putP acc t.1 t.2 = acc ++ [t] := by
        unfold putP
        rw [if_neg (by rw [hn]; exact Bool.false_ne_true)]
      show l.foldl _ (putP acc t.1 t.2) = _
      rw [hp, ih _ (by rw [List.append_assoc]; exact h), List.append_assoc]
      rfl
  exact aux l [] h
variable {le : (Nat × Nat) × F q → (Nat × Nat) × F q → Bool}
abbrev Le (q : Nat) := (Nat × Nat) × F q → (Nat × Nat) × F q → Bool
def prodP (le : Le q) (a b : PL q) : PL q := canon le (mulL a b)
def sumP (le : Le q) (a b : PL q) (n : F q) : PL q := canon le (addP (dicP a) b n)
structure Pn (n : Nat) (l : PL q) : Prop where
  po : Po l
  dg : Dg n l
theorem Pn.mono {m n : Nat} {l : PL q} (h : Pn m l) (e : m ≤ n) : Pn n l := ⟨h.po, fun t ht => Nat.le_trans (h.dg t ht) e⟩
theorem prodP_ok {m n : Nat} {a b : PL q} (ha : Pn m a) (hb : Pn n b) : Pn (m + n) (prodP le a b) ∧ cf (prodP le a b) = cf a * cf b := by
  have h := mulL_ok ha.dg hb.dg a.length
  rw [List.take_length] at h
  exact ⟨⟨canon_po h.1, canon_dg h.2⟩, (canon_cf h.1).trans ((mulL_cf a b).trans (by rw [cf_sm ha.po.nd, cf_sm hb.po.nd]))⟩
theorem sumP_ok {n : Nat} {a b : PL q} (ha : Pn n a) (hb : Pn n b) (c : F q) : Pn n (sumP le a b c) ∧ cf (sumP le a b c) = cf a + kn c * cf b := by
  unfold sumP
  rw [dicP_id ha.po.nd]
  have h1 := addP_nd c b ha.po.nd
  exact ⟨⟨canon_po h1, canon_dg (addP_dg c hb.dg ha.dg)⟩, (canon_cf h1).trans ((addP_cf c b a).trans (by rw [cf_sm hb.po.nd]))⟩
/-! ### slopes -/
def slX (l : PL q) : PL q := (l.filter fun t => decide (0 < t.1.1)).map fun t => ((t.1.1 - 1, t.1.2), ((t.1.1 : Nat) : F q) * t.2)
def slY (l : PL q) : PL q := (l.filter fun t => decide (0 < t.1.2)).map fun t => ((t.1.1, t.1.2 - 1), ((t.1.2 : Nat) : F q) * t.2)
theorem slX_nd {l : PL q} (h : ND l) : ND (slX l) := by
  induction l with
  | nil => exact h
  | cons t l ih =>
    unfold ND at h
    rw [List.map_cons, List.nodup_cons] at h
    unfold slX
    rw [List.filter_cons]
    by_cases c : 0 < t.1.1
    · rw [if_pos (decide_eq_true c), List.map_cons]
      unfold ND
      rw [List.map_cons, List.nodup_cons]
      refine ⟨fun m => ?_, ih h.2⟩
      obtain ⟨x, hx, e⟩ := List.mem_map.mp m
      obtain ⟨y, hy, rfl⟩ := List.mem_map.mp hx
      obtain ⟨hy1, hy2⟩ := List.mem_filter.mp hy
      have hy2 := of_decide_eq_true hy2
      have e : (y.1.1 - 1, y.1.2) = (t.1.1 - 1, t.1.2) := e
      have e1 : y.1.1 - 1 = t.1.1 - 1 := (Prod.mk.inj e).1
      have e2 : y.1.2 = t.1.2 := (Prod.mk.inj e).2
      exact h.1 (List.mem_map.mpr ⟨y, hy1, Prod.ext (by omega) e2⟩)
    · rw [if_neg (by simpa using c)]
      exact ih h.2
theorem slY_nd {l : PL q} (h : ND l) : ND (slY l) := by
  induction l with
  | nil => exact h
  | cons t l ih =>
    unfold ND at h
    rw [List.map_cons, List.nodup_cons] at h
    unfold slY
    rw [List.filter_cons]
    by_cases c : 0 < t.1.2
    · rw [if_pos (decide_eq_true c), List.map_cons]
      unfold ND
      rw [List.map_cons, List.nodup_cons]
      refine ⟨fun m => ?_, ih h.2⟩
      obtain ⟨x, hx, e⟩ := List.mem_map.mp m
      obtain ⟨y, hy, rfl⟩ := List.mem_map.mp hx
      obtain ⟨hy1, hy2⟩ := List.mem_filter.mp hy
      have hy2 := of_decide_eq_true hy2
      have e : (y.1.1, y.1.2 - 1) = (t.1.1, t.1.2 - 1) := e
      have e1 : y.1.1 = t.1.1 := (Prod.mk.inj e).1
      have e2 : y.1.2 - 1 = t.1.2 - 1 := (Prod.mk.inj e).2
      exact h.1 (List.mem_map.mpr ⟨y, hy1, Prod.ext e1 (by omega)⟩)
    · rw [if_neg (by simpa using c)]
      exact ih h.2
theorem slX_sm (l : PL q) : sm (slX l) = dx (sm l) := by
  induction l with
  | nil => exact (der_zero dx_der).symm
  | cons t l ih =>
    rw [sm_cons, dx_der.add, dx_tm, ← ih]
    unfold slX
    rw [List.filter_cons]
    by_cases c : 0 < t.1.1
    · rw [if_pos (decide_eq_true c), List.map_cons, sm_cons, if_neg (by omega)]
    · rw [if_neg (by simpa using c), if_pos (by omega)]
      grind
theorem slY_sm (l : PL q) : sm (slY l) = dy (sm l) := by
  induction l with
  | nil => exact (der_zero dy_der).symm
  | cons t l ih =>
    rw [sm_cons, dy_der.add, dy_tm, ← ih]
    unfold slY
    rw [List.filter_cons]
    by_cases c : 0 < t.1.2
    · rw [if_pos (decide_eq_true c), List.map_cons, sm_cons, if_neg (by omega)]
    · rw [if_neg (by simpa using c), if_pos (by omega)]
      grind
def slopeX (le : Le q) (l : PL q) : PL q := canon le (dicP (slX l))
def slopeY (le : Le q) (l : PL q) : PL q := canon le (dicP (slY l))
theorem slopeX_ok {n : Nat} {l : PL q} (h : Pn n l) : Pn n (slopeX le l) ∧ cf (slopeX le l) = dx (cf l) := by
  have h1 := slX_nd h.po.nd
  unfold slopeX
  rw [dicP_id h1]
  refine ⟨⟨canon_po h1, canon_dg fun t ht => ?_⟩, (canon_cf h1).trans (by rw [cf_sm h1, slX_sm, cf_sm h.po.nd])⟩
  obtain ⟨y, hy, rfl⟩ := List.mem_map.mp ht
  have := h.dg y (List.mem_filter.mp hy).1
  show y.1.1 - 1 + y.1.2 ≤ n
  omega
theorem slopeY_ok {n : Nat} {l : PL q} (h : Pn n l) : Pn n (slopeY le l) ∧ cf (slopeY le l) = dy (cf l) := by
  have h1 := slY_nd h.po.nd
  unfold slopeY
  rw [dicP_id h1]
  refine ⟨⟨canon_po h1, canon_dg fun t ht => ?_⟩, (canon_cf h1).trans (by rw [cf_sm h1, slY_sm, cf_sm h.po.nd])⟩
  obtain ⟨y, hy, rfl⟩ := List.mem_map.mp ht
  have := h.dg y (List.mem_filter.mp hy).1
  show y.1.1 + (y.1.2 - 1) ≤ n
  omega
/-- the determinant of a pair -/
def detP (le : Le q) (a b : PL q) : PL q := sumP le (prodP le (slopeX le a) (slopeY le b)) (prodP le (slopeY le a) (slopeX le b)) (-1)
def jac (f g : G q) : G q := dx f * dy g - dy f * dx g
theorem kn_neg1 (f : G q) : kn (-1 : F q) * f = -f := by
  have : kn (-1 : F q) = -1 := by
    rw [← kn_one]
    refine gext fun i j => ?_
    show (if (i, j) = (0, 0) then (-1 : F q) else 0) = -(if (i, j) = (0, 0) then (1 : F q) else 0)
    split
    · rfl
    · exact F.neg_zero'.symm
  rw [this]
  grind
theorem detP_ok {n : Nat} {a b : PL q} (ha : Pn n a) (hb : Pn n b) : Pn (n + n) (detP le a b) ∧ cf (detP le a b) = jac (cf a) (cf b) := by
  obtain ⟨x1, x2⟩ := slopeX_ok (le := le) ha
  obtain ⟨y1, y2⟩ := slopeY_ok (le := le) ha
  obtain ⟨z1, z2⟩ := slopeX_ok (le := le) hb
  obtain ⟨w1, w2⟩ := slopeY_ok (le := le) hb
  obtain ⟨p1, p2⟩ := prodP_ok (le := le) x1 w1
  obtain ⟨r1, r2⟩ := prodP_ok (le := le) y1 z1
  obtain ⟨s1, s2⟩ := sumP_ok (le := le) p1 r1 (-1 : F q)
  refine ⟨s1, s2.trans ?_⟩
  rw [p2, r2, x2, y2, z2, w2, kn_neg1]
  unfold jac
  grind
end
end K19

/-! TEXT K19M7 -/
set_option autoImplicit false
set_option linter.all false
/-! PLAIN: one polynomial put into another; the pair of a row of pieces and its determinant. -/
namespace K19
open PS
section
variable {q : Nat} [Fld q]
variable {le : Le q}
def powP (le : Le q) (p : PL q) : Nat → PL q
  | 0 => [((0, 0), 1)]
  | k + 1 => prodP le (powP le p k) p
theorem one_pn : Pn 0 ([((0, 0), 1)] : PL q) := ⟨⟨by
  unfold ND
  simp, fun t ht => by
  rw [List.mem_singleton.mp ht]
  exact F.one_ne⟩, fun t ht => by
  rw [List.mem_singleton.mp ht]
  exact Nat.le_refl 0⟩
theorem powP_ok {e : Nat} {p : PL q} (h : Pn e p) : ∀ k, Pn (k * e) (powP le p k) ∧ cf (powP le p k) = cf p ^ k
  | 0 => ⟨one_pn.mono (Nat.zero_le _), by
    show cf [((0, 0), (1 : F q))] = 1
    rw [cf_sm (one_pn (q := q)).po.nd, sm_cons, ← kn_one]
    show _ + 0 = _
    grind⟩
  | k + 1 => by
    obtain ⟨h1, h2⟩ := powP_ok h k
    obtain ⟨h3, h4⟩ := prodP_ok (le := le) h1 h
    refine ⟨h3.mono (by rw [Nat.add_mul]; omega), h4.trans ?_⟩
    rw [h2]
    rfl
theorem knm (a b : F q) : kn (a * b) = kn a * kn b := (kn_mul a (0, 0) b).symm
/-! ### rows -/
def rowP (l : PL q) (j : Nat) : List (Nat × F q) := (l.filter fun t => decide (t.1.2 = j)).map fun t => (t.1.1, t.2)
def rs (X : G q) (row : List (Nat × F q)) : G q := row.foldr (fun x s => kn x.2 * X ^ x.1 + s) 0
def addRow (pw : Nat → PL q) (fd : PL q) (row : List (Nat × F q)) : PL q := row.foldl (fun fd x => addP fd (pw x.1) x.2) fd
theorem addRow_ok {f : PL q} {e m : Nat} (hf : Pn e f) : ∀ (row : List (Nat × F q)) (fd : PL q), (∀ x ∈ row, x.1 * e ≤ m) → ND fd → Dg m fd → ND (addRow (powP le f) fd row) ∧ Dg m (addRow (powP le f) fd row) ∧ cf (addRow (powP le f) fd row) = cf fd + rs (cf f) row
  | [], fd, _, h1, h2 => ⟨h1, h2, by
    show cf fd = cf fd + 0
    grind⟩
  | x :: row, fd, hr, h1, h2 => by
    obtain ⟨p1, p2⟩ := powP_ok (le := le) hf x.1
    have hd : Dg m (powP le f x.1) := fun t ht => Nat.le_trans (p1.dg t ht) (hr x List.mem_cons_self)
    obtain ⟨i1, i2, i3⟩ := addRow_ok hf row (addP fd (powP le f x.1) x.2) (fun y hy => hr y (List.mem_cons_of_mem _ hy)) (addP_nd _ _ h1) (addP_dg _ hd h2)
    refine ⟨i1, i2, i3.trans ?_⟩
    rw [addP_cf, ← cf_sm p1.po.nd, p2]
    show cf fd + kn x.2 * cf f ^ x.1 + rs (cf f) row = cf fd + (kn x.2 * cf f ^ x.1 + rs (cf f) row)
    grind
def horP (le : Le q) (l f g : PL q) (n : Nat) : Nat → PL q
  | 0 => []
  | i + 1 => canon le (addRow (powP le f) (dicP (prodP le (horP le l f g n i) g)) (rowP l (n - 1 - i)))
def topJ (l : PL q) : Nat := l.foldr (fun t m => max m (t.1.2 + 1)) 0
theorem topJ_lt {l : PL q} : ∀ t ∈ l, t.1.2 < topJ l := by
  induction l with
  | nil => exact fun t h => absurd h List.not_mem_nil
  | cons x l ih =>
    intro t ht
    show t.1.2 < max (topJ l) (x.1.2 + 1)
    rcases List.mem_cons.mp ht with rfl | ht
    · omega
    · have := ih t ht
      omega
theorem topJ_le {l : PL q} {d : Nat} (h : Dg d l) : topJ l ≤ d + 1 := by
  induction l with
  | nil => exact Nat.zero_le _
  | cons x l ih =>
    have h1 := ih fun t ht => h t (List.mem_cons_of_mem _ ht)
    have h2 := h x List.mem_cons_self
    show max (topJ l) (x.1.2 + 1) ≤ d + 1
    omega
def plugP (le : Le q) (l f g : PL q) : PL q := horP le l f g (topJ l) (topJ l)
/-- the upper rows -/
def upr (l : PL q) (X Y : G q) (n : Nat) : Nat → G q
  | 0 => 0
  | i + 1 => upr l X Y n i + rs X (rowP l (n - 1 - i)) * Y ^ (n - 1 - i)
theorem pow_succ' (Y : G q) (k : Nat) : Y ^ (k + 1) = Y ^ k * Y := rfl
theorem horP_ok {l f g : PL q} {d e n : Nat} (hl : Dg d l) (hf : Pn e f) (hg : Pn e g) (hn : n ≤ d + 1) : ∀ i, i ≤ n → (i = 0 ∨ Pn ((d + i - n) * e) (horP le l f g n i)) ∧ Po (horP le l f g n i) ∧ cf (horP le l f g n i) * cf g ^ (n - i) = upr l (cf f) (cf g) n i
  | 0, _ => ⟨.inl rfl, ⟨nd_nil, fun t ht => absurd ht List.not_mem_nil⟩, by
    show cf [] * _ = 0
    rw [cf_nil]
    grind⟩
  | i + 1, h => by
    obtain ⟨h1, h2, h3⟩ := horP_ok hl hf hg hn i (by omega)
    have hp : Pn ((d + (i + 1) - n) * e) (prodP le (horP le l f g n i) g) ∧ cf (prodP le (horP le l f g n i) g) = cf (horP le l f g n i) * cf g := by
      rcases h1 with h1 | h1
      · subst h1
        have h4 : Pn 0 ([] : PL q) := ⟨h2, fun t ht => absurd ht List.not_mem_nil⟩
        obtain ⟨p1, p2⟩ := prodP_ok (le := le) h4 hg
        refine ⟨⟨p1.po, fun t ht => ?_⟩, p2⟩
        have : prodP le ([] : PL q) g = [] := by
          unfold prodP canon mulL
          exact List.mergeSort_nil
        have ht : t ∈ prodP le ([] : PL q) g := ht
        rw [this] at ht
        exact absurd ht List.not_mem_nil
      · by_cases hi : i = 0
        · subst hi
          have h4 : Pn 0 ([] : PL q) := ⟨h2, fun t ht => absurd ht List.not_mem_nil⟩
          obtain ⟨p1, p2⟩ := prodP_ok (le := le) h4 hg
          refine ⟨⟨p1.po, fun t ht => ?_⟩, p2⟩
          have : prodP le ([] : PL q) g = [] := by
            unfold prodP canon mulL
            exact List.mergeSort_nil
          have ht : t ∈ prodP le ([] : PL q) g := ht
          rw [this] at ht
          exact absurd ht List.not_mem_nil
        · obtain ⟨p1, p2⟩ := prodP_ok (le := le) h1 hg
          refine ⟨p1.mono ?_, p2⟩
          have e1 : d + (i + 1) - n = d + i - n + 1 := by omega
          rw [e1, Nat.add_mul]
          omega
    have hrow : ∀ x ∈ rowP l (n - 1 - i), x.1 * e ≤ (d + (i + 1) - n) * e := fun x hx => by
      obtain ⟨t, ht, rfl⟩ := List.mem_map.mp hx
      obtain ⟨t1, t2⟩ := List.mem_filter.mp ht
      have t2 := of_decide_eq_true t2
      have := hl t t1
      exact Nat.mul_le_mul_right e (show t.1.1 ≤ d + (i + 1) - n by omega)
    have hdi := dicP_id hp.1.po.nd
    obtain ⟨a1, a2, a3⟩ := addRow_ok (le := le) hf (rowP l (n - 1 - i)) (dicP (prodP le (horP le l f g n i) g)) hrow (by rw [hdi]; exact hp.1.po.nd) (by rw [hdi]; exact hp.1.dg)
    have c1 := canon_po (le := le) a1
    refine ⟨.inr ⟨c1, canon_dg a2⟩, c1, ?_⟩
    show cf (canon le _) * _ = _
    rw [canon_cf a1, a3, hdi, hp.2]
    show _ = upr l (cf f) (cf g) n i + rs (cf f) (rowP l (n - 1 - i)) * cf g ^ (n - 1 - i)
    rw [← h3]
    have e1 : n - i = (n - (i + 1)) + 1 := by omega
    have e2 : n - 1 - i = n - (i + 1) := by omega
    rw [e1, pow_succ', e2]
    grind
/-! ### the value -/
def ev (l : PL q) (X Y : G q) : G q := l.foldr (fun t s => kn t.2 * X ^ t.1.1 * Y ^ t.1.2 + s) 0
theorem ev_cons (t : (Nat × Nat) × F q) (l : PL q) (X Y : G q) : ev (t :: l) X Y = kn t.2 * X ^ t.1.1 * Y ^ t.1.2 + ev l X Y := rfl
theorem upr_cons (t : (Nat × Nat) × F q) (l : PL q) (X Y : G q) (n : Nat) (ht : t.1.2 < n) : ∀ i, i ≤ n → upr (t :: l) X Y n i = upr l X Y n i + (if n - 1 - t.1.2 < i then kn t.2 * X ^ t.1.1 * Y ^ t.1.2 else 0)
  | 0, _ => by
    show (0 : G q) = 0 + _
    rw [if_neg (Nat.not_lt_zero _)]
    grind
  | i + 1, hi => by
    show upr (t :: l) X Y n i + rs X (rowP (t :: l) (n - 1 - i)) * Y ^ (n - 1 - i) = upr l X Y n i + rs X (rowP l (n - 1 - i)) * Y ^ (n - 1 - i) + _
    rw [upr_cons t l X Y n ht i (by omega)]
    by_cases c : t.1.2 = n - 1 - i
    · have e1 : rowP (t :: l) (n - 1 - i) = (t.1.1, t.2) :: rowP l (n - 1 - i) := by
        unfold rowP
        rw [List.filter_cons, if_pos (decide_eq_true c)]
        rfl
      have e2 : rs X (rowP (t :: l) (n - 1 - i)) = kn t.2 * X ^ t.1.1 + rs X (rowP l (n - 1 - i)) := by
        rw [e1]
        rfl
      rw [e2, if_neg (by omega), if_pos (by omega), c]
      grind
    · have e1 : rowP (t :: l) (n - 1 - i) = rowP l (n - 1 - i) := by
        unfold rowP
        rw [List.filter_cons, if_neg (by simpa using c)]
      rw [e1]
      by_cases c2 : n - 1 - t.1.2 < i
      · rw [if_pos c2, if_pos (by omega)]
        grind
      · rw [if_neg c2, if_neg (by omega)]
        grind
theorem upr_nil (X Y : G q) (n : Nat) : ∀ i, upr ([] : PL q) X Y n i = 0
  | 0 => rfl
  | i + 1 => by
    show upr [] X Y n i + rs X (rowP [] (n - 1 - i)) * Y ^ (n - 1 - i) = 0
    rw [upr_nil X Y n i]
    show (0 : G q) + 0 * Y ^ (n - 1 - i) = 0
    grind
theorem upr_ev (X Y : G q) (n : Nat) : ∀ l : PL q, (∀ t ∈ l, t.1.2 < n) → upr l X Y n n = ev l X Y
  | [], _ => upr_nil X Y n n
  | t :: l, h => by
    have ht := h t List.mem_cons_self
    rw [upr_cons t l X Y n ht n (Nat.le_refl n), upr_ev X Y n l fun x hx => h x (List.mem_cons_of_mem _ hx), if_pos (by omega), ev_cons]
    grind
theorem plugP_ok {l f g : PL q} {d e : Nat} (hl : Pn d l) (hf : Pn e f) (hg : Pn e g) : Pn (d * e) (plugP le l f g) ∧ cf (plugP le l f g) = ev l (cf f) (cf g) := by
  have hn := topJ_le hl.dg
  obtain ⟨h1, h2, h3⟩ := horP_ok (le := le) hl.dg hf hg hn (topJ l) (Nat.le_refl _)
  rw [upr_ev _ _ _ l topJ_lt, Nat.sub_self] at h3
  refine ⟨⟨h2, ?_⟩, ?_⟩
  · rcases h1 with h1 | h1
    · intro t ht
      have : plugP le l f g = [] := by
        unfold plugP
        rw [h1]
        rfl
      rw [this] at ht
      exact absurd ht List.not_mem_nil
    · have e1 : d + topJ l - topJ l = d := by omega
      rw [e1] at h1
      exact h1.dg
  · rw [← h3]
    show _ = _ * (1 : G q)
    show cf (plugP le l f g) = cf (plugP le l f g) * 1
    grind
theorem ev_app (a b : PL q) (X Y : G q) : ev (a ++ b) X Y = ev a X Y + ev b X Y := by
  induction a with
  | nil =>
    show ev b X Y = 0 + ev b X Y
    grind
  | cons t a ih =>
    rw [List.cons_append, ev_cons, ev_cons, ih]
    grind
theorem ev_perm {a b : PL q} (X Y : G q) (h : a.Perm b) : ev a X Y = ev b X Y := by
  induction h with
  | nil => rfl
  | cons t _ ih => rw [ev_cons, ev_cons, ih]
  | swap x y l =>
    rw [ev_cons, ev_cons, ev_cons, ev_cons]
    grind
  | trans _ _ h1 h2 => exact h1.trans h2
theorem ev_nz (l : PL q) (X Y : G q) : ev (l.filter nz) X Y = ev l X Y := by
  induction l with
  | nil => rfl
  | cons t l ih =>
    rw [List.filter_cons]
    by_cases h : t.2 = 0
    · have : nz t = false := by
        unfold nz
        rw [decide_eq_true h]
        rfl
      have z : kn (0 : F q) = 0 := tm_zero _
      rw [this, if_neg Bool.false_ne_true, ih, ev_cons, h, z]
      grind
    · have : nz t = true := by
        unfold nz
        rw [decide_eq_false h]
        rfl
      rw [this, if_pos rfl, ev_cons, ev_cons, ih]
theorem ev_canon (l : PL q) (X Y : G q) : ev (canon le l) X Y = ev l X Y := by rw [ev_perm X Y (canon_perm l), ev_nz]
/-! ### the pieces' pairs -/
def linL (a b c : F q) : PL q := [((1, 0), a), ((0, 1), b), ((0, 0), c)]
def linP (le : Le q) (a b c : F q) : PL q := canon le (linL a b c)
theorem linL_nd (a b c : F q) : ND (linL a b c) := by
  show ([(1, 0), (0, 1), (0, 0)] : List (Nat × Nat)).Nodup
  decide
theorem linP_ok (a b c : F q) : Pn 1 (linP le a b c) := ⟨canon_po (linL_nd a b c), canon_dg fun t ht => by
  rcases List.mem_cons.mp ht with rfl | ht
  · exact Nat.le_refl 1
  · rcases List.mem_cons.mp ht with rfl | ht
    · exact Nat.le_refl 1
    · rw [List.mem_singleton.mp ht]
      exact Nat.zero_le 1⟩
theorem linP_ev (a b c : F q) (X Y : G q) : ev (linP le a b c) X Y = kn a * X + kn b * Y + kn c := by
  unfold linP
  rw [ev_canon]
  show kn a * (1 * X) * 1 + (kn b * 1 * (1 * Y) + (kn c * 1 * 1 + 0)) = _
  grind
theorem linP_cf (a b c : F q) : cf (linP le a b c) = kn a * tm (1, 0) 1 + kn b * tm (0, 1) 1 + kn c := by
  unfold linP
  rw [canon_cf (linL_nd a b c), cf_sm (linL_nd a b c)]
  show tm (1, 0) a + (tm (0, 1) b + (tm (0, 0) c + 0)) = _
  rw [kn_mul, kn_mul, F.mul_one', F.mul_one']
  grind
/-- the pair of a straight map -/
def pairM (le : Le q) (m : SM q) : PL q × PL q := (linP le m.a m.b m.c, linP le m.d m.e m.f)
def bndI : Nat → List (F q) → PL q
  | _, [] => []
  | j, c :: b => ((0, j), c) :: bndI (j + 1) b
def bndL (b : List (F q)) : PL q := ((1, 0), 1) :: bndI 0 b
theorem bndI_key : ∀ (b : List (F q)) (j : Nat), ∀ t ∈ bndI j b, t.1.1 = 0 ∧ j ≤ t.1.2 ∧ t.1.2 < j + b.length
  | [], _, t, h => absurd h List.not_mem_nil
  | c :: b, j, t, h => by
    rw [List.length_cons]
    rcases List.mem_cons.mp h with rfl | h
    · exact ⟨rfl, Nat.le_refl j, by show j < _; omega⟩
    · obtain ⟨h1, h2, h3⟩ := bndI_key b (j + 1) t h
      exact ⟨h1, by omega, by omega⟩
theorem bndI_nd : ∀ (b : List (F q)) (j : Nat), ND (bndI j b)
  | [], _ => nd_nil
  | c :: b, j => by
    unfold ND
    show (((0, j) : Nat × Nat) :: (bndI (j + 1) b).map Prod.fst).Nodup
    rw [List.nodup_cons]
    refine ⟨fun m => ?_, bndI_nd b (j + 1)⟩
    obtain ⟨t, ht, e⟩ := List.mem_map.mp m
    obtain ⟨_, h2, _⟩ := bndI_key b (j + 1) t ht
    rw [e] at h2
    exact absurd h2 (Nat.not_succ_le_self j)
theorem bndL_nd (b : List (F q)) : ND (bndL b) := by
  unfold ND
  show (((1, 0) : Nat × Nat) :: (bndI 0 b).map Prod.fst).Nodup
  rw [List.nodup_cons]
  refine ⟨fun m => ?_, bndI_nd b 0⟩
  obtain ⟨t, ht, e⟩ := List.mem_map.mp m
  obtain ⟨h1, _, _⟩ := bndI_key b 0 t ht
  rw [e] at h1
  cases h1
def yL : PL q := [((0, 1), 1)]
def pairB (le : Le q) (b : List (F q)) : PL q × PL q := (canon le (bndL b), yL)
theorem yL_ok : Pn 1 (yL : PL q) := ⟨⟨by
  unfold ND yL
  simp, fun t ht => by
  rw [List.mem_singleton.mp ht]
  exact F.one_ne⟩, fun t ht => by
  rw [List.mem_singleton.mp ht]
  exact Nat.le_refl 1⟩
theorem pairB_ok {b : List (F q)} (h : Bend b) : Pn (b.length - 1) (pairB le b).1 ∧ Pn (b.length - 1) (pairB le b).2 := by
  have h1 := h.lo
  refine ⟨⟨canon_po (bndL_nd b), canon_dg fun t ht => ?_⟩, yL_ok.mono (by omega)⟩
  rcases List.mem_cons.mp ht with rfl | ht
  · show 1 + 0 ≤ _
    omega
  · obtain ⟨h2, _, h3⟩ := bndI_key b 0 t ht
    omega
/-- a derivation that leaves numbers -/
structure DerK (D : G q → G q) : Prop where
  der : PS.Der D
  kn : ∀ c, D (kn c) = 0
theorem dx_k : DerK (dx (q := q)) := ⟨dx_der, fun c => (dx_tm _ _).trans (if_pos rfl)⟩
theorem dy_k : DerK (dy (q := q)) := ⟨dy_der, fun c => (dy_tm _ _).trans (if_pos rfl)⟩
theorem pow_der (Y : G q) : ∀ n : Nat, ∃ w : G q, ∀ D : G q → G q, DerK D → D (Y ^ n) = w * D Y
  | 0 => ⟨0, fun D h => by
    show D (1 : G q) = _
    rw [← kn_one, h.kn]
    grind⟩
  | n + 1 => by
    obtain ⟨w, hw⟩ := pow_der Y n
    refine ⟨w * Y + Y ^ n, fun D h => ?_⟩
    rw [pow_succ', h.der.mul, hw D h]
    grind
theorem bndI_der (X Y : G q) : ∀ (b : List (F q)) (j : Nat), ∃ w : G q, ∀ D : G q → G q, DerK D → D (ev (bndI j b) X Y) = w * D Y
  | [], j => ⟨0, fun D h => by
    show D (0 : G q) = _
    rw [der_zero h.der]
    grind⟩
  | c :: b, j => by
    obtain ⟨w, hw⟩ := bndI_der X Y b (j + 1)
    obtain ⟨v, hv⟩ := pow_der Y j
    refine ⟨kn c * v + w, fun D h => ?_⟩
    show D (kn c * 1 * Y ^ j + ev (bndI (j + 1) b) X Y) = _
    rw [h.der.add, h.der.mul, h.der.mul, hw D h, hv D h, h.kn]
    have : D (1 : G q) = 0 := by rw [← kn_one, h.kn]
    rw [this]
    grind
/-! ### the pair of a row -/
def pairPc (le : Le q) : Pc q → PL q × PL q
  | .str m => pairM le m
  | .bnd b => pairB le b
def thenP (le : Le q) (one other : PL q × PL q) : PL q × PL q := (plugP le other.1 one.1 one.2, plugP le other.2 one.1 one.2)
def rowPair (le : Le q) (row : List (Pc q)) : PL q × PL q := row.foldl (fun fd p => thenP le fd (pairPc le p)) (pairM le SM.one)
def pcDeg : Pc q → Nat
  | .str _ => 1
  | .bnd b => b.length - 1
def rowDeg (row : List (Pc q)) : Nat := row.foldr (fun p n => pcDeg p * n) 1
theorem pairPc_ok {p : Pc q} (h : ST.pcOk p) : Pn (pcDeg p) (pairPc le p).1 ∧ Pn (pcDeg p) (pairPc le p).2 := by
  cases p with
  | str m => exact ⟨linP_ok _ _ _, linP_ok _ _ _⟩
  | bnd b => exact pairB_ok h
theorem pairPc_jac {p : Pc q} (h : ST.pcOk p) (X Y : G q) : jac (ev (pairPc le p).1 X Y) (ev (pairPc le p).2 X Y) = kn (ST.pcDet p) * jac X Y := by
  cases p with
  | str m =>
    show jac (ev (linP le _ _ _) X Y) (ev (linP le _ _ _) X Y) = kn (m.a * m.e - m.b * m.d) * jac X Y
    rw [linP_ev, linP_ev]
    have e0 : ∀ a b : F q, kn (a - b) = kn a - kn b := fun a b => gext fun i j => by
      have e : (kn a - kn b) = kn a + -kn b := by grind
      rw [e]
      show (if (i, j) = (0, 0) then a - b else 0) = (if (i, j) = (0, 0) then a else 0) + -(if (i, j) = (0, 0) then b else 0)
      split <;> grind
    rw [e0, knm, knm]
    unfold jac
    rw [dx_k.der.add, dx_k.der.add, dx_k.der.mul, dx_k.der.mul, dx_k.kn, dx_k.kn, dx_k.kn, dy_k.der.add, dy_k.der.add, dy_k.der.mul, dy_k.der.mul, dy_k.kn, dy_k.kn, dy_k.kn, dx_k.der.add, dx_k.der.add, dx_k.der.mul, dx_k.der.mul, dx_k.kn, dx_k.kn, dx_k.kn, dy_k.der.add, dy_k.der.add, dy_k.der.mul, dy_k.der.mul, dy_k.kn, dy_k.kn, dy_k.kn]
    grind
  | bnd b =>
    show jac (ev (canon le (bndL b)) X Y) (ev yL X Y) = kn 1 * jac X Y
    have e1 : ev (canon le (bndL b)) X Y = X + ev (bndI 0 b) X Y := by
      rw [ev_canon]
      show kn 1 * (1 * X) * 1 + ev (bndI 0 b) X Y = _
      rw [kn_one]
      grind
    have e2 : ev (yL : PL q) X Y = Y := by
      show kn 1 * 1 * (1 * Y) + 0 = Y
      rw [kn_one]
      grind
    obtain ⟨w, hw⟩ := bndI_der X Y b 0
    rw [e1, e2, kn_one]
    unfold jac
    rw [dx_k.der.add, dy_k.der.add, hw dx dx_k, hw dy dy_k]
    grind
theorem rowPair_aux : ∀ (row : List (Pc q)) (fd : PL q × PL q) (e : Nat), (∀ p ∈ row, ST.pcOk p) → Pn e fd.1 → Pn e fd.2 →
    Pn (rowDeg row * e) (row.foldl (fun fd p => thenP le fd (pairPc le p)) fd).1 ∧ Pn (rowDeg row * e) (row.foldl (fun fd p => thenP le fd (pairPc le p)) fd).2 ∧
    jac (cf (row.foldl (fun fd p => thenP le fd (pairPc le p)) fd).1) (cf (row.foldl (fun fd p => thenP le fd (pairPc le p)) fd).2) = kn (ST.pcsDet row) * jac (cf fd.1) (cf fd.2)
  | [], fd, e, _, h1, h2 => ⟨h1.mono (by show e ≤ 1 * e; omega), h2.mono (by show e ≤ 1 * e; omega), by
    show jac (cf fd.1) (cf fd.2) = kn 1 * jac (cf fd.1) (cf fd.2)
    rw [kn_one]
    grind⟩
  | p :: row, fd, e, hr, h1, h2 => by
    have hp := hr p List.mem_cons_self
    obtain ⟨p1, p2⟩ := pairPc_ok (le := le) hp
    obtain ⟨a1, a2⟩ := plugP_ok (le := le) p1 h1 h2
    obtain ⟨b1, b2⟩ := plugP_ok (le := le) p2 h1 h2
    obtain ⟨i1, i2, i3⟩ := rowPair_aux row (thenP le fd (pairPc le p)) (pcDeg p * e) (fun x hx => hr x (List.mem_cons_of_mem _ hx)) a1 b1
    have ed : rowDeg row * (pcDeg p * e) = rowDeg (p :: row) * e := by
      show _ = pcDeg p * rowDeg row * e
      rw [← Nat.mul_assoc, Nat.mul_comm (rowDeg row)]
    rw [ed] at i1 i2
    refine ⟨i1, i2, i3.trans ?_⟩
    show kn (ST.pcsDet row) * jac (cf (plugP le (pairPc le p).1 fd.1 fd.2)) (cf (plugP le (pairPc le p).2 fd.1 fd.2)) = kn (ST.pcDet p * ST.pcsDet row) * _
    rw [a2, b2, pairPc_jac hp, knm]
    grind
theorem jac_one : jac (cf (pairM le (SM.one : SM q)).1) (cf (pairM le (SM.one : SM q)).2) = 1 := by
  show jac (cf (linP le (1 : F q) 0 0)) (cf (linP le (0 : F q) 1 0)) = 1
  rw [linP_cf, linP_cf]
  have z : kn (0 : F q) = 0 := tm_zero _
  rw [z, kn_one]
  have e1 : (1 : G q) * tm (1, 0) 1 + 0 * tm (0, 1) 1 + 0 = tm (1, 0) (1 : F q) := by grind
  have e2 : (0 : G q) * tm (1, 0) 1 + 1 * tm (0, 1) 1 + 0 = tm (0, 1) (1 : F q) := by grind
  rw [e1, e2]
  unfold jac
  have c1 : ((1 : Nat) : F q) * 1 = 1 := by grind
  have d1 : dx (tm (1, 0) (1 : F q)) = 1 := by
    rw [dx_tm, if_neg (by decide)]
    show tm (0, 0) (((1 : Nat) : F q) * 1) = 1
    rw [c1]
    exact kn_one
  have d2 : dy (tm (0, 1) (1 : F q)) = 1 := by
    rw [dy_tm, if_neg (by decide)]
    show tm (0, 0) (((1 : Nat) : F q) * 1) = 1
    rw [c1]
    exact kn_one
  have d3 : dy (tm (1, 0) (1 : F q)) = 0 := by rw [dy_tm, if_pos rfl]
  rw [d1, d2, d3]
  grind
/-- the determinant of the pair of a step's pieces -/
theorem det_row {row : List (Pc q)} (hr : ∀ p ∈ row, ST.pcOk p) (hd : ST.pcsDet row ≠ 0) : detP le (rowPair le row).1 (rowPair le row).2 = [((0, 0), ST.pcsDet row)] := by
  obtain ⟨h1, h2, h3⟩ := rowPair_aux (le := le) row (pairM le SM.one) 1 hr (linP_ok _ _ _) (linP_ok _ _ _)
  obtain ⟨d1, d2⟩ := detP_ok (le := le) h1 h2
  refine po_one d1.po hd (d2.trans (h3.trans ?_))
  rw [jac_one]
  grind
end
end K19

/-! TEXT K19M8 -/
set_option autoImplicit false
set_option linter.all false
/-! PLAIN: a block of the steps; a map that multiplies x, ahead of a step or behind it. -/
namespace K19
/-! ### lists -/
def ddp {α : Type} [DecidableEq α] : List α → List α
  | [] => []
  | a :: l => if a ∈ l then ddp l else a :: ddp l
theorem mem_ddp {α : Type} [DecidableEq α] {x : α} : ∀ {l : List α}, x ∈ ddp l ↔ x ∈ l
  | [] => Iff.rfl
  | a :: l => by
    unfold ddp
    by_cases h : a ∈ l
    · rw [if_pos h, mem_ddp (l := l), List.mem_cons]
      exact ⟨.inr, fun z => z.elim (fun e => e ▸ h) id⟩
    · rw [if_neg h, List.mem_cons, List.mem_cons, mem_ddp (l := l)]
theorem ddp_nodup {α : Type} [DecidableEq α] : ∀ l : List α, (ddp l).Nodup
  | [] => List.nodup_nil
  | a :: l => by
    unfold ddp
    by_cases h : a ∈ l
    · rw [if_pos h]
      exact ddp_nodup l
    · rw [if_neg h, List.nodup_cons, mem_ddp]
      exact ⟨h, ddp_nodup l⟩
theorem ddp_len {α : Type} [DecidableEq α] {l L : List α} (hn : L.Nodup) (h : ∀ x, x ∈ L ↔ x ∈ l) : L.length = (ddp l).length :=
  ((List.perm_ext_iff_of_nodup hn (ddp_nodup l)).mpr fun x => (h x).trans mem_ddp.symm).length_eq
theorem ddp_id {α : Type} [DecidableEq α] {l : List α} (hn : l.Nodup) : (ddp l).length = l.length := (ddp_len hn fun _ => Iff.rfl).symm
theorem ddp_map {α β : Type} [DecidableEq α] [DecidableEq β] {f : α → β} (l : List α) (hf : ∀ x ∈ l, ∀ y ∈ l, f x = f y → x = y) : (ddp (l.map f)).length = (ddp l).length := by
  have h := ddp_len (l := l.map f) (L := (ddp l).map f) (nodup_map (fun x hx y hy => hf x (mem_ddp.mp hx) y (mem_ddp.mp hy)) (ddp_nodup l)) fun x => by
    rw [List.mem_map, List.mem_map]
    exact ⟨fun ⟨y, h1, h2⟩ => ⟨y, mem_ddp.mp h1, h2⟩, fun ⟨y, h1, h2⟩ => ⟨y, mem_ddp.mpr h1, h2⟩⟩
  rw [← h, List.length_map]
/-- a test of each q-th number, q times -/
theorem cnt_div (q : Nat) (hq : 0 < q) (p : Nat → Bool) : ∀ N, ((List.range (q * N)).filter fun i => p (i / q)).length = q * ((List.range N).filter p).length
  | 0 => by simp
  | N + 1 => by
    have e : q * (N + 1) = q * N + q := Nat.mul_succ q N
    rw [e, List.range_add, List.filter_append, List.length_append, cnt_div q hq p N, List.range_succ, List.filter_append, List.length_append, Nat.mul_add]
    congr 1
    have k : ∀ x ∈ List.range q, ((fun i => p (i / q)) ∘ fun x => q * N + x) x = p N := fun x hx => by
      have hx := List.mem_range.mp hx
      show p ((q * N + x) / q) = p N
      rw [Nat.mul_add_div hq, Nat.div_eq_of_lt hx, Nat.add_zero]
    rw [List.filter_map, List.length_map]
    cases hp : p N with
    | true =>
      rw [List.filter_eq_self.mpr fun x hx => (k x hx).trans hp, List.length_range]
      simp [hp]
    | false =>
      rw [List.filter_eq_nil_iff.mpr fun x hx z => by rw [k x hx, hp] at z; cases z]
      simp [hp]
theorem range_getD {α : Type} (l : List α) (d : α) : (List.range l.length).map (fun i => l.getD i d) = l := by
  apply List.ext_getElem?
  intro i
  by_cases h : i < l.length
  · rw [List.getElem?_map, List.getElem?_range h, List.getElem?_eq_getElem h]
    show some (l.getD i d) = _
    rw [List.getD_eq_getElem?_getD, List.getElem?_eq_getElem h]
    rfl
  · rw [List.getElem?_eq_none (by simpa using h), List.getElem?_eq_none (by omega)]
theorem cnt_getD {α : Type} (l : List α) (d : α) (P : α → Bool) : ((List.range l.length).filter fun i => P (l.getD i d)).length = (l.filter P).length := by
  have h : (((List.range l.length).map fun i => l.getD i d).filter P).length = (l.filter P).length := by rw [range_getD]
  rw [List.filter_map, List.length_map] at h
  exact h
section
variable {q : Nat} [Fld q]
/-! ### a block -/
def blS (q : Nat) (wh : Bool) : Nat := if wh = true then q * (q * q - q) else q
theorem blS_pos (wh : Bool) : 0 < blS q wh := by
  have hq := q_bd (q := q)
  have h1 := qq_pos (q := q)
  unfold blS
  split
  · exact Nat.mul_pos (by omega) h1
  · omega
def blC (q : Nat) (wh : Bool) : Nat := if wh = true then (q * q - 1) * q else (q * q - 1) * (q * q - q) * q
theorem bl_ms (wh : Bool) : msN q = blS q wh * blC q wh := by
  unfold msN blS blC
  split
  · generalize q * q - q = a
    generalize q * q - 1 = b
    simp only [Nat.mul_assoc, Nat.mul_comm, Nat.mul_left_comm]
  · generalize q * q - q = a
    generalize q * q - 1 = b
    rw [Nat.mul_comm q (b * a * q)]
theorem bl_div (wh : Bool) (r : Nat) {a : Nat} (h : a < blS q wh) : (blS q wh * r + a) / msN q = r / blC q wh := by
  rw [bl_ms wh, ← Nat.div_div_eq_div_mul, Nat.mul_add_div (blS_pos wh), Nat.div_eq_of_lt h, Nat.add_zero]
theorem bl_mod (wh : Bool) (r : Nat) {a : Nat} (h : a < blS q wh) : (blS q wh * r + a) % msN q = blS q wh * (r % blC q wh) + a := by
  rw [bl_ms wh, Nat.mod_mul, Nat.mul_add_div (blS_pos wh), Nat.div_eq_of_lt h, Nat.add_zero, Nat.mul_add_mod, Nat.mod_eq_of_lt h, Nat.add_comm]
theorem step_bl (ds : List Nat) (wh : Bool) (r : Nat) {a : Nat} (h : a < blS q wh) : (stepAt ds (blS q wh * r + a) : ST q) = { (stepAt ds (blS q wh * r) : ST q) with last := mapAt (blS q wh * (r % blC q wh) + a) } := by
  have e1 := bl_div (q := q) wh r h
  have e2 := bl_mod (q := q) wh r h
  have e3 := bl_div (q := q) wh r (a := 0) (blS_pos wh)
  rw [Nat.add_zero] at e3
  unfold stepAt
  by_cases hd : ds = []
  · rw [if_pos hd, if_pos hd, e2]
  · rw [if_neg hd, if_neg hd, e1, e2, e3]
theorem dg_eq {m n : Nat} (h : m % q = n % q) : (dg m : F q) = dg n := F.ext' (by rw [dg_v, dg_v, h])
/-- the map at a place of a whole block -/
theorem map_wh (t : Nat) {a : Nat} (h : a < q * (q * q - q)) : (mapAt (q * (q * q - q) * t + a) : SM q) = ⟨mapA (t / q), mapB (t / q), dg t, ((secs (mapA (t / q) : F q) (mapB (t / q))).getD (a / q) (0, 0)).1, ((secs (mapA (t / q) : F q) (mapB (t / q))).getD (a / q) (0, 0)).2, dg a⟩ := by
  have hq := q_bd (q := q)
  have h1 := qq_pos (q := q)
  have e1 : (q * (q * q - q) * t + a) / q = (q * q - q) * t + a / q := by rw [Nat.mul_assoc, Nat.mul_add_div (by omega)]
  have e2 : a / q < q * q - q := Nat.div_lt_of_lt_mul h
  have e3 : ((q * q - q) * t + a / q) / (q * q - q) = t := by rw [Nat.mul_add_div h1, Nat.div_eq_of_lt e2, Nat.add_zero]
  have e4 : ((q * q - q) * t + a / q) % (q * q - q) = a / q := by rw [Nat.mul_add_mod, Nat.mod_eq_of_lt e2]
  have e5 : (dg (q * (q * q - q) * t + a) : F q) = dg a := dg_eq (by rw [Nat.mul_assoc, Nat.mul_add_mod])
  unfold mapAt
  simp only
  rw [e1, e3, e4, e5]
/-- the map at a place of a cut block -/
theorem map_cut (t : Nat) {a : Nat} (h : a < q) : (mapAt (q * t + a) : SM q) = { (mapAt (q * t) : SM q) with f := dg a } := by
  have hq := q_bd (q := q)
  have e1 : (q * t + a) / q = t := by rw [Nat.mul_add_div (by omega), Nat.div_eq_of_lt h, Nat.add_zero]
  have e2 : q * t / q = t := Nat.mul_div_cancel_left t (by omega)
  have e5 : (dg (q * t + a) : F q) = dg a := dg_eq (by rw [Nat.mul_add_mod])
  unfold mapAt
  simp only
  rw [e1, e2, e5]
/-- what the steps of a block share -/
theorem bl_same (ds : List Nat) (wh : Bool) (r : Nat) {a : Nat} (h : a < blS q wh) :
    (stepAt ds (blS q wh * r + a) : ST q).start = (stepAt ds (blS q wh * r) : ST q).start ∧ (stepAt ds (blS q wh * r + a) : ST q).bends = (stepAt ds (blS q wh * r) : ST q).bends ∧ (stepAt ds (blS q wh * r + a) : ST q).turns = (stepAt ds (blS q wh * r) : ST q).turns ∧
    (stepAt ds (blS q wh * r + a) : ST q).last.a = (stepAt ds (blS q wh * r) : ST q).last.a ∧ (stepAt ds (blS q wh * r + a) : ST q).last.b = (stepAt ds (blS q wh * r) : ST q).last.b ∧ (stepAt ds (blS q wh * r + a) : ST q).last.c = (stepAt ds (blS q wh * r) : ST q).last.c ∧
    (wh = false → (stepAt ds (blS q wh * r + a) : ST q).last.d = (stepAt ds (blS q wh * r) : ST q).last.d ∧ (stepAt ds (blS q wh * r + a) : ST q).last.e = (stepAt ds (blS q wh * r) : ST q).last.e) := by
  have e0 := step_bl (q := q) ds wh r (a := 0) (blS_pos wh)
  rw [Nat.add_zero, Nat.add_zero] at e0
  have el : (stepAt ds (blS q wh * r) : ST q).last = mapAt (blS q wh * (r % blC q wh)) := congrArg ST.last e0
  rw [step_bl ds wh r h]
  refine ⟨rfl, rfl, rfl, ?_⟩
  rw [el]
  cases wh with
  | true =>
    show (mapAt (q * (q * q - q) * _ + a) : SM q).a = (mapAt (q * (q * q - q) * _) : SM q).a ∧ (mapAt (q * (q * q - q) * _ + a) : SM q).b = (mapAt (q * (q * q - q) * _) : SM q).b ∧ (mapAt (q * (q * q - q) * _ + a) : SM q).c = (mapAt (q * (q * q - q) * _) : SM q).c ∧ _
    have e1 := map_wh (q := q) (r % blC q true) h
    have e2 := map_wh (q := q) (r % blC q true) (a := 0) (blS_pos true)
    rw [Nat.add_zero] at e2
    rw [e1, e2]
    exact ⟨rfl, rfl, rfl, fun z => nomatch z⟩
  | false =>
    show (mapAt (q * _ + a) : SM q).a = (mapAt (q * _) : SM q).a ∧ (mapAt (q * _ + a) : SM q).b = (mapAt (q * _) : SM q).b ∧ (mapAt (q * _ + a) : SM q).c = (mapAt (q * _) : SM q).c ∧ (false = false → (mapAt (q * _ + a) : SM q).d = (mapAt (q * _) : SM q).d ∧ (mapAt (q * _ + a) : SM q).e = (mapAt (q * _) : SM q).e)
    rw [map_cut (q := q) (r % blC q false) h]
    exact ⟨rfl, rfl, rfl, fun _ => ⟨rfl, rfl⟩⟩
theorem getD_inj {α : Type} {l : List α} {d : α} (hn : l.Nodup) {i j : Nat} (hi : i < l.length) (hj : j < l.length) (h : l.getD i d = l.getD j d) : i = j := by
  rw [List.getD_eq_getElem?_getD, List.getD_eq_getElem?_getD, List.getElem?_eq_getElem hi, List.getElem?_eq_getElem hj] at h
  exact (List.getElem_inj hn).mp h
theorem bl_ab (wh : Bool) (r : Nat) : wh = true → ¬ ((mapA (r % blC q true / q) : F q) = 0 ∧ (mapB (r % blC q true / q) : F q) = 0) := fun _ => by
  have hq := q_bd (q := q)
  refine map_ab ?_
  have h1 : 0 < blC q true := by
    unfold blC
    rw [if_pos rfl]
    have : 0 < q * q - 1 := by
      have := qq_pos (q := q)
      omega
    exact Nat.mul_pos this (by omega)
  have h2 := Nat.mod_lt r h1
  apply Nat.div_lt_of_lt_mul
  have h3 : blC q true = q * (q * q - 1) := by
    unfold blC
    rw [if_pos rfl, Nat.mul_comm]
  omega
/-- the steps of a block are unlike -/
theorem bl_inj (ds : List Nat) (wh : Bool) (r : Nat) {a b : Nat} (ha : a < blS q wh) (hb : b < blS q wh) (h : (stepAt ds (blS q wh * r + a) : ST q) = stepAt ds (blS q wh * r + b)) : a = b := by
  have hq := q_bd (q := q)
  have hl := congrArg ST.last h
  rw [step_bl ds wh r ha, step_bl ds wh r hb] at hl
  have hl : (mapAt (blS q wh * (r % blC q wh) + a) : SM q) = mapAt (blS q wh * (r % blC q wh) + b) := hl
  cases wh with
  | true =>
    have ab := bl_ab (q := q) true r rfl
    have sl := secs_len ab
    have ha : a < q * (q * q - q) := ha
    have hb : b < q * (q * q - q) := hb
    have hl : (mapAt (q * (q * q - q) * (r % blC q true) + a) : SM q) = mapAt (q * (q * q - q) * (r % blC q true) + b) := hl
    rw [map_wh _ ha, map_wh _ hb] at hl
    have hf := congrArg F.v (congrArg SM.f hl)
    have hd := congrArg SM.d hl
    have he := congrArg SM.e hl
    have hf : a % q = b % q := hf
    have i1 : a / q < q * q - q := Nat.div_lt_of_lt_mul ha
    have i2 : b / q < q * q - q := Nat.div_lt_of_lt_mul hb
    have hx := getD_inj (d := ((0 : F q), (0 : F q))) (prs_nodup (fun d e : F q => !decide (mapA (r % blC q true / q) * e = mapB (r % blC q true / q) * d))) (i := a / q) (j := b / q) (by show _ < (secs _ _).length; rw [sl]; exact i1) (by show _ < (secs _ _).length; rw [sl]; exact i2) (Prod.ext hd he)
    have d1 := Nat.div_add_mod a q
    have d2 := Nat.div_add_mod b q
    rw [hx, hf] at d1
    omega
  | false =>
    have ha : a < q := ha
    have hb : b < q := hb
    have hl : (mapAt (q * (r % blC q false) + a) : SM q) = mapAt (q * (r % blC q false) + b) := hl
    rw [map_cut _ ha, map_cut _ hb] at hl
    have hf := congrArg F.v (congrArg SM.f hl)
    have hf : a % q = b % q := hf
    rw [Nat.mod_eq_of_lt ha, Nat.mod_eq_of_lt hb] at hf
    exact hf
theorem sgn_sgn (n : Nat) (x : F q) : ST.sgn n (ST.sgn n x) = x := by
  unfold ST.sgn
  split
  · exact F.neg_neg' x
  · rfl
/-- each determinant stands q q times -/
theorem bl_cnt (ds : List Nat) (r : Nat) {u : F q} (hu : u ≠ 0) : ((List.range (blS q true)).filter fun a => decide ((stepAt ds (blS q true * r + a) : ST q).det = u)).length = q * q := by
  have hq := q_bd (q := q)
  let t := r % blC q true
  let A : F q := mapA (t / q)
  let B : F q := mapB (t / q)
  let s0 : ST q := stepAt ds (blS q true * r)
  have ab : ¬ (A = 0 ∧ B = 0) := bl_ab (q := q) true r rfl
  have hd : ∀ a ∈ List.range (blS q true), decide ((stepAt ds (blS q true * r + a) : ST q).det = u) = (fun i => (fun x : F q × F q => decide (A * x.2 - B * x.1 = ST.sgn s0.flips u)) ((secs A B).getD i (0, 0))) (a / q) := fun a ha => by
    have ha := List.mem_range.mp ha
    have e : (stepAt ds (blS q true * r + a) : ST q).det = ST.sgn s0.flips (A * ((secs A B).getD (a / q) (0, 0)).2 - B * ((secs A B).getD (a / q) (0, 0)).1) := by
      rw [step_bl ds true r ha]
      show ST.sgn s0.flips (mapAt (q * (q * q - q) * t + a) : SM q).det = _
      rw [map_wh t ha]
      rfl
    rw [e]
    refine decide_eq_decide.mpr ⟨fun z => ?_, fun z => ?_⟩
    · have := congrArg (ST.sgn s0.flips) z
      rw [sgn_sgn] at this
      exact this
    · show ST.sgn s0.flips (A * _ - B * _) = u
      rw [show A * ((secs A B).getD (a / q) (0, 0)).2 - B * ((secs A B).getD (a / q) (0, 0)).1 = ST.sgn s0.flips u from z, sgn_sgn]
  rw [List.filter_congr hd]
  have e2 : blS q true = q * (secs A B).length := by
    rw [secs_len ab]
    rfl
  rw [e2]
  refine (cnt_div q (by omega) (fun i => (fun x : F q × F q => decide (A * x.2 - B * x.1 = ST.sgn s0.flips u)) ((secs A B).getD i (0, 0))) _).trans ?_
  rw [cnt_getD (secs A B) (0, 0) (fun x : F q × F q => decide (A * x.2 - B * x.1 = ST.sgn s0.flips u)), secs_cnt ab (ST.sgn_ne hu)]
/-! ### just as many of each -/
theorem mst_each (ds : List Nat) : mstN q ds / (q - 1) * (q - 1) = mstN q ds := by
  have hq := q_bd (q := q)
  have h : (q - 1) ∣ mstN q ds := by
    refine Nat.dvd_mul_right_of_dvd (Nat.dvd_mul_right_of_dvd ?_ _) _
    refine Nat.dvd_mul_right_of_dvd (Nat.dvd_mul_right_of_dvd (Nat.dvd_mul_right_of_dvd ?_ _) _) _
    refine ⟨q + 1, ?_⟩
    have : (q - 1) * (q + 1) = q * q - 1 := by
      obtain ⟨k, rfl⟩ : ∃ k, q = k + 1 := ⟨q - 1, by omega⟩
      rw [Nat.add_sub_cancel, Nat.mul_add, Nat.mul_one, Nat.add_mul k 1 (k + 1), Nat.mul_add k k 1]
      omega
    exact this.symm
  exact Nat.div_mul_cancel h
/-! ### maps that multiply x -/
def scl (u : F q) : ST q := ⟨none, [], [], ⟨u, 0, 0, 0, 1, 0⟩⟩
theorem scl_det (u : F q) : (scl u).det = u := by
  show ST.sgn 0 (u * 1 - 0 * 0) = u
  unfold ST.sgn
  rw [if_neg (by decide)]
  grind
theorem scl_ok {u : F q} (h : u ≠ 0) : (scl u).Ok := ⟨fun b hb => absurd hb List.not_mem_nil, by
  show u * 1 - 0 * 0 ≠ 0
  intro z
  exact h (by grind), rfl, fun _ => rfl⟩
theorem thn_scl (s : ST q) (u : F q) : (s.thn (scl u)).bends = s.bends := rfl
theorem wBnd_up {x : ST q} (hx : x.Ok) (hd : x.bends = [] ∨ x.last.d ≠ 0) {b : List (F q)} (hb : Bend b) : (x.wBnd b).bends.map List.length = x.bends.map List.length ++ [b.length] ∧ (x.wBnd b).last.d = 0 ∧ (x.wBnd b).last.a ≠ 0 := by
  have h1 := split_d x.last
  have h2 := split_det x.last
  have h3 : (split x.last).2.det ≠ 0 := by
    rw [h2]
    split
    · exact F.neg_ne hx.det
    · exact hx.det
  obtain ⟨g1, g2⟩ := thru_ok h3 h1 hb
  have g3 := (det_ne h3 h1).1
  unfold ST.wBnd
  simp only
  by_cases c1 : x.bends = []
  · rw [if_pos c1]
    refine ⟨?_, h1, g3⟩
    show [(thruB _ b).length] = _
    rw [g2, c1]
    rfl
  · rw [if_neg c1]
    have hd : x.last.d ≠ 0 := hd.resolve_left c1
    have hs : (split x.last).1 = some (x.last.e * F.inv x.last.d) := by
      unfold split
      rw [if_neg hd]
    rw [hs]
    refine ⟨?_, h1, g3⟩
    show (x.bends ++ [thruB _ b]).map List.length = _
    rw [List.map_append]
    show _ ++ [(thruB _ b).length] = _
    rw [g2]
theorem tail_up : ∀ (bs : List (List (F q))) (ts : List (F q)) (x : ST q), x.Ok → (x.bends = [] ∨ x.last.d ≠ 0) → (∀ b ∈ bs, Bend b) → ts.length = bs.length - 1 → (x.wPcs (ST.tail bs ts)).bends.map List.length = x.bends.map List.length ++ bs.map List.length
  | [], ts, x, _, _, _, _ => by
    show x.bends.map List.length = _
    rw [List.map_nil, List.append_nil]
  | b :: bs, [], x, hx, hd, hb, hl => by
    have e : bs = [] := List.eq_nil_of_length_eq_zero (by rw [List.length_cons] at hl; simpa using hl.symm)
    subst e
    exact (wBnd_up hx hd (hb b List.mem_cons_self)).1
  | b :: bs, t :: ts, x, hx, hd, hb, hl => by
    obtain ⟨k1, k2, k3⟩ := wBnd_up hx hd (hb b List.mem_cons_self)
    have o1 := (ST.wBnd_ok hx (hb b List.mem_cons_self)).1
    have o2 : ((x.wBnd b).wStr (SM.turn t)).Ok := o1.wStr (by rw [SM.det_turn]; exact neg1_ne)
    have e := tail_up bs ts ((x.wBnd b).wStr (SM.turn t)) o2 (.inr ?_) (fun y hy => hb y (List.mem_cons_of_mem _ hy)) (by rw [List.length_cons, List.length_cons] at hl; omega)
    · show (((x.wBnd b).wStr (SM.turn t)).wPcs (ST.tail bs ts)).bends.map List.length = _
      rw [e]
      show (x.wBnd b).bends.map List.length ++ _ = _
      rw [k1, List.append_assoc]
      rfl
    · show (SM.thn (x.wBnd b).last (SM.turn t)).d ≠ 0
      have e1 : (SM.thn (x.wBnd b).last (SM.turn t)).d = (x.wBnd b).last.a := by
        show 1 * (x.wBnd b).last.a + t * (x.wBnd b).last.d = _
        rw [k2]
        grind
      rw [e1]
      exact k3
theorem wPcs_app (x : ST q) (a b : List (Pc q)) : x.wPcs (a ++ b) = (x.wPcs a).wPcs b := by
  unfold ST.wPcs
  rw [List.foldl_append]
theorem scl_thn {s : ST q} (hs : s.Ok) {u : F q} (h : u ≠ 0) : ((scl u).thn s).bends.map List.length = s.bends.map List.length := by
  show ((scl u).wPcs (ST.head s.start ++ ST.tail s.bends s.turns ++ [.str s.last])).bends.map List.length = _
  rw [wPcs_app, wPcs_app]
  show (((scl u).wPcs (ST.head s.start)).wPcs (ST.tail s.bends s.turns)).bends.map List.length = _
  have k : ((scl u).wPcs (ST.head s.start)).Ok ∧ ((scl u).wPcs (ST.head s.start)).bends = [] := by
    cases s.start with
    | none => exact ⟨scl_ok h, rfl⟩
    | some r => exact ⟨(scl_ok h).wStr (by rw [SM.det_turn]; exact neg1_ne), rfl⟩
  rw [tail_up _ _ _ k.1 (.inl k.2) hs.bend hs.len, k.2]
  rfl
/-! ### the degree of a step's pair -/
theorem tail_deg : ∀ (bs : List (List (F q))) (ts : List (F q)), rowDeg (ST.tail bs ts) = bs.foldr (fun b n => (b.length - 1) * n) 1
  | [], _ => rfl
  | b :: bs, [] => by
    show (b.length - 1) * rowDeg (ST.tail bs []) = _
    rw [tail_deg bs []]
    rfl
  | b :: bs, t :: ts => by
    show (b.length - 1) * (1 * rowDeg (ST.tail bs ts)) = _
    rw [tail_deg bs ts, Nat.one_mul]
    rfl
theorem rowDeg_two (a b : List (Pc q)) : rowDeg (a ++ b) = rowDeg a * rowDeg b := by
  induction a with
  | nil => exact (Nat.one_mul _).symm
  | cons x a ih =>
    show pcDeg x * rowDeg (a ++ b) = pcDeg x * rowDeg a * rowDeg b
    rw [ih, Nat.mul_assoc]
theorem pieces_deg (s : ST q) : rowDeg s.pieces = s.bends.foldr (fun b n => (b.length - 1) * n) 1 := by
  have e : rowDeg s.pieces = rowDeg (ST.head s.start) * rowDeg (ST.tail s.bends s.turns) * rowDeg [Pc.str s.last] := by
    show rowDeg (ST.head s.start ++ ST.tail s.bends s.turns ++ [.str s.last]) = _
    rw [rowDeg_two, rowDeg_two]
  rw [e, tail_deg]
  have e1 : rowDeg (ST.head s.start) = 1 := by
    cases s.start <;> rfl
  rw [e1, Nat.one_mul]
  exact Nat.mul_one _
theorem size_deg {s : ST q} (hs : s.Ok) : s.bends.foldl (fun (n : Int) b => n * ((b.length : Int) - 1)) 1 = (rowDeg s.pieces : Nat) := by
  rw [pieces_deg]
  have h : ∀ (bs : List (List (F q))) (n : Int), (∀ b ∈ bs, Bend b) → bs.foldl (fun (n : Int) b => n * ((b.length : Int) - 1)) n = n * ((bs.foldr (fun b n => (b.length - 1) * n) 1 : Nat) : Int) := fun bs => by
    induction bs with
    | nil =>
      intro n _
      show n = n * 1
      omega
    | cons b bs ih =>
      intro n hb
      have l1 := (hb b List.mem_cons_self).lo
      show bs.foldl _ (n * ((b.length : Int) - 1)) = _
      rw [ih _ fun y hy => hb y (List.mem_cons_of_mem _ hy)]
      show _ = n * (((b.length - 1) * _ : Nat) : Int)
      have e : ((b.length : Int) - 1) = ((b.length - 1 : Nat) : Int) := by omega
      rw [e, Int.natCast_mul, Int.mul_assoc]
  rw [h s.bends 1 hs.bend, Int.one_mul]
end
end K19

/-! TEXT K19D -/
set_option Elab.async false
set_option linter.all false
set_option maxRecDepth 100000
set_option maxHeartbeats 2000000
set_option autoImplicit false
/-! THE DATA LAYER. All values of the pure defs are data (PyData, by Dp). Two heaps: D, where the data stands, within H, the heap. A def is told by a relation of argument data and result data. -/
namespace K19
open PySem PySem.Spec PyProof.Rows L2
open Evl (Ex)

/-! ### data and growing heaps -/
mutual
theorem dpE {K : PySem.W.Frag} {H H' : Hp} (e : Ex H H') : ∀ (d : PyData) (v : V), Dp K H v d → Dp K H' v d
  | .none, _, h => by cases h; exact .non
  | .bool b, _, h => by cases h; exact .bl b
  | .int i, _, h => by cases h; exact .int i
  | .str x, _, h => by cases h; exact .str x
  | .list ds, _, h => by
    cases h with
    | lst hs ha => exact .lst (Evl.ex_l e hs) (dpEs e ds _ ha)
  | .tuple ds, _, h => by
    cases h with
    | tup hs ha => exact .tup (Evl.ex_t e hs) (dpEs e ds _ ha)
  | .dict _, _, h => by cases h
theorem dpEs {K : PySem.W.Frag} {H H' : Hp} (e : Ex H H') : ∀ (ds : List PyData) (vs : List V), DpAll K H vs ds → DpAll K H' vs ds
  | [], _, h => by cases h; exact .nil
  | d :: ds, _, h => by
    cases h with
    | cons h1 h2 => exact .cons (dpE e d _ h1) (dpEs e ds _ h2)
end
section
variable {K : PySem.W.Frag} {H H' D D' : Hp} {v : V} {vs : List V} {d : PyData} {ds : List PyData}
theorem dpX (e : Ex H H') (h : Dp K H v d) : Dp K H' v d := dpE e d v h
theorem dpA (e : Ex H H') (h : DpAll K H vs ds) : DpAll K H' vs ds := dpEs e ds vs h
theorem dp_int {i : Int} (h : Dp K H v (.int i)) : v = .int i := by cases h; rfl
theorem dp_bl {b : Bool} (h : Dp K H v (.bool b)) : v = .bl b := by cases h; rfl
theorem dp_str {x : Str} (h : Dp K H v (.str x)) : v = .str x := by cases h; rfl
theorem dp_tup (h : Dp K H v (.tuple ds)) : ∃ a xs, v = .ref a ∧ SqT K H a xs ∧ DpAll K H xs ds := by
  cases h with
  | tup h1 h2 => exact ⟨_, _, rfl, h1, h2⟩
theorem dp_lst (h : Dp K H v (.list ds)) : ∃ a xs, v = .ref a ∧ SqL K H a xs ∧ DpAll K H xs ds := by
  cases h with
  | lst h1 h2 => exact ⟨_, _, rfl, h1, h2⟩
theorem dpA_len : ∀ {vs : List V} {ds : List PyData}, DpAll K H vs ds → vs.length = ds.length
  | _, _, .nil => rfl
  | _, _, .cons _ t => congrArg Nat.succ (dpA_len t)
theorem dpA_get : ∀ {vs : List V} {ds : List PyData} {i : Nat} {d : PyData}, DpAll K H vs ds → ds[i]? = some d → ∃ v, vs[i]? = some v ∧ Dp K H v d
  | _, _, _, _, .nil, e => by simp at e
  | _, _, 0, d, .cons (v := v) h _, e => ⟨v, rfl, by simp at e; subst e; exact h⟩
  | _, _, i + 1, d, .cons _ t, e => by
    obtain ⟨v, h1, h2⟩ := dpA_get (i := i) t (by simpa using e)
    exact ⟨v, by simpa using h1, h2⟩
theorem dpA_getV : ∀ {vs : List V} {ds : List PyData} {i : Nat} {v : V}, DpAll K H vs ds → vs[i]? = some v → ∃ d, ds[i]? = some d ∧ Dp K H v d
  | _, _, _, _, .nil, e => by simp at e
  | _, _, 0, v, .cons (d := d) h _, e => ⟨d, rfl, by simp at e; subst e; exact h⟩
  | _, _, i + 1, v, .cons _ t, e => by
    obtain ⟨d, h1, h2⟩ := dpA_getV (i := i) t (by simpa using e)
    exact ⟨d, by simpa using h1, h2⟩
theorem dpA_app : ∀ {vs ws : List V} {ds es : List PyData}, DpAll K H vs ds → DpAll K H ws es → DpAll K H (vs ++ ws) (ds ++ es)
  | _, _, _, _, .nil, s => s
  | _, _, _, _, .cons h t, s => .cons h (dpA_app t s)
theorem dpA_take : ∀ {vs : List V} {ds : List PyData} (n : Nat), DpAll K H vs ds → DpAll K H (vs.take n) (ds.take n)
  | _, _, 0, _ => .nil
  | _, _, _ + 1, .nil => .nil
  | _, _, n + 1, .cons h t => .cons h (dpA_take n t)
theorem dpA_drop : ∀ {vs : List V} {ds : List PyData} (n : Nat), DpAll K H vs ds → DpAll K H (vs.drop n) (ds.drop n)
  | _, _, 0, h => h
  | _, _, _ + 1, .nil => .nil
  | _, _, n + 1, .cons _ t => dpA_drop n t
theorem dpA_rev : ∀ {vs : List V} {ds : List PyData}, DpAll K H vs ds → DpAll K H vs.reverse ds.reverse
  | _, _, .nil => .nil
  | _, _, .cons h t => by
    rw [List.reverse_cons, List.reverse_cons]
    exact dpA_app (dpA_rev t) (.cons h .nil)
theorem dpA_ints : ∀ {vs : List V} {ns : List Int}, DpAll K H vs (ns.map PyData.int) → vs = ns.map V.int
  | _, [], h => by cases h; rfl
  | _, n :: ns, h => by
    cases h with
    | cons h1 h2 =>
      rw [dp_int h1, dpA_ints h2]
      all_goals rfl
theorem dpA_bls : ∀ {vs : List V} {ns : List Bool}, DpAll K H vs (ns.map PyData.bool) → vs = ns.map V.bl
  | _, [], h => by cases h; rfl
  | _, n :: ns, h => by
    cases h with
    | cons h1 h2 =>
      rw [dp_bl h1, dpA_bls h2]
      all_goals rfl
theorem dpA_of_ints : ∀ (ns : List Int), DpAll K H (ns.map V.int) (ns.map PyData.int)
  | [] => .nil
  | n :: ns => .cons (.int n) (dpA_of_ints ns)
/-- one step: the data heap grows, the heap grows; what can change and is no data becomes none -/
structure Stp (D H D' H' : Hp) : Prop where
  d : Ex D D'
  h : Ex H H'
  s : Ex D' H'
  n : ∀ p u, H p = some u → (∀ xs, u ≠ .tup xs) → D p = none → D' p = none
theorem Stp.rfl' (s : Ex D H) : Stp D H D H := ⟨Ex.refl D, Ex.refl H, s, fun _ _ _ _ h => h⟩
theorem Stp.tr {D1 H1 D2 H2 : Hp} (a : Stp D H D1 H1) (b : Stp D1 H1 D2 H2) : Stp D H D2 H2 :=
  ⟨a.d.trans b.d, a.h.trans b.h, b.s, fun p u h1 h2 h3 => b.n p u (a.h p u h1) h2 (a.n p u h1 h2 h3)⟩
/-- a new object, data -/
theorem Stp.new {p : Addr} {o : HO} (s : Ex D H) (hp : H p = none) : Stp D H (upd D p o) (upd H p o) := by
  have hd : D p = none := Evl.fresh_back s hp
  refine ⟨Ex.new hd, Ex.new hp, fun a u e => ?_, fun a u h1 _ h2 => ?_⟩
  · by_cases q : a = p
    · subst q
      rw [upd_same] at e ⊢
      exact e
    · rw [upd_ne q] at e ⊢
      exact s a u e
  · by_cases q : a = p
    · subst q
      rw [hp] at h1
      cases h1
    · rw [upd_ne q]
      exact h2
/-- a new object that is no data -/
theorem Stp.tmp {p : Addr} {o : HO} (s : Ex D H) (hp : H p = none) : Stp D H D (upd H p o) :=
  ⟨Ex.refl D, Ex.new hp, s.trans (Ex.new hp), fun _ _ _ _ h => h⟩
/-- a tuple that stands there becomes data -/
theorem Stp.tell {p : Addr} {xs : List V} (s : Ex D H) (hp : H p = some (.tup xs)) : Stp D H (upd D p (.tup xs)) H := by
  refine ⟨fun a u e => ?_, Ex.refl H, fun a u e => ?_, fun a u h1 h2 h3 => ?_⟩
  · by_cases q : a = p
    · subst q
      have := s a u e
      rw [hp] at this
      rw [upd_same]
      exact this
    · rw [upd_ne q]
      exact e
  · by_cases q : a = p
    · subst q
      rw [upd_same] at e
      rw [hp]
      exact e
    · rw [upd_ne q] at e
      exact s a u e
  · by_cases q : a = p
    · subst q
      rw [hp] at h1
      cases h1
      exact absurd rfl (h2 xs)
    · rw [upd_ne q]
      exact h3
end
theorem sz100 {n : Nat} (h : n ≤ 100000) : n ≤ sizeLine := Nat.le_trans h (by decide)

/-! ### slots -/
/-- a thing of the def's own, that no data knows: a list; a dict (keys: tuples of ints); such a dict while it is walked; a dict with ints for keys; such a one walked -/
inductive OD where
  | lst (xs : List PyData)
  | dt (kvs : List (List Int × PyData))
  | ft (kvs : List (List Int × PyData))
  | dk (kvs : List (Int × List PyData))
  | fk (kvs : List (Int × List PyData))
/-- a slot: not told; data; a thing of the def's own -/
inductive Sd where
  | no
  | dat (d : PyData)
  | own (p : Addr) (o : OD)
abbrev Ro := List Sd
def Sd.adr : Sd → Option Addr
  | .own p _ => some p
  | _ => none
abbrev kI (k : List Int) : List Key := k.map Sum.inl
/-- a dict's pairs -/
inductive DicV (K : PySem.W.Frag) (D : Hp) : List (List Key × V) → List (List Int × PyData) → Prop
  | nil : DicV K D [] []
  | cons {k : List Int} {v : V} {d : PyData} {r : List (List Key × V)} {s : List (List Int × PyData)} : Dp K D v d → DicV K D r s → DicV K D ((kI k, v) :: r) ((k, d) :: s)
inductive DikV (K : PySem.W.Frag) (D : Hp) : List (Key × V) → List (Int × List PyData) → Prop
  | nil : DikV K D [] []
  | cons {k : Int} {l : Addr} {ws : List V} {ds : List PyData} {r : List (Key × V)} {s : List (Int × List PyData)} : D l = some (.lst ws) → DpAll K D ws ds → DikV K D r s → DikV K D ((.inl k, .ref l) :: r) ((k, ds) :: s)
theorem dicV_mono {K : PySem.W.Frag} {D D' : Hp} (e : Ex D D') : ∀ {r : List (List Key × V)} {s : List (List Int × PyData)}, DicV K D r s → DicV K D' r s
  | _, _, .nil => .nil
  | _, _, .cons h t => .cons (dpX e h) (dicV_mono e t)
theorem dikV_mono {K : PySem.W.Frag} {D D' : Hp} (e : Ex D D') : ∀ {r : List (Key × V)} {s : List (Int × List PyData)}, DikV K D r s → DikV K D' r s
  | _, _, .nil => .nil
  | _, _, .cons h a t => .cons (e _ _ h) (dpA e a) (dikV_mono e t)
inductive OdV (K : PySem.W.Frag) (D : Hp) : HO → OD → Prop
  | lst {vs : List V} {xs : List PyData} : DpAll K D vs xs → OdV K D (.lst vs) (.lst xs)
  | dt {r : List (List Key × V)} {s : List (List Int × PyData)} : DicV K D r s → OdV K D (.dT r) (.dt s)
  | ft {o : Obj} {r : List (List Key × V)} {s : List (List Int × PyData)} : DicV K D r s → OdV K D (.frz o (.dT r)) (.ft s)
  | dk {r : List (Key × V)} {s : List (Int × List PyData)} : DikV K D r s → OdV K D (.dK r) (.dk s)
  | fk {o : Obj} {r : List (Key × V)} {s : List (Int × List PyData)} : DikV K D r s → OdV K D (.frz o (.dK r)) (.fk s)
theorem OdV.mono {K : PySem.W.Frag} {D D' : Hp} {u : HO} {o : OD} (h : OdV K D u o) (e : Ex D D') : OdV K D' u o := by
  cases h with
  | lst h => exact .lst (dpA e h)
  | dt h => exact .dt (dicV_mono e h)
  | ft h => exact .ft (dicV_mono e h)
  | dk h => exact .dk (dikV_mono e h)
  | fk h => exact .fk (dikV_mono e h)
theorem OdV.ntup {K : PySem.W.Frag} {D : Hp} {u : HO} {o : OD} (h : OdV K D u o) : ∀ xs, u ≠ .tup xs := fun xs e => by
  subst e
  cases h
/-- H0: the heap ahead of the def's own things -/
structure Sl (K : PySem.W.Frag) (σ : L2.St) (D H0 H : Hp) (ρ : Ro) : Prop where
  len : σ.length = ρ.length
  at_ : ∀ (i : Nat) (d : PyData), ρ[i]? = some (.dat d) → ∃ v, σ[i]? = some (some v) ∧ Dp K D v d
  own : ∀ (i : Nat) (p : Addr) (o : OD), ρ[i]? = some (.own p o) → σ[i]? = some (some (.ref p)) ∧ D p = none ∧ H0 p = none ∧ ∃ u, H p = some u ∧ OdV K D u o
  sep : ∀ (i j : Nat) (a b : Sd) (p : Addr), i ≠ j → ρ[i]? = some a → ρ[j]? = some b → a.adr = some p → b.adr ≠ some p
section
variable {K : PySem.W.Frag} {σ : L2.St} {D D' H0 H H' : Hp} {ρ ρ' : Ro} {v : V} {d : PyData}
theorem Sl.mono (h : Sl K σ D H0 H ρ) (t : Stp D H D' H') : Sl K σ D' H0 H' ρ :=
  ⟨h.len, fun i d q => let ⟨v, a, b⟩ := h.at_ i d q; ⟨v, a, dpX t.d b⟩,
    fun i p o q => let ⟨a, b, c, u, e, f⟩ := h.own i p o q; ⟨a, t.n p u e f.ntup b, c, u, t.h p _ e, f.mono t.d⟩, h.sep⟩
/-- a slot changes -/
theorem Sl.put (h : Sl K σ D H0 H ρ) (i : Nat) (x : Option V) (z : Sd) (hd : ∀ d, z = .dat d → ∃ v, x = some v ∧ Dp K D v d) (ho : ∀ p o, z = .own p o → x = some (.ref p) ∧ D p = none ∧ H0 p = none ∧ ∃ u, H p = some u ∧ OdV K D u o)
    (hs : ∀ (j : Nat) (b : Sd) (p : Addr), i ≠ j → ρ[j]? = some b → z.adr = some p → b.adr ≠ some p) : Sl K (σ.set i x) D H0 H (ρ.set i z) := by
  have at1 : ∀ (j : Nat) (y : Sd), (ρ.set i z)[j]? = some y → (j = i ∧ y = z ∧ (σ.set i x)[j]? = some x) ∨ (j ≠ i ∧ ρ[j]? = some y ∧ (σ.set i x)[j]? = σ[j]?) := fun j y q => by
    by_cases hj : i = j
    · subst hj
      by_cases hl : i < ρ.length
      · rw [List.getElem?_set_self hl] at q
        exact .inl ⟨rfl, (Option.some.inj q).symm, by rw [List.getElem?_set_self (by rw [h.len]; exact hl)]⟩
      · rw [List.getElem?_eq_none (by rw [List.length_set]; omega)] at q
        cases q
    · rw [List.getElem?_set_ne hj] at q ⊢
      exact .inr ⟨Ne.symm hj, q, rfl⟩
  refine ⟨by rw [List.length_set, List.length_set]; exact h.len, fun j e q => ?_, fun j p e q => ?_, fun j k a b p hjk ha hb ma mb => ?_⟩
  · rcases at1 j _ q with ⟨rfl, q1, q2⟩ | ⟨_, q1, q2⟩
    · obtain ⟨v, e1, e2⟩ := hd e q1.symm
      rw [q2, e1]
      exact ⟨v, rfl, e2⟩
    · rw [q2]
      exact h.at_ j e q1
  · rcases at1 j _ q with ⟨rfl, q1, q2⟩ | ⟨_, q1, q2⟩
    · obtain ⟨e1, e2⟩ := ho p e q1.symm
      rw [q2, e1]
      exact ⟨rfl, e2⟩
    · rw [q2]
      exact h.own j p e q1
  · rcases at1 j _ ha with ⟨rfl, r1, r2⟩ | ⟨n1, r1, r2⟩
    · rcases at1 k _ hb with ⟨rfl, s1, s2⟩ | ⟨n2, s1, s2⟩
      · exact hjk rfl
      · subst r1
        exact hs k b p hjk s1 ma mb
    · rcases at1 k _ hb with ⟨rfl, s1, s2⟩ | ⟨n2, s1, s2⟩
      · subst s1
        exact hs j a p (Ne.symm hjk) r1 mb ma
      · exact h.sep j k a b p hjk r1 s1 ma mb
theorem Sl.set (h : Sl K σ D H0 H ρ) (i : Nat) (x : Dp K D v d) : Sl K (σ.set i (some v)) D H0 H (ρ.set i (.dat d)) :=
  h.put i (some v) (.dat d) (fun e q => by cases q; exact ⟨v, rfl, x⟩) (fun p e q => nomatch q) fun j b p _ _ m => nomatch m
/-- a slot whose data is not told -/
theorem Sl.unset (h : Sl K σ D H0 H ρ) (i : Nat) (x : Option V) : Sl K (σ.set i x) D H0 H (ρ.set i .no) :=
  h.put i x .no (fun e q => nomatch q) (fun p e q => nomatch q) fun j b p _ _ m => nomatch m
/-- a slot is told anew, and not written -/
theorem Sl.hold (h : Sl K σ D H0 H ρ) (i : Nat) (z : Sd) (hd : ∀ d, z = .dat d → ∃ v, σ[i]? = some (some v) ∧ Dp K D v d) (hn : ∀ p o, z ≠ .own p o) : Sl K σ D H0 H (ρ.set i z) := by
  by_cases hl : i < σ.length
  · have e : σ = σ.set i σ[i] := by rw [List.set_getElem_self]
    rw [e]
    refine h.put i σ[i] z (fun d q => ?_) (fun p o q => absurd q (hn p o)) fun j b p _ _ m => ?_
    · obtain ⟨v, h1, h2⟩ := hd d q
      rw [List.getElem?_eq_getElem hl] at h1
      exact ⟨v, Option.some.inj h1, h2⟩
    · cases z with
      | own p o => exact absurd rfl (hn p o)
      | _ => cases m
  · rw [List.set_eq_of_length_le (by rw [← h.len]; omega)]
    exact h
/-- the own names of a comprehension -/
def wipeR (ρ : Ro) : List Nat → Ro
  | [] => ρ
  | v :: vs => (wipeR ρ vs).set v .no
theorem Sl.wipe (h : Sl K σ D H0 H ρ) : ∀ vs : List Nat, Sl K (L2.wipe σ vs) D H0 H (wipeR ρ vs)
  | [] => h
  | i :: vs => (Sl.wipe h vs).unset i none
/-- a new thing of the def's own -/
theorem Sl.new (h : Sl K σ D H0 H ρ) (i : Nat) {p : Addr} {u : HO} {o : OD} (e : Ex H0 H) (s : Ex D H) (hp : H p = none) (q : OdV K D u o) : Sl K (σ.set i (some (.ref p))) D H0 (upd H p u) (ρ.set i (.own p o)) :=
  (h.mono (Stp.tmp s hp)).put i (some (.ref p)) (.own p o) (fun e q => nomatch q) (fun p' o' z => by cases z; exact ⟨rfl, Evl.fresh_back s hp, Evl.fresh_back e hp, u, upd_same, q⟩) fun j b p' hj hb z mb => by
    cases z
    cases b with
    | own p2 o2 =>
      cases mb
      obtain ⟨_, _, _, u2, h2, _⟩ := h.own j p o2 hb
      rw [hp] at h2
      cases h2
    | _ => cases mb
/-- a thing of the def's own has changed -/
theorem Sl.chg (h : Sl K σ D H0 H ρ) {i : Nat} {p : Addr} {o o' : OD} {u : HO} (hz : ρ[i]? = some (.own p o)) (q : OdV K D u o') : Sl K σ D H0 (upd H p u) (ρ.set i (.own p o')) := by
  have hl : i < ρ.length := (List.getElem?_eq_some_iff.mp hz).1
  obtain ⟨z1, z2, z3, _⟩ := h.own i p o hz
  have at1 : ∀ (j : Nat) (y : Sd), (ρ.set i (.own p o'))[j]? = some y → (j = i ∧ y = .own p o') ∨ (j ≠ i ∧ ρ[j]? = some y) := fun j y q => by
    by_cases hj : i = j
    · subst hj
      rw [List.getElem?_set_self hl] at q
      exact .inl ⟨rfl, (Option.some.inj q).symm⟩
    · rw [List.getElem?_set_ne hj] at q
      exact .inr ⟨Ne.symm hj, q⟩
  refine ⟨by rw [List.length_set]; exact h.len, fun j e q => ?_, fun j p2 e q2 => ?_, fun j k a b q' hjk ha hb ma mb => ?_⟩
  · rcases at1 j _ q with ⟨rfl, q1⟩ | ⟨_, q1⟩
    · cases q1
    · exact h.at_ j e q1
  · rcases at1 j _ q2 with ⟨rfl, q1⟩ | ⟨n, q1⟩
    · cases q1
      exact ⟨z1, z2, z3, u, upd_same, q⟩
    · obtain ⟨a1, a2, a3, u2, a4, a5⟩ := h.own j p2 e q1
      have np : p2 ≠ p := fun z => by
        subst z
        exact h.sep i j _ _ p2 (Ne.symm n) hz q1 rfl rfl
      exact ⟨a1, a2, a3, u2, by rw [upd_ne np]; exact a4, a5⟩
  · have m1 : ∀ (j : Nat) (y : Sd) (r : Addr), (ρ.set i (.own p o'))[j]? = some y → y.adr = some r → ∃ y', ρ[j]? = some y' ∧ y'.adr = some r := fun j y r q m => by
      rcases at1 j y q with ⟨rfl, q1⟩ | ⟨_, q1⟩
      · subst q1
        exact ⟨_, hz, m⟩
      · exact ⟨y, q1, m⟩
    obtain ⟨a', a1, a2⟩ := m1 j a q' ha ma
    obtain ⟨b', b1, b2⟩ := m1 k b q' hb mb
    exact h.sep j k a' b' q' hjk a1 b1 a2 b2
end

/-! ### what evaluates to what -/
def Ed (K : PySem.W.Frag) (te : TE) (ρ : Ro) (d : PyData) : Prop := ∀ (σ : L2.St) (D H0 H : Hp), Ex D H → Sl K σ D H0 H ρ → ∀ Q : VK, (∀ v D' H', Stp D H D' H' → Dp K D' v d → Q v H') → te σ H Q
def EdT (K : PySem.W.Frag) (tt : TT) (ρ : Ro) (b : Bool) : Prop := ∀ (σ : L2.St) (D H0 H : Hp), Ex D H → Sl K σ D H0 H ρ → ∀ Q : Bool → Hp → Prop, (∀ D' H', Stp D H D' H' → Q b H') → tt σ H Q
def EdA (K : PySem.W.Frag) (ta : TA) (ρ : Ro) (ds : List PyData) : Prop := ∀ (σ : L2.St) (D H0 H : Hp), Ex D H → Sl K σ D H0 H ρ → ∀ Q : List V → Hp → Prop, (∀ vs D' H', Stp D H D' H' → DpAll K D' vs ds → Q vs H') → ta σ H Q
def EdO (K : PySem.W.Frag) (to : TO) (ρ : Ro) (o : Option Int) : Prop := ∀ (σ : L2.St) (D H0 H : Hp), Ex D H → Sl K σ D H0 H ρ → ∀ Q : Option Int → Hp → Prop, (∀ D' H', Stp D H D' H' → Q o H') → to σ H Q
/-- operations on values -/
def Rd (K : PySem.W.Frag) (r : R2) (x y : PyData) (d : PyData) : Prop := ∀ (v u : V) (D H : Hp), Ex D H → Dp K D v x → Dp K D u y → ∀ Q : VK, (∀ z D' H', Stp D H D' H' → Dp K D' z d → Q z H') → r v u H Q
def Rd1 (K : PySem.W.Frag) (r : V → Hp → VK → Prop) (x : PyData) (d : PyData) : Prop := ∀ (v : V) (D H : Hp), Ex D H → Dp K D v x → ∀ Q : VK, (∀ z D' H', Stp D H D' H' → Dp K D' z d → Q z H') → r v H Q
def RdC (K : PySem.W.Frag) (r : List V → Hp → VK → Prop) (xs : List PyData) (d : PyData) : Prop := ∀ (vs : List V) (D H : Hp), Ex D H → DpAll K D vs xs → ∀ Q : VK, (∀ z D' H', Stp D H D' H' → Dp K D' z d → Q z H') → r vs H Q
section
variable {K : PySem.W.Frag} {ρ ρ' : Ro} {d x y z : PyData} {ds xs : List PyData} {ta tb tc te : TE} {t u : TT} {r : R2}
theorem ed_var {i : Nat} (h : ρ[i]? = some (.dat d)) : Ed K (tVar i) ρ d := fun σ D H0 H s sl Q q => by
  obtain ⟨v, h1, h2⟩ := sl.at_ i d h
  exact ⟨v, h1, q v D H (Stp.rfl' s) h2⟩
theorem ed_c {v : V} (h : ∀ D, Dp K D v d) : Ed K (tC v) ρ d := fun σ D H0 H s sl Q q => q v D H (Stp.rfl' s) (h D)
theorem ed_int {i : Int} : Ed K (tC (.int i)) ρ (.int i) := ed_c fun _ => .int i
theorem ed_bl {b : Bool} : Ed K (tC (.bl b)) ρ (.bool b) := ed_c fun _ => .bl b
theorem ed_str {s : Str} : Ed K (tC (.str s)) ρ (.str s) := ed_c fun _ => .str s
theorem Ed.to (h : Ed K te ρ d) (e : d = x) : Ed K te ρ x := e ▸ h
theorem ed_op (ha : Ed K ta ρ x) (hb : Ed K tb ρ y) (hr : Rd K r x y z) : Ed K (tOp r ta tb) ρ z := fun σ D H0 H s sl Q q =>
  ha σ D H0 H s sl _ fun v D1 H1 t1 p1 => hb σ D1 H0 H1 t1.s (sl.mono t1) _ fun w D2 H2 t2 p2 => hr v w D2 H2 t2.s (dpX t2.d p1) p2 Q fun o D3 H3 t3 p3 => q o D3 H3 ((t1.tr t2).tr t3) p3
theorem ed_un {r : V → Hp → VK → Prop} (ha : Ed K ta ρ x) (hr : Rd1 K r x z) : Ed K (tUn r ta) ρ z := fun σ D H0 H s sl Q q =>
  ha σ D H0 H s sl _ fun v D1 H1 t1 p1 => hr v D1 H1 t1.s p1 Q fun o D3 H3 t3 p3 => q o D3 H3 (t1.tr t3) p3
theorem ea_nil : EdA K tNil ρ [] := fun σ D H0 H s sl Q q => q [] D H (Stp.rfl' s) .nil
theorem ea_cons {t : TA} (h : Ed K te ρ d) (hr : EdA K t ρ ds) : EdA K (tCons te t) ρ (d :: ds) := fun σ D H0 H s sl Q q =>
  h σ D H0 H s sl _ fun v D1 H1 t1 p1 => hr σ D1 H0 H1 t1.s (sl.mono t1) _ fun vs D2 H2 t2 p2 => q (v :: vs) D2 H2 (t1.tr t2) (.cons (dpX t2.d p1) p2)
theorem ed_tup {t : TA} (h : EdA K t ρ ds) (hl : ds.length ≤ 100000) : Ed K (tTup t) ρ (.tuple ds) := fun σ D H0 H s sl Q q =>
  h σ D H0 H s sl _ fun vs D1 H1 t1 p1 => ⟨sz100 (by rw [dpA_len p1]; exact hl), fun p hp => q (.ref p) _ _ (t1.tr (Stp.new t1.s hp)) (.tup (SqT.of upd_same) (dpA (Ex.new (Evl.fresh_back t1.s hp)) p1))⟩
theorem ed_lst {t : TA} (h : EdA K t ρ ds) (hl : ds.length ≤ 100000) : Ed K (tLst t) ρ (.list ds) := fun σ D H0 H s sl Q q =>
  h σ D H0 H s sl _ fun vs D1 H1 t1 p1 => ⟨sz100 (by rw [dpA_len p1]; exact hl), fun p hp => q (.ref p) _ _ (t1.tr (Stp.new t1.s hp)) (.lst (SqL.of upd_same) (dpA (Ex.new (Evl.fresh_back t1.s hp)) p1))⟩
theorem ed_cb {r : List V → Hp → VK → Prop} {t : TA} (h : EdA K t ρ xs) (hr : RdC K r xs d) : Ed K (tCB r t) ρ d := fun σ D H0 H s sl Q q =>
  h σ D H0 H s sl _ fun vs D1 H1 t1 p1 => hr vs D1 H1 t1.s p1 Q fun o D3 H3 t3 p3 => q o D3 H3 (t1.tr t3) p3
theorem ed_if {b : Bool} (h : EdT K t ρ b) (h1 : b = true → Ed K ta ρ d) (h2 : b = false → Ed K tb ρ d) : Ed K (tIf t ta tb) ρ d := fun σ D H0 H s sl Q q =>
  h σ D H0 H s sl _ fun D1 H1 t1 => by
    cases b with
    | true =>
      show ta σ H1 Q
      exact h1 rfl σ D1 H0 H1 t1.s (sl.mono t1) Q fun v D2 H2 t2 p2 => q v D2 H2 (t1.tr t2) p2
    | false =>
      show tb σ H1 Q
      exact h2 rfl σ D1 H0 H1 t1.s (sl.mono t1) Q fun v D2 H2 t2 p2 => q v D2 H2 (t1.tr t2) p2
theorem ed_and {a b : Bool} (h1 : Ed K ta ρ (.bool a)) (h2 : a = true → Ed K tb ρ (.bool b)) : Ed K (tAndV ta tb) ρ (.bool (a && b)) := fun σ D H0 H s sl Q q =>
  h1 σ D H0 H s sl _ fun v D1 H1 t1 p1 => ⟨a, dp_bl p1, by
    cases a with
    | true =>
      show tb σ H1 Q
      exact h2 rfl σ D1 H0 H1 t1.s (sl.mono t1) Q fun v D2 H2 t2 p2 => q v D2 H2 (t1.tr t2) p2
    | false => exact q _ D1 H1 t1 (.bl false)⟩
theorem ed_or {a b : Bool} (h1 : Ed K ta ρ (.bool a)) (h2 : a = false → Ed K tb ρ (.bool b)) : Ed K (tOrV ta tb) ρ (.bool (a || b)) := fun σ D H0 H s sl Q q =>
  h1 σ D H0 H s sl _ fun v D1 H1 t1 p1 => ⟨a, dp_bl p1, by
    cases a with
    | false =>
      show tb σ H1 Q
      exact h2 rfl σ D1 H0 H1 t1.s (sl.mono t1) Q fun v D2 H2 t2 p2 => q v D2 H2 (t1.tr t2) p2
    | true => exact q _ D1 H1 t1 (.bl true)⟩
theorem ed_not {a : Bool} (h1 : Ed K ta ρ (.bool a)) : Ed K (tNotV ta) ρ (.bool (!a)) := fun σ D H0 H s sl Q q =>
  h1 σ D H0 H s sl _ fun v D1 H1 t1 p1 => ⟨a, dp_bl p1, q _ D1 H1 t1 (.bl _)⟩
theorem ed_chain {r' : R2} {w : PyData} {a b : Bool} (h1 : Ed K ta ρ x) (h2 : Ed K tb ρ y) (hr : Rd K r x y (.bool a)) (h3 : a = true → Ed K tc ρ w) (hr' : a = true → Rd K r' y w (.bool b)) : Ed K (tChain r r' ta tb tc) ρ (.bool (a && b)) := fun σ D H0 H s sl Q q =>
  h1 σ D H0 H s sl _ fun v D1 H1 t1 p1 => h2 σ D1 H0 H1 t1.s (sl.mono t1) _ fun w D2 H2 t2 p2 => hr v w D2 H2 t2.s (dpX t2.d p1) p2 _ fun o D3 H3 t3 p3 => ⟨a, dp_bl p3, by
    have t := (t1.tr t2).tr t3
    cases a with
    | true =>
      show tc σ H3 _
      exact h3 rfl σ D3 H0 H3 t.s (sl.mono t) _ fun w' D4 H4 t4 p4 => hr' rfl w w' D4 H4 t4.s (dpX (t3.d.trans t4.d) p2) p4 Q fun o D5 H5 t5 p5 => q o D5 H5 ((t.tr t4).tr t5) p5
    | false => exact q _ D3 H3 t (.bl false)⟩
theorem et_test {b : Bool} (h : Ed K te ρ (.bool b)) : EdT K (tTest te) ρ b := fun σ D H0 H s sl Q q => h σ D H0 H s sl _ fun v D1 H1 t1 p1 => ⟨b, dp_bl p1, q D1 H1 t1⟩
theorem et_val {b : Bool} (h : Ed K te ρ (.bool b)) : EdT K (tB te) ρ b := fun σ D H0 H s sl Q q => h σ D H0 H s sl _ fun v D1 H1 t1 p1 => ⟨b, dp_bl p1, q D1 H1 t1⟩
theorem et_and {a b : Bool} (h1 : EdT K t ρ a) (h2 : a = true → EdT K u ρ b) : EdT K (tAnd t u) ρ (a && b) := fun σ D H0 H s sl Q q => h1 σ D H0 H s sl _ fun D1 H1 t1 => by
  cases a with
  | true =>
    show u σ H1 Q
    exact h2 rfl σ D1 H0 H1 t1.s (sl.mono t1) Q fun D2 H2 t2 => q D2 H2 (t1.tr t2)
  | false => exact q D1 H1 t1
theorem et_or {a b : Bool} (h1 : EdT K t ρ a) (h2 : a = false → EdT K u ρ b) : EdT K (tOr t u) ρ (a || b) := fun σ D H0 H s sl Q q => h1 σ D H0 H s sl _ fun D1 H1 t1 => by
  cases a with
  | false =>
    show u σ H1 Q
    exact h2 rfl σ D1 H0 H1 t1.s (sl.mono t1) Q fun D2 H2 t2 => q D2 H2 (t1.tr t2)
  | true => exact q D1 H1 t1
theorem et_not {a : Bool} (h1 : EdT K t ρ a) : EdT K (tNot t) ρ (!a) := fun σ D H0 H s sl Q q => h1 σ D H0 H s sl _ fun D1 H1 t1 => q D1 H1 t1
theorem et_yes : EdT K tYes ρ true := fun σ D H0 H s sl Q q => q D H (Stp.rfl' s)
theorem EdT.to {a b : Bool} (h : EdT K t ρ a) (e : a = b) : EdT K t ρ b := e ▸ h
theorem eo_none : EdO K tNoPart ρ none := fun σ D H0 H s sl Q q => q D H (Stp.rfl' s)
theorem eo_some {i : Int} (h : Ed K te ρ (.int i)) : EdO K (tPart te) ρ (some i) := fun σ D H0 H s sl Q q => h σ D H0 H s sl _ fun v D1 H1 t1 p1 => ⟨i, dp_int p1, q D1 H1 t1⟩

/-! ### operations -/
theorem rd_val {v : V} {i j : PyData} {a b : V} (hx : ∀ D u, Dp K D u i → u = a) (hy : ∀ D u, Dp K D u j → u = b) (h : ∀ D, Dp K D v d) (hr : ∀ (H : Hp) (Q : VK), Q v H → r a b H Q) : Rd K r i j d := fun v1 v2 D H s p1 p2 Q q => by
  rw [hx D v1 p1, hy D v2 p2]
  exact hr H Q (q v D H (Stp.rfl' s) (h D))
theorem rd_I0 {g : Int → Int → V} {i j : Int} (h : ∀ D, Dp K D (g i j) d) : Rd K (rI0 g) (.int i) (.int j) d :=
  rd_val (fun _ _ p => dp_int p) (fun _ _ p => dp_int p) h fun H Q q => ⟨i, j, rfl, rfl, q⟩
theorem rd_I {C : Int → Int → Prop} {g : Int → Int → V} {i j : Int} (hc : C i j) (h : ∀ D, Dp K D (g i j) d) : Rd K (rI C g) (.int i) (.int j) d :=
  rd_val (fun _ _ p => dp_int p) (fun _ _ p => dp_int p) h fun H Q q => ⟨i, j, rfl, rfl, hc, q⟩
theorem rd_eqI {i j : Int} : Rd K rEq (.int i) (.int j) (.bool (decide (i = j))) :=
  rd_val (v := .bl (decide (V.int i = V.int j))) (fun _ _ p => dp_int p) (fun _ _ p => dp_int p) (fun D => by
    have e : decide (V.int i = V.int j) = decide (i = j) := by
      by_cases h : i = j
      · simp [h]
      · simp [h]
    rw [e]
    exact .bl _) fun H Q q => ⟨rfl, q⟩
theorem rd_neI {i j : Int} : Rd K rNe (.int i) (.int j) (.bool (!decide (i = j))) :=
  rd_val (v := .bl (!decide (V.int i = V.int j))) (fun _ _ p => dp_int p) (fun _ _ p => dp_int p) (fun D => by
    have e : decide (V.int i = V.int j) = decide (i = j) := by
      by_cases h : i = j
      · simp [h]
      · simp [h]
    rw [e]
    exact .bl _) fun H Q q => ⟨rfl, q⟩
theorem rd_eqS {i j : Str} : Rd K rEq (.str i) (.str j) (.bool (decide (i = j))) :=
  rd_val (v := .bl (decide (V.str i = V.str j))) (fun _ _ p => dp_str p) (fun _ _ p => dp_str p) (fun D => by
    have e : decide (V.str i = V.str j) = decide (i = j) := by
      by_cases h : i = j
      · simp [h]
      · simp [h]
    rw [e]
    exact .bl _) fun H Q q => ⟨rfl, q⟩
/-- == of data -/
theorem rd_eqD (h1 : SeqAt.shaped x = true) (h2 : SeqAt.shaped y = true) : Rd K (rEqD K) x y (.bool (PyData.eqv x y)) := fun v u D H s p1 p2 Q q =>
  ⟨x, y, dpX s p1, dpX s p2, h1, h2, q _ D H (Stp.rfl' s) (.bl _)⟩
theorem rd_neD (h1 : SeqAt.shaped x = true) (h2 : SeqAt.shaped y = true) : Rd K (rNeD K) x y (.bool (!PyData.eqv x y)) := fun v u D H s p1 p2 Q q =>
  ⟨x, y, dpX s p1, dpX s p2, h1, h2, q _ D H (Stp.rfl' s) (.bl _)⟩
/-- t + u of tuples -/
theorem rd_catT (hz : xs.length + ds.length ≤ 100000) : Rd K (rCatA K) (.tuple xs) (.tuple ds) (.tuple (xs ++ ds)) := fun v u D H s p1 p2 Q q => by
  obtain ⟨a, vs, rfl, h1, h2⟩ := dp_tup p1
  obtain ⟨b, ws, rfl, h3, h4⟩ := dp_tup p2
  have e1 := dpA_len h2
  have e2 := dpA_len h4
  refine ⟨a, b, vs, ws, rfl, rfl, Evl.ex_t s h1, Evl.ex_t s h3, sz100 (by omega), fun e => ?_, fun _ e => ?_, fun _ _ p hp => ?_⟩
  · subst e
    cases h2
    exact q _ D H (Stp.rfl' s) p2
  · subst e
    cases h4
    rw [List.append_nil] at q
    exact q _ D H (Stp.rfl' s) p1
  · exact q (.ref p) _ _ (Stp.new s hp) (.tup (SqT.of upd_same) (dpA (Ex.new (Evl.fresh_back s hp)) (dpA_app h2 h4)))
end
end K19

/-! TEXT K19D2 -/
set_option Elab.async false
set_option linter.all false
set_option maxRecDepth 100000
set_option maxHeartbeats 2000000
set_option autoImplicit false
/-! THE DATA LAYER, 2: targets, walks, comprehensions, statements, loops, promises. -/
namespace K19
open PySem PySem.Spec PyProof.Rows L2
open Evl (Ex)
section
variable {K : PySem.W.Frag} {ρ ρ' ρ1 : Ro} {d x y z : PyData} {ds xs : List PyData} {ta tb tc te : TE} {t u : TT} {r : R2}

/-! ### places and slices -/
def cutD (ds : List PyData) (lo hi : Option Int) : List PyData := (ds.drop (HT.sIx ds.length 0 lo)).take (HT.sIx ds.length ds.length hi - HT.sIx ds.length 0 lo)
theorem dpA_cut {H : Hp} {vs : List V} (h : DpAll K H vs ds) (lo hi : Option Int) : DpAll K H (cutV vs lo hi) (cutD ds lo hi) := by
  unfold cutV cutD
  rw [dpA_len h]
  exact dpA_take _ (dpA_drop _ h)
theorem dpA_at {H : Hp} {vs : List V} {i : Int} (h : DpAll K H vs ds) (e : atI ds i = some d) : ∃ v, atI vs i = some v ∧ Dp K H v d := by
  unfold atI at e ⊢
  rw [dpA_len h]
  cases q : ixN ds.length i with
  | none => rw [q] at e; cases e
  | some j =>
    rw [q] at e
    exact dpA_get h e
theorem rd_ixT {i : Int} (e : atI ds i = some d) : Rd K (rIxT K) (.tuple ds) (.int i) d := fun v u D H s p1 p2 Q q => by
  obtain ⟨a, vs, rfl, h1, h2⟩ := dp_tup p1
  obtain ⟨w, h3, h4⟩ := dpA_at h2 e
  exact ⟨a, vs, i, w, rfl, dp_int p2, Evl.ex_t s h1, h3, q _ D H (Stp.rfl' s) h4⟩
theorem rd_ixL {i : Int} (e : atI ds i = some d) : Rd K (rIxL K) (.list ds) (.int i) d := fun v u D H s p1 p2 Q q => by
  obtain ⟨a, vs, rfl, h1, h2⟩ := dp_lst p1
  obtain ⟨w, h3, h4⟩ := dpA_at h2 e
  exact ⟨a, vs, i, w, rfl, dp_int p2, Evl.ex_l s h1, h3, q _ D H (Stp.rfl' s) h4⟩
theorem ed_slT {tl th : TO} {lo hi : Option Int} (h : Ed K te ρ (.tuple ds)) (h1 : EdO K tl ρ lo) (h2 : EdO K th ρ hi) : Ed K (tSl (rSlA K) te tl th) ρ (.tuple (cutD ds lo hi)) := fun σ D H0 H s sl Q q =>
  h σ D H0 H s sl _ fun v D1 H1 t1 p1 => h1 σ D1 H0 H1 t1.s (sl.mono t1) _ fun D2 H2 t2 => h2 σ D2 H0 H2 t2.s (sl.mono (t1.tr t2)) _ fun D3 H3 t3 => by
    have t := (t1.tr t2).tr t3
    have p3 := dpX (t2.d.trans t3.d) p1
    obtain ⟨a, vs, rfl, h1, h2⟩ := dp_tup p3
    refine ⟨a, vs, rfl, Evl.ex_t t3.s h1, fun e => ?_, fun _ p hp => ?_⟩
    · refine q _ D3 H3 t ?_
      have e2 : cutD ds lo hi = ds := by
        unfold cutD
        rw [← dpA_len h2, e.1, e.2, dpA_len h2]
        simp
      rw [e2]
      exact p3
    · exact q (.ref p) _ _ (t.tr (Stp.new t3.s hp)) (.tup (SqT.of upd_same) (dpA (Ex.new (Evl.fresh_back t3.s hp)) (dpA_cut h2 lo hi)))
theorem ed_slL {tl th : TO} {lo hi : Option Int} (h : Ed K te ρ (.list ds)) (h1 : EdO K tl ρ lo) (h2 : EdO K th ρ hi) : Ed K (tSl (rSlL K) te tl th) ρ (.list (cutD ds lo hi)) := fun σ D H0 H s sl Q q =>
  h σ D H0 H s sl _ fun v D1 H1 t1 p1 => h1 σ D1 H0 H1 t1.s (sl.mono t1) _ fun D2 H2 t2 => h2 σ D2 H0 H2 t2.s (sl.mono (t1.tr t2)) _ fun D3 H3 t3 => by
    have t := (t1.tr t2).tr t3
    have p3 := dpX (t2.d.trans t3.d) p1
    obtain ⟨a, vs, rfl, h1, h2⟩ := dp_lst p3
    exact ⟨a, vs, rfl, Evl.ex_l t3.s h1, fun p hp => q (.ref p) _ _ (t.tr (Stp.new t3.s hp)) (.lst (SqL.of upd_same) (dpA (Ex.new (Evl.fresh_back t3.s hp)) (dpA_cut h2 lo hi)))⟩

/-! ### built-in calls -/
theorem rc_val {r : List V → Hp → VK → Prop} {v : V} (h : ∀ D, Dp K D v d) (hr : ∀ (vs : List V) (D H : Hp), Ex D H → DpAll K D vs xs → ∀ Q : VK, Q v H → r vs H Q) : RdC K r xs d := fun vs D H s p Q q =>
  hr vs D H s p Q (q v D H (Stp.rfl' s) (h D))
theorem dpA1 {H : Hp} {vs : List V} (h : DpAll K H vs [x]) : ∃ v, vs = [v] ∧ Dp K H v x := by
  cases h with
  | cons h t => cases t; exact ⟨_, rfl, h⟩
theorem dpA2 {H : Hp} {vs : List V} (h : DpAll K H vs [x, y]) : ∃ v u, vs = [v, u] ∧ Dp K H v x ∧ Dp K H u y := by
  cases h with
  | cons h t =>
    obtain ⟨u, rfl, k⟩ := dpA1 t
    exact ⟨_, _, rfl, h, k⟩
theorem rc_lenT : RdC K (fun xs H Q => ∃ p ys, xs = [.ref p] ∧ (SqL K H p ys ∨ SqT K H p ys) ∧ Q (.int ys.length) H) [.tuple ds] (.int ds.length) := fun vs D H s p Q q => by
  obtain ⟨v, rfl, pv⟩ := dpA1 p
  obtain ⟨a, ws, rfl, h1, h2⟩ := dp_tup pv
  exact ⟨a, ws, rfl, .inr (Evl.ex_t s h1), q _ D H (Stp.rfl' s) (by rw [dpA_len h2]; exact .int _)⟩
theorem rc_lenL : RdC K (fun xs H Q => ∃ p ys, xs = [.ref p] ∧ (SqL K H p ys ∨ SqT K H p ys) ∧ Q (.int ys.length) H) [.list ds] (.int ds.length) := fun vs D H s p Q q => by
  obtain ⟨v, rfl, pv⟩ := dpA1 p
  obtain ⟨a, ws, rfl, h1, h2⟩ := dp_lst pv
  exact ⟨a, ws, rfl, .inl (Evl.ex_l s h1), q _ D H (Stp.rfl' s) (by rw [dpA_len h2]; exact .int _)⟩
theorem rc_tupL : RdC K (fun xs H Q => ∃ p ys, xs = [.ref p] ∧ ((SqL K H p ys ∧ ∀ l, H l = none → Q (.ref l) (upd H l (.tup ys))) ∨ (SqT K H p ys ∧ Q (.ref p) H))) [.list ds] (.tuple ds) := fun vs D H s p Q q => by
  obtain ⟨v, rfl, pv⟩ := dpA1 p
  obtain ⟨a, ws, rfl, h1, h2⟩ := dp_lst pv
  exact ⟨a, ws, rfl, .inl ⟨Evl.ex_l s h1, fun l hl => q (.ref l) _ _ (Stp.new s hl) (.tup (SqT.of upd_same) (dpA (Ex.new (Evl.fresh_back s hl)) h2))⟩⟩
theorem rc_lstL : RdC K (fun xs H Q => ∃ p ys, xs = [.ref p] ∧ (SqL K H p ys ∨ SqT K H p ys) ∧ ∀ l, H l = none → Q (.ref l) (upd H l (.lst ys))) [.list ds] (.list ds) := fun vs D H s p Q q => by
  obtain ⟨v, rfl, pv⟩ := dpA1 p
  obtain ⟨a, ws, rfl, h1, h2⟩ := dp_lst pv
  exact ⟨a, ws, rfl, .inl (Evl.ex_l s h1), fun l hl => q (.ref l) _ _ (Stp.new s hl) (.lst (SqL.of upd_same) (dpA (Ex.new (Evl.fresh_back s hl)) h2))⟩
theorem rc_max2 {i j : Int} : RdC K (fun xs H Q => ∃ i j, xs = [.int i, .int j] ∧ Q (.int (if j > i then j else i)) H) [.int i, .int j] (.int (if j > i then j else i)) := fun vs D H s p Q q => by
  obtain ⟨v, u, rfl, p1, p2⟩ := dpA2 p
  rw [dp_int p1, dp_int p2]
  exact ⟨i, j, rfl, q _ D H (Stp.rfl' s) (.int _)⟩
theorem rc_intI {i : Int} : RdC K (fun xs H Q => (∃ i, xs = [.int i] ∧ Q (.int i) H) ∨ ∃ k, xs = [.bl k] ∧ Q (.int (if k then 1 else 0)) H) [.int i] (.int i) := fun vs D H s p Q q => by
  obtain ⟨v, rfl, p1⟩ := dpA1 p
  rw [dp_int p1]
  exact .inl ⟨i, rfl, q _ D H (Stp.rfl' s) (.int _)⟩
theorem rc_all {bs : List Bool} : RdC K (rAll K) [.list (bs.map PyData.bool)] (.bool (bs.all id)) := fun vs D H s p Q q => by
  obtain ⟨v, rfl, p1⟩ := dpA1 p
  obtain ⟨a, ws, rfl, h1, h2⟩ := dp_lst p1
  have e := dpA_bls h2
  subst e
  exact ⟨a, bs, rfl, Evl.ex_l s h1, q _ D H (Stp.rfl' s) (.bl _)⟩

/-! ### targets -/
/-- a store of d: the slots that may change are is -/
def Bd (K : PySem.W.Frag) (g : TG) (d : PyData) (ρ ρ' : Ro) (is : List Nat) : Prop := ∀ (v : V) (σ : L2.St) (D H0 H : Hp), Ex D H → Sl K σ D H0 H ρ → Dp K D v d → ∀ Q : L2.St → Hp → Prop,
  (∀ σ', Sl K σ' D H0 H ρ' → σ'.length = σ.length → (∀ j, j ∉ is → σ'[j]? = σ[j]?) → Q σ' H) → g v σ H Q
def BdS (K : PySem.W.Frag) (g : TGs) (ds : List PyData) (ρ ρ' : Ro) (is : List Nat) : Prop := ∀ (vs : List V) (σ : L2.St) (D H0 H : Hp), Ex D H → Sl K σ D H0 H ρ → DpAll K D vs ds → ∀ Q : L2.St → Hp → Prop,
  (∀ σ', Sl K σ' D H0 H ρ' → σ'.length = σ.length → (∀ j, j ∉ is → σ'[j]? = σ[j]?) → Q σ' H) → g vs σ H Q
theorem bd_name {i : Nat} : Bd K (gName i) d ρ (ρ.set i (.dat d)) [i] := fun v σ D H0 H s sl p Q q =>
  q _ (sl.set i p) List.length_set fun j hj => List.getElem?_set_ne fun e => hj (by rw [e]; exact List.mem_cons_self)
theorem bds_nil : BdS K gNil [] ρ ρ [] := fun vs σ D H0 H s sl p Q q => by
  cases p
  exact ⟨rfl, q σ sl rfl fun _ _ => rfl⟩
theorem bds_cons {i : Nat} {g : TGs} {is : List Nat} (h : BdS K g ds (ρ.set i (.dat d)) ρ' is) : BdS K (gCons (gName i) g) (d :: ds) ρ ρ' (i :: is) := fun vs σ D H0 H s sl p Q q => by
  cases p with
  | cons p1 p2 =>
    refine ⟨_, _, rfl, h _ _ D H0 H s (sl.set i p1) p2 Q fun σ' h1 h2 h3 => q σ' h1 (by rw [h2, List.length_set]) fun j hj => ?_⟩
    rw [h3 j (fun e => hj (List.mem_cons_of_mem _ e))]
    exact List.getElem?_set_ne fun e => hj (by rw [e]; exact List.mem_cons_self)
theorem bd_tup {n : Nat} {g : TGs} {is : List Nat} (hn : ds.length = n) (h : BdS K g ds ρ ρ' is) : Bd K (gTup K n g) (.tuple ds) ρ ρ' is := fun v σ D H0 H s sl p Q q => by
  obtain ⟨a, vs, rfl, h1, h2⟩ := dp_tup p
  exact ⟨a, vs, rfl, Evl.ex_t s h1, by rw [dpA_len h2, hn], h vs σ D H0 H s sl h2 Q q⟩

/-! ### what is walked -/
def Wk (K : PySem.W.Frag) (J : It) (D : Hp) (xs : List PyData) : Prop := ∀ D1 H, Ex D D1 → Ex D1 H → (∀ (i : Nat) (x : PyData), xs[i]? = some x → J.go i H ∧ ∀ v H', J.yld i H v H' → ∃ D', Stp D1 H D' H' ∧ Dp K D' v x) ∧ J.stop xs.length H
def EdI (K : PySem.W.Frag) (wi : TI) (ρ : Ro) (xs : List PyData) : Prop := ∀ (σ : L2.St) (D H0 H : Hp), Ex D H → Sl K σ D H0 H ρ → ∀ R : It → Hp → Prop, (∀ J D' H', Stp D H D' H' → Wk K J D' xs → R J H') → wi σ H R
theorem ei_tup (h : Ed K te ρ (.tuple xs)) : EdI K (iTup K te) ρ xs := fun σ D H0 H s sl R q =>
  h σ D H0 H s sl _ fun v D1 H1 t1 p1 => by
    obtain ⟨a, vs, rfl, h1, h2⟩ := dp_tup p1
    refine ⟨a, rfl, ⟨vs, Evl.ex_t t1.s h1⟩, q _ D1 H1 t1 fun D2 H2 e s2 => ⟨fun i x hx => ?_, ?_⟩⟩
    · obtain ⟨v, hv, pv⟩ := dpA_get h2 hx
      refine ⟨⟨vs, v, Evl.ex_t (e.trans s2) h1, hv⟩, fun w H' hy => ?_⟩
      obtain ⟨rfl, hw⟩ := hy
      have ew := hw vs (Evl.ex_t (e.trans s2) h1)
      rw [hv] at ew
      cases ew
      exact ⟨D2, Stp.rfl' s2, dpX e pv⟩
    · exact ⟨vs, Evl.ex_t (e.trans s2) h1, by rw [dpA_len h2]; exact Nat.le_refl _⟩
theorem ei_lst (h : Ed K te ρ (.list xs)) : EdI K (iList K te) ρ xs := fun σ D H0 H s sl R q =>
  h σ D H0 H s sl _ fun v D1 H1 t1 p1 => by
    obtain ⟨a, vs, rfl, h1, h2⟩ := dp_lst p1
    refine ⟨a, rfl, ⟨vs, Evl.ex_l t1.s h1⟩, q _ D1 H1 t1 fun D2 H2 e s2 => ⟨fun i x hx => ?_, ?_⟩⟩
    · obtain ⟨v, hv, pv⟩ := dpA_get h2 hx
      refine ⟨⟨vs, v, Evl.ex_l (e.trans s2) h1, hv⟩, fun w H' hy => ?_⟩
      obtain ⟨rfl, hw⟩ := hy
      have ew := hw vs (Evl.ex_l (e.trans s2) h1)
      rw [hv] at ew
      cases ew
      exact ⟨D2, Stp.rfl' s2, dpX e pv⟩
    · exact ⟨vs, Evl.ex_l (e.trans s2) h1, by rw [dpA_len h2]; exact Nat.le_refl _⟩
/-- lo, lo + 1, .. -/
def rgD (lo : Int) (n : Nat) : List PyData := (List.range n).map fun i => PyData.int (lo + (i : Nat))
theorem rgD_len (lo : Int) (n : Nat) : (rgD lo n).length = n := by simp [rgD]
theorem wk_range {D : Hp} {lo : Int} {n : Nat} : Wk K (Itr lo n) D (rgD lo n) := fun D1 H e s => ⟨fun i x hx => by
  have hi : i < n := by
    have := (List.getElem?_eq_some_iff.mp hx).1
    rwa [rgD_len] at this
  have ex : x = .int (lo + (i : Nat)) := by
    unfold rgD at hx
    rw [List.getElem?_map, List.getElem?_range hi] at hx
    exact (Option.some.inj hx).symm
  refine ⟨hi, fun v H' hy => ?_⟩
  obtain ⟨rfl, rfl⟩ := hy
  rw [ex]
  exact ⟨D1, Stp.rfl' s, .int _⟩, by rw [rgD_len]; exact Nat.le_refl n⟩
theorem ei_range1 {ta : TA} {n : Int} (h : EdA K ta ρ [.int n]) (h1 : -(2 ^ 62) ≤ n) (h2 : n < 2 ^ 62) : EdI K (iRng1 ta) ρ (rgD 0 n.toNat) := fun σ D H0 H s sl R q =>
  h σ D H0 H s sl _ fun vs D1 H1 t1 p1 => by
    obtain ⟨v, rfl, pv⟩ := dpA1 p1
    rw [dp_int pv]
    exact ⟨n, rfl, h1, h2, q _ D1 H1 t1 wk_range⟩
theorem ei_range2 {ta : TA} {m n : Int} (h : EdA K ta ρ [.int m, .int n]) (hb : -(2 ^ 62) ≤ m ∧ m < 2 ^ 62 ∧ -(2 ^ 62) ≤ n ∧ n < 2 ^ 62) : EdI K (iRng2 ta) ρ (rgD m (n - m).toNat) := fun σ D H0 H s sl R q =>
  h σ D H0 H s sl _ fun vs D1 H1 t1 p1 => by
    obtain ⟨v, u, rfl, pv, pu⟩ := dpA2 p1
    rw [dp_int pv, dp_int pu]
    exact ⟨m, n, rfl, hb, q _ D1 H1 t1 wk_range⟩
/-- zip of two tuples -/
def zipD (xs ys : List PyData) : List PyData := List.zipWith (fun x y => PyData.tuple [x, y]) xs ys
theorem zipD_at {xs ys : List PyData} {i : Nat} {p : PyData} (h : (zipD xs ys)[i]? = some p) : ∃ x y, xs[i]? = some x ∧ ys[i]? = some y ∧ p = .tuple [x, y] := by
  unfold zipD at h
  rw [List.getElem?_zipWith] at h
  cases hx : xs[i]? with
  | none => rw [hx] at h; cases h
  | some x =>
    cases hy : ys[i]? with
    | none => rw [hx, hy] at h; cases h
    | some y =>
      rw [hx, hy] at h
      exact ⟨x, y, rfl, rfl, (Option.some.inj h).symm⟩
theorem stp_pair {D H : Hp} {T : Addr} {v u : V} {x y : PyData} (s : Ex D H) (hT : H T = none) (p : Dp K D v x) (q : Dp K D u y) : ∃ D', Stp D H D' (upd H T (.tup [v, u])) ∧ Dp K D' (.ref T) (.tuple [x, y]) :=
  ⟨_, Stp.new s hT, .tup (SqT.of upd_same) (dpA (Ex.new (Evl.fresh_back s hT)) (.cons p (.cons q .nil)))⟩
theorem ei_zipT {ta : TA} {ys : List PyData} (h : EdA K ta ρ [.tuple xs, .tuple ys]) : EdI K (RZ.iZipA K ta) ρ (zipD xs ys) := fun σ D H0 H s sl R q =>
  h σ D H0 H s sl _ fun vs D1 H1 t1 p1 => by
    obtain ⟨v, u, rfl, pv, pu⟩ := dpA2 p1
    obtain ⟨a, vs, rfl, h1, h2⟩ := dp_tup pv
    obtain ⟨b, us, rfl, h3, h4⟩ := dp_tup pu
    refine ⟨a, b, vs, us, rfl, .inr ⟨Evl.ex_t t1.s h1, Evl.ex_t t1.s h3, q _ D1 H1 t1 fun D2 H2 e s2 => ⟨fun i p hp => ?_, ?_⟩⟩⟩
    · obtain ⟨x, y, hx, hy, rfl⟩ := zipD_at hp
      obtain ⟨v, hv, pv⟩ := dpA_get h2 hx
      obtain ⟨u, hu, pu⟩ := dpA_get h4 hy
      refine ⟨⟨vs, us, v, u, Evl.ex_t (e.trans s2) h1, Evl.ex_t (e.trans s2) h3, hv, hu⟩, fun w H' hy => ?_⟩
      obtain ⟨T, x', y', rfl, hT, rfl, e1, e2⟩ := hy
      have f1 := e1 vs (Evl.ex_t (e.trans s2) h1)
      have f2 := e2 us (Evl.ex_t (e.trans s2) h3)
      rw [hv] at f1
      rw [hu] at f2
      cases f1
      cases f2
      exact stp_pair s2 hT (dpX e pv) (dpX e pu)
    · refine ⟨vs, us, Evl.ex_t (e.trans s2) h1, Evl.ex_t (e.trans s2) h3, ?_⟩
      have l : (zipD xs ys).length = min xs.length ys.length := by unfold zipD; simp
      rw [l, dpA_len h2, dpA_len h4]
      omega
/-- enumerate -/
def enD (xs : List PyData) : List PyData := xs.mapIdx fun i x => PyData.tuple [.int (i : Nat), x]
theorem enD_at {xs : List PyData} {i : Nat} {p : PyData} (h : (enD xs)[i]? = some p) : ∃ x, xs[i]? = some x ∧ p = .tuple [.int (i : Nat), x] := by
  unfold enD at h
  rw [List.getElem?_mapIdx] at h
  cases hx : xs[i]? with
  | none => rw [hx] at h; cases h
  | some x =>
    rw [hx] at h
    exact ⟨x, rfl, (Option.some.inj h).symm⟩
theorem enD_len (xs : List PyData) : (enD xs).length = xs.length := by simp [enD]
theorem ei_enumL {ta : TA} (h : EdA K ta ρ [.list xs]) : EdI K (iEnum K ta) ρ (enD xs) := fun σ D H0 H s sl R q =>
  h σ D H0 H s sl _ fun vs D1 H1 t1 p1 => by
    obtain ⟨v, rfl, pv⟩ := dpA1 p1
    obtain ⟨a, vs, rfl, h1, h2⟩ := dp_lst pv
    refine ⟨a, vs, rfl, Evl.ex_l t1.s h1, q _ D1 H1 t1 fun D2 H2 e s2 => ⟨fun i p hp => ?_, ?_⟩⟩
    · obtain ⟨x, hx, rfl⟩ := enD_at hp
      obtain ⟨v, hv, pv⟩ := dpA_get h2 hx
      refine ⟨⟨vs, v, Evl.ex_l (e.trans s2) h1, hv⟩, fun w H' hy => ?_⟩
      obtain ⟨T, x', rfl, hT, rfl, e1⟩ := hy
      have f1 := e1 vs (Evl.ex_l (e.trans s2) h1)
      rw [hv] at f1
      cases f1
      exact stp_pair s2 hT (.int _) (dpX e pv)
    · exact ⟨vs, Evl.ex_l (e.trans s2) h1, by rw [enD_len, dpA_len h2]; exact Nat.le_refl _⟩

/-! ### comprehensions -/
theorem wipe_in {σ σ' : L2.St} : ∀ {vs : List Nat}, σ'.length = σ.length → (∀ j, j ∉ vs → σ'[j]? = σ[j]?) → L2.wipe σ' vs = L2.wipe σ vs := fun {vs} hl h => by
  apply List.ext_getElem?
  intro i
  by_cases hi : i ∈ vs
  · have a : ∀ τ : L2.St, i < τ.length → (L2.wipe τ vs)[i]? = some none := fun τ hτ => by
      have hw : i < (L2.wipe τ vs).length := by rw [wipe_length]; exact hτ
      rw [List.getElem?_eq_getElem hw]
      cases q : (L2.wipe τ vs)[i] with
      | none => rfl
      | some v =>
        have z : (L2.wipe τ vs)[i]? = some (some v) := by rw [List.getElem?_eq_getElem hw, q]
        exact absurd hi (wipe_some z).2
    by_cases hlt : i < σ.length
    · rw [a σ hlt, a σ' (by rw [hl]; exact hlt)]
    · rw [List.getElem?_eq_none (by rw [wipe_length]; omega), List.getElem?_eq_none (by rw [wipe_length]; omega)]
  · rw [wipe_out hi, wipe_out hi, h i hi]
/-- the turns of a comprehension so far -/
def keep (p : PyData → Bool) (f : PyData → PyData) (xs : List PyData) : List PyData := (xs.filter p).map f
theorem keep_take {p : PyData → Bool} {f : PyData → PyData} {i : Nat} {x : PyData} (h : xs[i]? = some x) : keep p f (xs.take (i + 1)) = if p x = true then keep p f (xs.take i) ++ [f x] else keep p f (xs.take i) := by
  have e : xs.take (i + 1) = xs.take i ++ [x] := by
    rw [List.take_add_one, h]
    rfl
  unfold keep
  rw [e, List.filter_append, List.map_append]
  by_cases hp : p x = true
  · rw [if_pos hp, List.filter_cons, if_pos hp]
    all_goals rfl
  · rw [if_neg hp, List.filter_cons, if_neg hp]
    simp
theorem keep_len (p : PyData → Bool) (f : PyData → PyData) (xs : List PyData) : (keep p f xs).length ≤ xs.length := by
  unfold keep
  rw [List.length_map]
  exact List.length_filter_le _ _
theorem ed_lc {wi : TI} {g : TG} {tt : TT} {vs : List Nat} (p : PyData → Bool) (f : PyData → PyData) (hw : EdI K wi ρ xs) (hl : xs.length ≤ 100000)
    (hs : ∀ (i : Nat) (x : PyData), xs[i]? = some x → ∃ ρ' is, Bd K g x (wipeR ρ vs) ρ' is ∧ (∀ j ∈ is, j ∈ vs) ∧ EdT K tt ρ' (p x) ∧ (p x = true → Ed K te ρ' (f x))) : Ed K (tLc wi g tt te vs) ρ (.list (keep p f xs)) := fun σ D H0 H s sl Q q =>
  hw σ D H0 H s sl _ fun J D1 H1 t1 wk L hL => by
    have hLD : D1 L = none := Evl.fresh_back t1.s hL
    refine ⟨fun i m H2 => m = xs.length - i ∧ i ≤ xs.length ∧ ∃ D2 acc, Ex D1 D2 ∧ Ex D2 H2 ∧ Ex H1 H2 ∧ D2 L = none ∧ (∀ p u, H1 p = some u → (∀ xs, u ≠ .tup xs) → D1 p = none → D2 p = none) ∧ H2 L = some (.lst acc) ∧ DpAll K D2 acc (keep p f (xs.take i)),
      ⟨_, rfl, Nat.zero_le _, D1, [], Ex.refl D1, t1.s.trans (Ex.new hL), Ex.new hL, hLD, fun _ _ _ _ h => h, upd_same, .nil⟩, ?_⟩
    rintro i m H2 ⟨rfl, hi, D2, acc, e1, e2, e3, e4, e5, e6, e7⟩
    obtain ⟨w1, w2⟩ := wk D2 H2 e1 e2
    by_cases hlt : i < xs.length
    · have hx := List.getElem?_eq_getElem hlt
      obtain ⟨w3, w4⟩ := w1 i _ hx
      refine .inr ⟨w3, fun H3 => ∃ D3 acc, Ex D1 D3 ∧ Ex D3 H3 ∧ Ex H1 H3 ∧ D3 L = none ∧ (∀ p u, H1 p = some u → (∀ xs, u ≠ .tup xs) → D1 p = none → D3 p = none) ∧ H3 L = some (.lst acc) ∧ DpAll K D3 acc (keep p f (xs.take (i + 1))), fun H3 h3 => ⟨_, by omega, rfl, hlt, h3⟩, fun v H3 hy => ?_⟩
      obtain ⟨D3, t3, pv⟩ := w4 v H3 hy
      obtain ⟨ρ', is, b1, b2, b3, b4⟩ := hs i _ hx
      have e6' : H3 L = some (.lst acc) := t3.h L _ e6
      refine b1 v _ D3 H0 H3 t3.s ((sl.mono ((t1.tr ⟨e1, e3, e2, e5⟩).tr t3)).wipe vs) pv _ fun σ' s1 s2 s3 => ⟨?_, ?_⟩
      · have z : L2.wipe σ' vs = L2.wipe (L2.wipe σ vs) vs := wipe_in s2 fun j hj => s3 j fun hj2 => hj (b2 j hj2)
        rw [z]
        exact wipe_in (wipe_length σ vs) fun j hj => wipe_out hj
      · refine b3 σ' D3 H0 H3 t3.s s1 _ fun D4 H4 t4 => ?_
        have e6b : H4 L = some (.lst acc) := t4.h L _ e6'
        have nL : D4 L = none := t4.n L _ e6' (fun _ z => nomatch z) (t3.n L _ e6 (fun _ z => nomatch z) e4)
        have stay : ∀ p u, H1 p = some u → (∀ xs, u ≠ .tup xs) → D1 p = none → D4 p = none := fun p u h1 h2 h3 => t4.n p u (t3.h p u (e3 p u h1)) h2 (t3.n p u (e3 p u h1) h2 (e5 p u h1 h2 h3))
        cases hp : p xs[i] with
        | false =>
          rw [if_neg Bool.false_ne_true]
          refine ⟨D4, acc, (e1.trans t3.d).trans t4.d, t4.s, (e3.trans t3.h).trans t4.h, nL, stay, e6b, ?_⟩
          rw [keep_take hx, if_neg (by rw [hp]; exact Bool.false_ne_true)]
          exact dpA (t3.d.trans t4.d) e7
        | true =>
          rw [if_pos rfl]
          refine b4 hp σ' D4 H0 H4 t4.s (s1.mono t4) _ fun y D5 H5 t5 p5 => ?_
          have e6c : H5 L = some (.lst acc) := t5.h L _ e6b
          have n5 : D5 L = none := t5.n L _ e6b (fun _ z => nomatch z) nL
          have la : acc.length < sizeLine := by
            have := dpA_len e7
            have h2 := keep_len p f (xs.take i)
            rw [List.length_take] at h2
            exact Nat.lt_of_lt_of_le (show acc.length < 100001 by omega) (by decide)
          refine ⟨acc, e6c, la, D5, acc ++ [y], ((e1.trans t3.d).trans t4.d).trans t5.d, t5.s.mut n5, (((e3.trans t3.h).trans t4.h).trans t5.h).mut hL, n5, fun p u h1 h2 h3 => ?_, upd_same, ?_⟩
          · exact t5.n p u (t4.h p u (t3.h p u (e3 p u h1))) h2 (stay p u h1 h2 h3)
          · rw [keep_take hx, if_pos hp]
            exact dpA_app (dpA ((t3.d.trans t4.d).trans t5.d) e7) (.cons p5 .nil)
    · have ei : i = xs.length := by omega
      subst ei
      refine .inl ⟨w2, ?_⟩
      rw [List.take_length] at e7
      have fr : ∀ a u, D2 a = some u → a ≠ L := fun a u z => ne_of_none z e4
      refine q (.ref L) (upd D2 L (.lst acc)) H2 (t1.tr ⟨e1.trans (Ex.new e4), e3, fun a u h => ?_, fun a u h1 h2 h3 => ?_⟩) (.lst (SqL.of upd_same) (dpA (Ex.new e4) e7))
      · by_cases z : a = L
        · subst z
          rw [upd_same] at h
          rw [e6]
          exact h
        · rw [upd_ne z] at h
          exact e2 a u h
      · by_cases z : a = L
        · subst z
          rw [hL] at h1
          cases h1
        · rw [upd_ne z]
          exact e5 a u h1 h2 h3
/-- without a test -/
theorem ed_lcm {wi : TI} {g : TG} {vs : List Nat} (f : PyData → PyData) (hw : EdI K wi ρ xs) (hl : xs.length ≤ 100000)
    (hs : ∀ (i : Nat) (x : PyData), xs[i]? = some x → ∃ ρ' is, Bd K g x (wipeR ρ vs) ρ' is ∧ (∀ j ∈ is, j ∈ vs) ∧ Ed K te ρ' (f x)) : Ed K (tLc wi g tYes te vs) ρ (.list (xs.map f)) := by
  have h := ed_lc (K := K) (ρ := ρ) (te := te) (tt := tYes) (fun _ => true) f hw hl fun i x hx => by
    obtain ⟨ρ', is, b1, b2, b3⟩ := hs i x hx
    exact ⟨ρ', is, b1, b2, et_yes, fun _ => b3⟩
  refine h.to ?_
  unfold keep
  rw [List.filter_eq_self.mpr fun _ _ => rfl]

/-! ### statements -/
inductive Rs where
  | nx (ρ : Ro)
  | rt (d : PyData)
  | ro (o : OD)
def FinR (K : PySem.W.Frag) (D H0 : Hp) (E : Ends) : Rs → Prop
  | .nx ρ => ∀ σ' D' H', Stp D H0 D' H' → Sl K σ' D' H0 H' ρ → E.nx σ' H'
  | .rt d => ∀ v D' H', Stp D H0 D' H' → Dp K D' v d → E.rt v H'
  | .ro o => ∀ p D' H' u, Stp D H0 D' H' → D' p = none → H0 p = none → H' p = some u → OdV K D' u o → E.rt (.ref p) H'
/-- from a base: what is reached, and one step on -/
theorem Stp.go {D H0 H D1 H1 : Hp} (t : Stp D H0 D H) (t1 : Stp D H D1 H1) : Stp D1 H0 D1 H1 := ⟨Ex.refl D1, t.h.trans t1.h, t1.s, fun _ _ _ _ h => h⟩
theorem Stp.up {D H0 H D1 H1 : Hp} (t : Stp D H0 D H) (t1 : Stp D H D1 H1) : Stp D H0 D1 H1 := ⟨t1.d, t.h.trans t1.h, t1.s, fun p u h1 h2 h3 => t1.n p u (t.h p u h1) h2 h3⟩
theorem Stp.tr0 {D H0 D1 H1 D2 H2 : Hp} (a : Stp D H0 D1 H1) (b : Stp D1 H0 D2 H2) : Stp D H0 D2 H2 := ⟨a.d.trans b.d, b.h, b.s, fun p u h1 h2 h3 => b.n p u h1 h2 (a.n p u h1 h2 h3)⟩
theorem Stp.self {D H0 D1 H1 : Hp} (a : Stp D H0 D1 H1) : Stp D1 H0 D1 H1 := ⟨Ex.refl D1, a.h, a.s, fun _ _ _ _ h => h⟩
theorem FinR.of {D H0 D1 H1 : Hp} {E : Ends} {r : Rs} (t : Stp D H0 D1 H1) (h : FinR K D H0 E r) : FinR K D1 H0 E r := by
  cases r with
  | nx ρ => exact fun σ' D' H' t' => h σ' D' H' (t.tr0 t')
  | rt d => exact fun v D' H' t' => h v D' H' (t.tr0 t')
  | ro o => exact fun p D' H' u t' => h p D' H' u (t.tr0 t')
def Run (K : PySem.W.Frag) (ts : TS) (ρ : Ro) (r : Rs) : Prop := ∀ (σ : L2.St) (H0 D H : Hp) (E : Ends), Stp D H0 D H → Sl K σ D H0 H ρ → FinR K D H0 E r → ts E σ H
variable {r : Rs} {t1 t2 t3 : TS} {g : TG}
theorem run_last (h : Run K (tSeq t1 tNext) ρ r) : Run K t1 ρ r := fun σ H0 D H E t sl q => h σ H0 D H E t sl q
theorem run_assoc (h : Run K (tSeq t1 (tSeq t2 t3)) ρ r) : Run K (tSeq (tSeq t1 t2) t3) ρ r := fun σ H0 D H E t sl q => h σ H0 D H E t sl q
theorem run_next (h : Run K t2 ρ r) : Run K (tSeq tNext t2) ρ r := fun σ H0 D H E t sl q => h σ H0 D H E t sl q
theorem run_end : Run K tNext ρ (.nx ρ) := fun σ H0 D H E t sl q => q σ D H t sl
theorem run_asg {is : List Nat} (h : Ed K te ρ d) (hb : Bd K g d ρ ρ' is) (hn : Run K t2 ρ' r) : Run K (tSeq (tAsg te g) t2) ρ r := fun σ H0 D H E t sl q =>
  h σ D H0 H t.s sl _ fun v D1 H1 t1 p1 => hb v σ D1 H0 H1 t1.s (sl.mono t1) p1 _ fun σ' s1 _ _ => hn σ' H0 D1 H1 E (t.go t1) s1 (q.of (t.up t1))
theorem run_set {i : Nat} (h : Ed K te ρ d) (hn : Run K t2 (ρ.set i (.dat d)) r) : Run K (tSeq (tAsg te (gName i)) t2) ρ r := run_asg h bd_name hn
theorem run_par {i j : Nat} {ta : TA} (h : EdA K ta ρ [x, y]) (hn : Run K t2 ((ρ.set i (.dat x)).set j (.dat y)) r) : Run K (tSeq (tPar i j ta) t2) ρ r := fun σ H0 D H E t sl q =>
  h σ D H0 H t.s sl _ fun vs D1 H1 t1 p1 => by
    obtain ⟨v, u, rfl, p2, p3⟩ := dpA2 p1
    exact ⟨v, u, rfl, hn _ H0 D1 H1 E (t.go t1) (((sl.mono t1).set i p2).set j p3) (q.of (t.up t1))⟩
theorem dpA3 {H : Hp} {vs : List V} (h : DpAll K H vs [x, y, z]) : ∃ v u w, vs = [v, u, w] ∧ Dp K H v x ∧ Dp K H u y ∧ Dp K H w z := by
  cases h with
  | cons h t =>
    obtain ⟨u, w, rfl, k⟩ := dpA2 t
    exact ⟨_, _, _, rfl, h, k⟩
theorem run_par3 {i j l : Nat} {ta : TA} (h : EdA K ta ρ [x, y, z]) (hn : Run K t2 (((ρ.set i (.dat x)).set j (.dat y)).set l (.dat z)) r) : Run K (tSeq (tPar3 i j l ta) t2) ρ r := fun σ H0 D H E t sl q =>
  h σ D H0 H t.s sl _ fun vs D1 H1 t1 p1 => by
    obtain ⟨v, u, w, rfl, p2, p3, p4⟩ := dpA3 p1
    exact ⟨v, u, w, rfl, hn _ H0 D1 H1 E (t.go t1) ((((sl.mono t1).set i p2).set j p3).set l p4) (q.of (t.up t1))⟩
theorem run_ret (h : Ed K te ρ d) : Run K (tSeq (tRet te) t2) ρ (.rt d) := fun σ H0 D H E t sl q => h σ D H0 H t.s sl _ fun v D1 H1 t1 p1 => q v D1 H1 (t.up t1) p1
theorem run_drop (h : Ed K te ρ d) (hn : Run K t2 ρ r) : Run K (tSeq (tDrop te) t2) ρ r := fun σ H0 D H E t sl q => h σ D H0 H t.s sl _ fun v D1 H1 t1 p1 => hn σ H0 D1 H1 E (t.go t1) (sl.mono t1) (q.of (t.up t1))
theorem run_if {b : Bool} {c : TT} (h : EdT K c ρ b) (h1 : b = true → Run K (tSeq t1 t3) ρ r) (h2 : b = false → Run K (tSeq t2 t3) ρ r) : Run K (tSeq (tIfS c t1 t2) t3) ρ r := fun σ H0 D H E t sl q =>
  h σ D H0 H t.s sl _ fun D1 H1 u1 => by
    cases b with
    | true => exact h1 rfl σ H0 D1 H1 E (t.go u1) (sl.mono u1) (q.of (t.up u1))
    | false => exact h2 rfl σ H0 D1 H1 E (t.go u1) (sl.mono u1) (q.of (t.up u1))
theorem Run.to {r' : Rs} (h : Run K t1 ρ r) (e : r = r') : Run K t1 ρ r' := e ▸ h
theorem Run.at_ (h : Run K t1 ρ' r) (e : ρ = ρ') : Run K t1 ρ r := e ▸ h
/-- a test that is known -/
theorem run_no {c : TT} (h : EdT K c ρ false) (h2 : Run K t3 ρ r) : Run K (tSeq (tIfS c t1 tNext) t3) ρ r := run_if h (fun e => nomatch e) fun _ => run_next h2
theorem run_yes {c : TT} (h : EdT K c ρ true) (h2 : Run K (tSeq t1 t3) ρ r) : Run K (tSeq (tIfS c t1 t2) t3) ρ r := run_if h (fun _ => h2) fun e => nomatch e
/-- for over data: F the slots by the turn -/
theorem run_for {wi : TI} {tb : TS} (F : Nat → Ro) (hw : EdI K wi ρ xs) (h0 : F 0 = ρ) (hs : ∀ (i : Nat) (x : PyData), xs[i]? = some x → ∃ ρ' is, Bd K g x (F i) ρ' is ∧ Run K tb ρ' (.nx (F (i + 1)))) (hn : Run K t2 (F xs.length) r) : Run K (tSeq (tFor wi g tb) t2) ρ r := fun σ H0 D H E t sl q =>
  hw σ D H0 H t.s sl _ fun J D1 H1 t1 wk => by
    refine ⟨fun i m σ' H2 => m = xs.length - i ∧ i ≤ xs.length ∧ ∃ D2, Stp D1 H0 D2 H2 ∧ Sl K σ' D2 H0 H2 (F i), ⟨_, rfl, Nat.zero_le _, D1, t.go t1, by rw [h0]; exact sl.mono t1⟩, ?_⟩
    rintro i m σ' H2 ⟨rfl, hi, D2, u2, s2⟩
    obtain ⟨w1, w2⟩ := wk D2 H2 u2.d u2.s
    by_cases hlt : i < xs.length
    · have hx := List.getElem?_eq_getElem hlt
      obtain ⟨w3, w4⟩ := w1 i _ hx
      refine .inr ⟨w3, fun σ' H3 => ∃ D3, Stp D1 H0 D3 H3 ∧ Sl K σ' D3 H0 H3 (F (i + 1)), fun σ' H3 h3 => ⟨_, by omega, rfl, hlt, h3⟩, fun v H3 hy => ?_⟩
      obtain ⟨D3, u3, pv⟩ := w4 v H3 hy
      obtain ⟨ρ', is, b1, b2⟩ := hs i _ hx
      refine b1 v σ' D3 H0 H3 u3.s (s2.mono u3) pv _ fun σ2 s3 _ _ => b2 σ2 H0 D3 H3 _ (u2.self.go u3) s3 ?_
      exact fun σ3 D4 H4 u4 s4 => ⟨D4, (u2.tr0 (u2.self.up u3)).tr0 u4, s4⟩
    · have ei : i = xs.length := by omega
      subst ei
      exact .inl ⟨w2, hn σ' H0 D2 H2 E u2.self s2 (q.of ((t.up t1).tr0 u2))⟩
/-- for over data: a return at turn n -/
theorem run_forN {wi : TI} {tb : TS} (F : Nat → Ro) (n : Nat) (hl : n < xs.length) (hw : EdI K wi ρ xs) (h0 : F 0 = ρ) (hs : ∀ (i : Nat) (x : PyData), i < n → xs[i]? = some x → ∃ ρ' is, Bd K g x (F i) ρ' is ∧ Run K tb ρ' (.nx (F (i + 1))))
    (hr : ∀ x, xs[n]? = some x → ∃ ρ' is, Bd K g x (F n) ρ' is ∧ Run K tb ρ' (.rt d)) : Run K (tSeq (tFor wi g tb) t2) ρ (.rt d) := fun σ H0 D H E t sl q =>
  hw σ D H0 H t.s sl _ fun J D1 H1 t1 wk => by
    refine ⟨fun i m σ' H2 => m = n - i ∧ i ≤ n ∧ ∃ D2, Stp D1 H0 D2 H2 ∧ Sl K σ' D2 H0 H2 (F i), ⟨_, rfl, Nat.zero_le _, D1, t.go t1, by rw [h0]; exact sl.mono t1⟩, ?_⟩
    rintro i m σ' H2 ⟨rfl, hi, D2, u2, s2⟩
    obtain ⟨w1, w2⟩ := wk D2 H2 u2.d u2.s
    have hlt : i < xs.length := by omega
    have hx := List.getElem?_eq_getElem hlt
    obtain ⟨w3, w4⟩ := w1 i _ hx
    refine .inr ⟨w3, fun σ' H3 => i < n ∧ ∃ D3, Stp D1 H0 D3 H3 ∧ Sl K σ' D3 H0 H3 (F (i + 1)), fun σ' H3 h3 => ⟨n - (i + 1), by omega, rfl, by omega, h3.2⟩, fun v H3 hy => ?_⟩
    obtain ⟨D3, u3, pv⟩ := w4 v H3 hy
    have u4 := u2.self.go u3
    have u5 := u2.tr0 (u2.self.up u3)
    by_cases hin : i < n
    · obtain ⟨ρ', is, b1, b2⟩ := hs i _ hin hx
      refine b1 v σ' D3 H0 H3 u3.s (s2.mono u3) pv _ fun σ2 s3 _ _ => b2 σ2 H0 D3 H3 _ u4 s3 ?_
      exact fun σ3 D4 H4 u6 s4 => ⟨hin, D4, u5.tr0 u6, s4⟩
    · have ei : i = n := by omega
      subst ei
      obtain ⟨ρ', is, b1, b2⟩ := hr _ hx
      refine b1 v σ' D3 H0 H3 u3.s (s2.mono u3) pv _ fun σ2 s3 _ _ => b2 σ2 H0 D3 H3 _ u4 s3 ?_
      exact fun w D4 H4 u6 p4 => q w D4 H4 ((t.up t1).tr0 (u5.tr0 u6)) p4
/-- while: n turns -/
theorem run_while {c : TT} {tb : TS} (F : Nat → Ro) (n : Nat) (h0 : F 0 = ρ) (hs : ∀ i, i < n → EdT K c (F i) true ∧ Run K tb (F i) (.nx (F (i + 1)))) (he : EdT K c (F n) false) (hn : Run K t2 (F n) r) : Run K (tSeq (tWhile c tb) t2) ρ r := fun σ H0 D H E t sl q => by
  refine ⟨fun m σ' H2 => ∃ i, m = n - i ∧ i ≤ n ∧ ∃ D2, Stp D H0 D2 H2 ∧ Sl K σ' D2 H0 H2 (F i), ⟨_, 0, rfl, Nat.zero_le _, D, t, by rw [h0]; exact sl⟩, ?_⟩
  rintro m σ' H2 ⟨i, rfl, hi, D2, u2, s2⟩
  by_cases hlt : i < n
  · obtain ⟨h1, h2⟩ := hs i hlt
    refine h1 σ' D2 H0 H2 u2.s s2 _ fun D3 H3 u3 => ?_
    rw [if_pos rfl]
    refine ⟨fun σ' H3 => ∃ D3, Stp D H0 D3 H3 ∧ Sl K σ' D3 H0 H3 (F (i + 1)), fun σ' H3 ⟨D3, a, b⟩ => ⟨_, by omega, i + 1, rfl, hlt, D3, a, b⟩, h2 σ' H0 D3 H3 _ (u2.self.go u3) (s2.mono u3) ?_⟩
    exact fun σ3 D4 H4 u4 s4 => ⟨D4, (u2.tr0 (u2.self.up u3)).tr0 u4, s4⟩
  · have ei : i = n := by omega
    subst ei
    refine he σ' D2 H0 H2 u2.s s2 _ fun D3 H3 u3 => ?_
    rw [if_neg Bool.false_ne_true]
    exact hn σ' H0 D3 H3 E (u2.self.go u3) (s2.mono u3) (q.of (u2.tr0 (u2.self.up u3)))

/-! ### things of the def's own -/
/-- a new list of the def's own -/
theorem run_newL {i : Nat} {ta : TA} (h : EdA K ta ρ xs) (hl : xs.length ≤ 100000) (hn : ∀ p, Run K t2 (ρ.set i (.own p (.lst xs))) r) : Run K (tSeq (tAsg (tLst ta) (gName i)) t2) ρ r := fun σ H0 D H E t sl q =>
  h σ D H0 H t.s sl _ fun vs D1 H1 t1 p1 => ⟨sz100 (by rw [dpA_len p1]; exact hl), fun p hp => by
    have u := t.go t1
    exact hn p _ H0 D1 _ E ⟨Ex.refl D1, u.h.trans (Ex.new hp), u.s.trans (Ex.new hp), fun _ _ _ _ h => h⟩ ((sl.mono t1).new i u.h u.s hp (.lst p1)) (q.of (t.up t1))⟩
/-- a thing of the def's own, changed: the new start -/
theorem own_chg {σ : L2.St} {D H0 H : Hp} {i : Nat} {p : Addr} {o o' : OD} {u : HO} (t : Stp D H0 D H) (sl : Sl K σ D H0 H ρ) (hi : ρ[i]? = some (.own p o)) (q : OdV K D u o') : Stp D H0 D (upd H p u) ∧ Sl K σ D H0 (upd H p u) (ρ.set i (.own p o')) := by
  obtain ⟨_, z2, z3, _⟩ := sl.own i p o hi
  refine ⟨⟨Ex.refl D, fun a w e => ?_, fun a w e => ?_, fun _ _ _ _ h => h⟩, sl.chg hi q⟩
  · rw [upd_ne (ne_of_none e z3)]
    exact t.h a w e
  · rw [upd_ne (ne_of_none e z2)]
    exact t.s a w e
theorem lst_own {σ : L2.St} {D H0 H : Hp} {i : Nat} {p : Addr} (sl : Sl K σ D H0 H ρ) (hi : ρ[i]? = some (.own p (.lst xs))) : σ[i]? = some (some (.ref p)) ∧ D p = none ∧ ∃ vs, H p = some (.lst vs) ∧ DpAll K D vs xs := by
  obtain ⟨z1, z2, _, u, z4, z5⟩ := sl.own i p _ hi
  cases z5 with
  | lst z5 => exact ⟨z1, z2, _, z4, z5⟩
/-- l.append(e) -/
theorem run_append {i : Nat} {p : Addr} (hi : ρ[i]? = some (.own p (.lst xs))) (h : Ed K te ρ d) (hl : xs.length < 100000) (hn : Run K t2 (ρ.set i (.own p (.lst (xs ++ [d])))) r) : Run K (tSeq (tDrop (tBM K "list" rAppend (tVar i) (tCons te tNil))) t2) ρ r := fun σ H0 D H E t sl q => by
  obtain ⟨z1, z2, vs, z3, z4⟩ := lst_own sl hi
  refine ⟨_, z1, .inl ⟨rfl, vs, SqL.of z3⟩, h σ D H0 H t.s sl _ fun v D1 H1 t1 p1 => ?_⟩
  obtain ⟨y1, y2, ws, y3, y4⟩ := lst_own (sl.mono t1) hi
  obtain ⟨k1, k2⟩ := own_chg (t.go t1) (sl.mono t1) hi (OdV.lst (dpA_app y4 (.cons p1 .nil)))
  exact ⟨p, ws, v, rfl, rfl, y3, Nat.lt_of_lt_of_le (by rw [dpA_len y4]; exact hl) (by decide), hn σ H0 D1 _ E k1 k2 (q.of (t.up t1))⟩
theorem ixN_len {vs : List V} {H : Hp} (h : DpAll K H vs xs) : vs.length = xs.length := dpA_len h
theorem dpA_set : ∀ {vs : List V} {ds : List PyData} {H : Hp} {v : V} {d : PyData} (i : Nat), DpAll K H vs ds → Dp K H v d → DpAll K H (vs.set i v) (ds.set i d)
  | _, _, _, _, _, _, .nil, _ => .nil
  | _, _, _, _, _, 0, .cons _ t, p => .cons p t
  | _, _, _, _, _, i + 1, .cons h t, p => .cons h (dpA_set i t p)
/-- l[k] = e -/
theorem run_setL {i j : Nat} {k : Int} {p : Addr} {ti : TE} (hi : ρ[i]? = some (.own p (.lst xs))) (h : Ed K te ρ d) (hk : Ed K ti ρ (.int k)) (hj : ixN xs.length k = some j) (hn : Run K t2 (ρ.set i (.own p (.lst (xs.set j d)))) r) : Run K (tSeq (tAsg te (gSub (tVar i) ti rSetL)) t2) ρ r := fun σ H0 D H E t sl q =>
  h σ D H0 H t.s sl _ fun v D1 H1 t1 p1 => by
    obtain ⟨y1, y2, ws, y3, y4⟩ := lst_own (sl.mono t1) hi
    refine ⟨_, y1, hk σ D1 H0 H1 t1.s (sl.mono t1) _ fun v2 D2 H2 t2' p2 => ?_⟩
    obtain ⟨x1, x2, us, x3, x4⟩ := lst_own (sl.mono (t1.tr t2')) hi
    obtain ⟨k1, k2⟩ := own_chg (t.go (t1.tr t2')) (sl.mono (t1.tr t2')) hi (OdV.lst (dpA_set j x4 (dpX t2'.d p1)))
    exact ⟨p, us, k, j, rfl, dp_int p2, x3, by rw [dpA_len x4]; exact hj, hn σ H0 D2 _ E k1 k2 (q.of (t.up (t1.tr t2')))⟩
/-- l[k] of a list of the def's own -/
theorem ed_ixO {i : Nat} {k : Int} {p : Addr} {ti : TE} (hi : ρ[i]? = some (.own p (.lst xs))) (hk : Ed K ti ρ (.int k)) (e : atI xs k = some d) : Ed K (tOp (rIxL K) (tVar i) ti) ρ d := fun σ D H0 H s sl Q q => by
  obtain ⟨z1, _, _⟩ := lst_own sl hi
  refine ⟨_, z1, hk σ D H0 H s sl _ fun v D1 H1 t1 p1 => ?_⟩
  obtain ⟨_, _, ws, y3, y4⟩ := lst_own (sl.mono t1) hi
  obtain ⟨w, h3, h4⟩ := dpA_at y4 e
  exact ⟨p, ws, k, w, rfl, dp_int p1, SqL.of y3, h3, q w D1 H1 t1 h4⟩
/-- a list of the def's own becomes data -/
theorem run_fz {i : Nat} {p : Addr} (hi : ρ[i]? = some (.own p (.lst xs))) (hn : Run K t1 (ρ.set i (.dat (.list xs))) r) : Run K t1 ρ r := fun σ H0 D H E t sl q => by
  obtain ⟨z1, z2, z3, u, z4, z5⟩ := sl.own i p _ hi
  cases z5 with
  | lst z5 =>
    rename_i vs
    have e1 : Ex D (upd D p (.lst vs)) := Ex.new z2
    have s1 : Ex (upd D p (.lst vs)) H := fun a w e => by
      by_cases h : a = p
      · subst h
        rw [upd_same] at e
        rw [z4]
        exact e
      · rw [upd_ne h] at e
        exact t.s a w e
    have n1 : ∀ a, a ≠ p → D a = none → upd D p (.lst vs) a = none := fun a h1 h2 => by rw [upd_ne h1]; exact h2
    have s2 : Sl K σ (upd D p (.lst vs)) H0 H (ρ.set i (.dat (.list xs))) := by
      have s3 : Sl K σ D H0 H (ρ.set i .no) := sl.hold i .no (fun d h => nomatch h) fun p o h => nomatch h
      have at1 : ∀ (j : Nat) (y : Sd), (ρ.set i (.dat (.list xs)))[j]? = some y → (j = i ∧ y = .dat (.list xs)) ∨ (j ≠ i ∧ ρ[j]? = some y) := fun j y q => by
        by_cases hj : i = j
        · subst hj
          rw [List.getElem?_set_self (List.getElem?_eq_some_iff.mp hi).1] at q
          exact .inl ⟨rfl, (Option.some.inj q).symm⟩
        · rw [List.getElem?_set_ne hj] at q
          exact .inr ⟨Ne.symm hj, q⟩
      refine ⟨by rw [List.length_set]; exact sl.len, fun j d q2 => ?_, fun j p2 o q2 => ?_, fun j k a b q' hjk ha hb ma mb => ?_⟩
      · rcases at1 j _ q2 with ⟨rfl, q3⟩ | ⟨_, q3⟩
        · cases q3
          exact ⟨_, z1, .lst (SqL.of upd_same) (dpA e1 z5)⟩
        · obtain ⟨v, h1, h2⟩ := sl.at_ j d q3
          exact ⟨v, h1, dpX e1 h2⟩
      · rcases at1 j _ q2 with ⟨rfl, q3⟩ | ⟨n, q3⟩
        · cases q3
        · obtain ⟨a1, a2, a3, u2, a4, a5⟩ := sl.own j p2 o q3
          exact ⟨a1, n1 p2 (fun z => by subst z; exact sl.sep i j _ _ p2 (Ne.symm n) hi q3 rfl rfl) a2, a3, u2, a4, a5.mono e1⟩
      · rcases at1 j _ ha with ⟨rfl, q3⟩ | ⟨n2, q3⟩
        · subst q3
          cases ma
        · rcases at1 k _ hb with ⟨rfl, q4⟩ | ⟨n4, q4⟩
          · subst q4
            cases mb
          · exact sl.sep j k a b q' hjk q3 q4 ma mb
    refine hn σ H0 _ H E ⟨Ex.refl _, t.h, s1, fun _ _ _ _ h => h⟩ s2 (q.of ⟨e1, t.h, s1, fun a w h1 _ h2 => n1 a (ne_of_none h1 z3) h2⟩)

/-! ### promises -/
/-- a def of data: R its relation of arguments and result -/
def spR (K : PySem.W.Frag) (R : List PyData → PyData → Prop) : Sp := fun vs H Q _ => ∃ ds d D, R ds d ∧ Ex D H ∧ DpAll K D vs ds ∧ ∀ v D' H', Stp D H D' H' → Dp K D' v d → Q v H'
theorem ed_call {R : List PyData → PyData → Prop} {E : XK} {t : TA} (h : EdA K t ρ ds) (hR : R ds d) : Ed K (tCall (spR K R) [] E t) ρ d := fun σ D H0 H s sl Q q =>
  h σ D H0 H s sl _ fun vs D1 H1 t1 p1 => ⟨ds, d, D1, hR, t1.s, by rw [List.append_nil]; exact p1, fun v D' H' t' p' => q v D' H' (t1.tr t') p'⟩
def startR (N : List Str) (ds : List PyData) : Ro := ds.map .dat ++ List.replicate (N.length - ds.length) .no
theorem startR_at {N : List Str} {i : Nat} {z : Sd} (e : (startR N ds)[i]? = some z) : z = .no ∨ ∃ d, ds[i]? = some d ∧ z = .dat d := by
  unfold startR at e
  by_cases hi : i < ds.length
  · rw [List.getElem?_append_left (by simpa using hi), List.getElem?_map, List.getElem?_eq_getElem hi] at e
    exact .inr ⟨_, List.getElem?_eq_getElem hi, (Option.some.inj e).symm⟩
  · rw [List.getElem?_append_right (by simp; omega), List.getElem?_replicate] at e
    split at e
    · exact .inl (Option.some.inj e).symm
    · cases e
theorem sl_start {D H0 H : Hp} {N : List Str} {vs : List V} (h : DpAll K D vs ds) : Sl K (L2.start N vs) D H0 H (startR N ds) := by
  have hl := dpA_len h
  refine ⟨by unfold L2.start startR; simp [hl], fun i d e => ?_, fun i p o e => ?_, fun i j a b p hij ha hb ma => ?_⟩
  · rcases startR_at e with z | ⟨d2, ed, z⟩
    · cases z
    · cases z
      obtain ⟨v, h1, h2⟩ := dpA_get h ed
      refine ⟨v, ?_, h2⟩
      unfold L2.start
      rw [List.getElem?_append_left (by rw [List.length_map]; exact (List.getElem?_eq_some_iff.mp h1).1), List.getElem?_map, h1]
      rfl
  · rcases startR_at e with z | ⟨d2, ed, z⟩
    · cases z
    · cases z
  · rcases startR_at ha with z | ⟨d2, ed, z⟩
    · subst z
      cases ma
    · subst z
      cases ma
/-- a def of the top that keeps its promise -/
structure Has (P : Program) (w : World) (K : PySem.W.Frag) (mg : Str → Option Value) (base : Heap) (k : Nat) (x : Str) (ps : List Str) (sp : Sp) : Prop where
  ex : ∃ f fd, mg x = some (.ref f) ∧ PySem.W.keepIn K (.ref f) = true ∧ Binds K fd ps [] ∧ FnOk P w K mg base CX0 k f fd ps sp
end
section
variable {P : Program} {w : World} {K : PySem.W.Frag} {mg : Str → Option Value} {base : Heap}
theorem Has.mono {j k : Nat} {x : Str} {ps : List Str} {sp : Sp} (h : Has P w K mg base j x ps sp) (e : j ≤ k) : Has P w K mg base k x ps sp := by
  obtain ⟨f, fd, h1, h2, h3, h4⟩ := h.ex
  exact ⟨f, fd, h1, h2, h3, h4.mono e⟩
theorem pe_callH {X : Cx} {k j : Nat} {x : Str} {ps : List Str} {sp : Sp} {p pos : Pos} {e : Expr} {es : List Expr} {t : TA} (h : Has X.prog X.w X.K X.mg X.base k x ps sp) (hr : Room j X.A) (hj : k ≤ j) (hg : Gl X x) (ha : PA X (e :: es) t)
    (hdb : (x == ("__debug__" : Str)) = false := by decide) (he : starEach (e :: es) X.env = (false, eval e X.env) :: starEach es X.env := by rfl) (hpl : (backTo pos (starEach es X.env)).any (·.1) = false := by rfl) :
    PE X (.Call (.Name x p) (e :: es) [] pos) (tCall sp [] E0 t) := by
  obtain ⟨f, fd, h1, h2, h3, h4⟩ := h.ex
  exact pe_call h4 (hr.mono hj) hg h1 h2 h3 .nil pass0 ha hdb he hpl
/-- a def told by its relation: its body's term and run -/
theorem has_of {x : Str} {params : Arguments} {body : List Stmt} {scope : Scope} {f : Addr} {fd : FuncData} {N ps : List Str} {k : Nat} {R : List PyData → PyData → Prop} (g : mg x = some (.ref f)) (F : FunD K x x params body scope [] [] f fd) (S : FnScope N ps scope)
    (hb : ∀ (kV doc pm : Value) (an : Option Addr) (cdv ct : Value) (us : List Value), us.length = ps.length → bindArgs (PySem.W.fnOf x x params body scope .none kV doc pm an cdv ct) ⟨us, []⟩ = pure (ps.zip us))
    (hl : ∀ ds d, R ds d → ds.length = ps.length)
    (hbody : ∀ (cdv : Value) (A : Around) (outer : List Env) (s : Shared) (H : Hp) (E : XK), Room k (A.deeper (envOfC x scope s.heap.objs.size f cdv)) → ∀ ds d, R ds d →
      ∃ t, PSs (cxOf CX0 P w K mg base N x scope f cdv A outer s H E).nox body t ∧ Run K t (startR N ds) (.rt d)) : Has P w K mg base (k + 1) x ps (spR K R) := by
  refine ⟨f, fd, g, F.kp, F.bindsN hb, F.ok S (fun vs H Q E h => ?_) fun cdv A outer s H vs Q E hr h => ?_⟩
  · obtain ⟨ds, d, D, h1, _, h3, _⟩ := h
    rw [dpA_len h3]
    exact hl ds d h1
  · obtain ⟨ds, d, D, h1, h2, h3, h4⟩ := h
    obtain ⟨t, p1, p2⟩ := hbody cdv A outer s H E hr ds d h1
    exact ⟨t, p1.nox, p2 (L2.start N vs) H D H _ (Stp.rfl' h2) (sl_start h3) h4⟩
end
end K19

/-! TEXT K19X -/
set_option Elab.async false
set_option linter.all false
set_option maxRecDepth 100000
set_option maxHeartbeats 2000000
set_option autoImplicit false
/-! FURTHER RULES: the module's POWERS, t.index(n), enumerate(t), t[::-1], t * n. -/
namespace K19
open PySem PySem.Spec PyProof.Rows L2
open Evl (Ex)

theorem pe_imp {X : Cx} {e : Expr} {t t' : TE} (h : PE X e t) (i : ∀ σ H Q, t' σ H Q → t σ H Q) : PE X e t' := ⟨fun pins s σ H Q I q => h.run pins s σ H Q I (i σ H Q q)⟩

/-! ### POWERS -/
/-- the numbers of the fields that POWERS knows -/
def powL (q : Int) : Option (List Int) := (powT.find? fun p => decide (p.1 = q)).map Prod.snd
/-- a written tuple without a dict of its own -/
def KT (K : PySem.W.Frag) (a : Addr) : Prop := ∃ o, K.lookup a = some o ∧ o.cls = .type "tuple" ∧ o.dict = none
theorem tupA_ok {K : PySem.W.Frag} {a : Addr} {ns : List Int} (h : tupA K a ns = true) (H : Hp) : SqT K H a (ns.map V.int) ∧ KT K a := by
  unfold tupA at h
  cases q : K.lookup a with
  | none => rw [q] at h; cases h
  | some o =>
    obtain ⟨oc, od, dt, osl⟩ := o
    rw [q] at h
    cases oc with
    | type c =>
      cases od with
      | none =>
        cases dt with
        | seq its n =>
          obtain ⟨h1, h2⟩ := He.ba (show (decide (c = "tuple") && (decide (its.size ≤ sizeLine) && He.relAll (ns.map V.int) its.toList)) = true from h)
          obtain ⟨h3, h4⟩ := He.ba h2
          have ec : (Value.type c) = .type "tuple" := congrArg Value.type (of_decide_eq_true h1)
          exact ⟨.inr ⟨_, its, n, q, ec, rfl, of_decide_eq_true h3, He.relAll_ok h4⟩, _, q, ec, rfl⟩
        | _ => cases h
      | some d => cases dt <;> cases h
    | _ => cases od <;> cases dt <;> cases h
/-- the dict POWERS as it stands in the written part -/
def PowK (K : PySem.W.Frag) (a : Addr) : Prop := ∃ o es n, K.lookup a = some o ∧ o.ExactDict ∧ o.data = .dict es n ∧ (a == sysModules) = false ∧ entA K es.toList powT = true
theorem powA_ok {K : PySem.W.Frag} (h : powA K = true) : PowK K (He.ga K "POWERS") := by
  unfold powA at h
  cases q : K.lookup (He.ga K "POWERS") with
  | none => rw [q] at h; cases h
  | some o =>
    obtain ⟨oc, od, dt, sl⟩ := o
    rw [q] at h
    cases oc with
    | type c =>
      cases od with
      | none =>
        cases dt with
        | dict es n =>
          obtain ⟨h1, h2⟩ := He.ba (show (decide (c = "dict") && (sl.isEmpty && ((He.ga K "POWERS" != sysModules) && entA K es.toList powT))) = true from h)
          obtain ⟨h3, h4⟩ := He.ba h2
          obtain ⟨h5, h6⟩ := He.ba h4
          refine ⟨_, es, n, q, ⟨congrArg Value.type (of_decide_eq_true h1), rfl, Array.isEmpty_iff.mp h3⟩, rfl, ?_, h6⟩
          have h7 : (!(He.ga K "POWERS" == sysModules)) = true := h5
          simpa using h7
        | _ => cases h
      | some d => cases dt <;> cases h
    | _ => cases od <;> cases dt <;> cases h
/-- entries and what they hold -/
theorem entA_ok {K : PySem.W.Frag} {P : Program} {w : World} : ∀ {es : List DictEntry} {r : List (Int × List Int)}, entA K es r = true → (∀ e ∈ es, ∃ k : Int, (intKind P w).is k e.key = true ∧ e.hash = (intKind P w).hash k) ∧
    ∃ kvs : List (Int × Value), Pairs (intKind P w) es kvs ∧ Paired (fun (p : Int × Value) (q : Int × List Int) => p.1 = q.1 ∧ ∃ a, p.2 = .ref a ∧ tupA K a q.2 = true) kvs r
  | [], [], _ => ⟨(fun e he => by cases he), [], .nil, .nil⟩
  | [], _ :: _, h => by cases h
  | _ :: _, [], h => by cases h
  | e :: es, (k, ns) :: r, h => by
    obtain ⟨h1, h2⟩ := He.ba (show (decide (e.hash = hashInt k) && (Value.isInt k e.key && ((match e.val with | .ref a => tupA K a ns | _ => false) && entA K es r))) = true from h)
    obtain ⟨h3, h4⟩ := He.ba h2
    obtain ⟨h5, h6⟩ := He.ba h4
    obtain ⟨k1, kvs, k2, k3⟩ := entA_ok (P := P) (w := w) h6
    have hv : ∃ a, e.val = .ref a ∧ tupA K a ns = true := by
      cases q : e.val with
      | ref a =>
        rw [q] at h5
        exact ⟨a, rfl, h5⟩
      | _ =>
        rw [q] at h5
        cases h5
    refine ⟨fun e' he => ?_, (k, e.val) :: kvs, .cons h3 rfl k2, .cons ⟨rfl, hv⟩ k3⟩
    rcases List.mem_cons.mp he with rfl | he
    · exact ⟨k, h3, of_decide_eq_true h1⟩
    · exact k1 e' he
theorem paired_keys {K : PySem.W.Frag} : ∀ {kvs : List (Int × Value)} {r : List (Int × List Int)}, Paired (fun (p : Int × Value) (q : Int × List Int) => p.1 = q.1 ∧ ∃ a, p.2 = .ref a ∧ tupA K a q.2 = true) kvs r → kvs.map (·.1) = r.map (·.1)
  | _, _, .nil => rfl
  | _, _, .cons h t => by
    rw [List.map_cons, List.map_cons, h.1, paired_keys t]
theorem paired_look {K : PySem.W.Frag} (q : Int) : ∀ {kvs : List (Int × Value)} {r : List (Int × List Int)}, Paired (fun (p : Int × Value) (q : Int × List Int) => p.1 = q.1 ∧ ∃ a, p.2 = .ref a ∧ tupA K a q.2 = true) kvs r →
    match (r.find? fun p => decide (p.1 = q)).map Prod.snd with
    | none => valueAt kvs q = none
    | some ns => ∃ a, valueAt kvs q = some (.ref a) ∧ tupA K a ns = true
  | _, _, .nil => rfl
  | (k, v) :: kvs, (k', ns) :: r, .cons h t => by
    obtain ⟨e1, a, e2, e3⟩ := h
    have e1 : k = k' := e1
    have e2 : v = .ref a := e2
    subst e1
    subst e2
    by_cases hq : k = q
    · subst hq
      simp only [List.find?_cons, valueAt, decide_true, Option.map_some]
      exact ⟨a, rfl, e3⟩
    · have ih := paired_look q t
      simp only [List.find?_cons, valueAt, decide_eq_false hq] at ih ⊢
      exact ih
theorem PowK.map {K : PySem.W.Frag} {a : Addr} {P : Program} {w : World} (h : PowK K a) {hp : Heap} (X : K.In hp) : ∃ f : Int → Option Value, hp.MapOf (intKind P w) a f ∧ ∀ q, match powL q with
    | none => f q = none
    | some ns => ∃ b, f q = some (.ref b) ∧ tupA K b ns = true := by
  obtain ⟨o, es, n, h1, h2, h3, _, h5⟩ := h
  obtain ⟨k1, kvs, k2, k3⟩ := entA_ok (P := P) (w := w) h5
  have nd : (kvs.map (·.1)).Nodup := by
    rw [paired_keys k3]
    decide
  have D : hp.DictOf (intKind P w) a kvs := ⟨o, es, n, X _ _ h1, h2, h3, fun e he => k1 e (by simpa using he), k2, nd⟩
  refine ⟨valueAt kvs, D.mapOf, fun q => ?_⟩
  exact paired_look q k3
section
variable {X : Cx} {e : Expr} {te : TE} {pos p : Pos} {a : Addr}
def isPow (q : Int) : Bool := (powL q).isSome
def rPin (neg : Bool) : V → Hp → VK → Prop := fun x H Q => ∃ q, x = .int q ∧ Q (.bl (if neg then !isPow q else isPow q)) H
def rPget (K : PySem.W.Frag) : V → Hp → VK → Prop := fun x H Q => ∃ q ns, x = .int q ∧ powL q = some ns ∧ ∀ a, SqT K H a (ns.map V.int) → KT K a → Q (.ref a) H
theorem op_inPow (h : PowK X.K a) : OpR X (compareOp .In) (fun x y H Q => y = .ref a ∧ rPin false x H Q) := by
  intro pins s σ H x y v u Q I rx ry ⟨ey, q, ex, hq⟩
  subst ex ey
  obtain ⟨t, rfl⟩ := rx
  cases ry
  obtain ⟨f, hf, hv⟩ := h.map (P := X.prog) (w := X.w) I.kIn
  obtain ⟨_, _, _, _, _, _, hs, _⟩ := h
  refine wpAny_in_of (k := q) (by simp [PySem.intKind, Value.isInt]) hs hf ?_
  have e : (f q).isSome = isPow q := by
    have z := hv q
    unfold isPow
    cases c : powL q with
    | none => rw [c] at z; rw [z] <;> rfl
    | some ns =>
      rw [c] at z
      obtain ⟨b, z, _⟩ := z
      rw [z] <;> rfl
  rw [e]
  exact ⟨.bl (isPow q), H, I.tok _, rfl, hq⟩
theorem op_ninPow (h : PowK X.K a) : OpR X (compareOp .NotIn) (fun x y H Q => y = .ref a ∧ rPin true x H Q) := by
  intro pins s σ H x y v u Q I rx ry ⟨ey, q, ex, hq⟩
  subst ex ey
  obtain ⟨t, rfl⟩ := rx
  cases ry
  obtain ⟨f, hf, hv⟩ := h.map (P := X.prog) (w := X.w) I.kIn
  obtain ⟨_, _, _, _, _, _, hs, _⟩ := h
  refine wpAny_notIn_of (k := q) (by simp [PySem.intKind, Value.isInt]) hs hf ?_
  have e : (f q).isSome = isPow q := by
    have z := hv q
    unfold isPow
    cases c : powL q with
    | none => rw [c] at z; rw [z] <;> rfl
    | some ns =>
      rw [c] at z
      obtain ⟨b, z, _⟩ := z
      rw [z] <;> rfl
  rw [e]
  exact ⟨.bl (!isPow q), H, I.tok _, rfl, hq⟩
theorem pt_imp {X : Cx} {e : Expr} {t t' : TT} (h : PT X e t) (i : ∀ σ H Q, t' σ H Q → t σ H Q) : PT X e t' := ⟨fun pins s σ H Q I q => h.run pins s σ H Q I (i σ H Q q)⟩
theorem drop_eq {a : Addr} {neg : Bool} {Q : VK} : (fun x H1 => (V.ref a = V.ref a ∧ rPin neg x H1 Q)) = fun x H1 => rPin neg x H1 Q := by
  funext x H1
  exact propext ⟨fun z => z.2, fun z => ⟨rfl, z⟩⟩
theorem pt_inPow {X : Cx} {e : Expr} {te : TE} {pos j : Pos} {a : Addr} (h : PowK X.K a) (hg : Gl X "POWERS") (hm : X.mg "POWERS" = some (.ref a)) (he : PE X e te) : PT X (.Compare e [.In] [.Name "POWERS" j] pos) (tTest (tUn (rPin false) te)) :=
  pt_imp (pt_cmpR (op_inPow h) he (pe_glob (v := .ref a) hg hm rfl) rfl) fun σ H Q q => by
    have q : te σ H fun x H1 => rPin false x H1 fun x H' => ∃ k, x = V.bl k ∧ Q k H' := q
    show te σ H fun x H1 => (V.ref a = .ref a ∧ rPin false x H1 fun x H' => ∃ k, x = V.bl k ∧ Q k H')
    rw [drop_eq]
    exact q
theorem pt_ninPow {X : Cx} {e : Expr} {te : TE} {pos j : Pos} {a : Addr} (h : PowK X.K a) (hg : Gl X "POWERS") (hm : X.mg "POWERS" = some (.ref a)) (he : PE X e te) : PT X (.Compare e [.NotIn] [.Name "POWERS" j] pos) (tTest (tUn (rPin true) te)) :=
  pt_imp (pt_cmpR (op_ninPow h) he (pe_glob (v := .ref a) hg hm rfl) rfl) fun σ H Q q => by
    have q : te σ H fun x H1 => rPin true x H1 fun x H' => ∃ k, x = V.bl k ∧ Q k H' := q
    show te σ H fun x H1 => (V.ref a = .ref a ∧ rPin true x H1 fun x H' => ∃ k, x = V.bl k ∧ Q k H')
    rw [drop_eq]
    exact q
/-- POWERS[e] -/
theorem pe_pow {j : Pos} (h : PowK X.K a) (hg : Gl X "POWERS") (hm : X.mg "POWERS" = some (.ref a)) (he : PE X e te) (hs : NoSl e := by intro _ _; rfl) : PE X (.Subscript (.Name "POWERS" j) e pos) (tUn (rPget X.K) te) := by
  refine ⟨fun pins s σ H Q I q => ?_⟩
  have pg : PE X (.Name "POWERS" j) (tC (.ref a)) := pe_glob (v := .ref a) hg hm rfl
  refine subD_of PySem.F.slot_dict_getitem.lookup hs (thn (pg.run pins s σ H (fun x H1 => x = .ref a ∧ H1 = H) I ⟨rfl, rfl⟩) fun u s1 ⟨x, H1, I1, rx, ex, eh⟩ => ?_)
  subst ex
  subst eh
  obtain rfl : u = Value.ref a := rx
  refine thn (he.run pins s1 σ H1 _ I1 q) fun iv s2 ⟨y, H2, I2, ry, n, ns, ey, hn, q2⟩ => ?_
  subst ey
  obtain ⟨t, rfl⟩ := ry
  obtain ⟨f, hf, hv⟩ := h.map (P := X.prog) (w := X.w) I2.kIn
  have z := hv n
  rw [hn] at z
  obtain ⟨b, z1, z2⟩ := z
  obtain ⟨o, es, m, h1, h2, h3, _, _⟩ := h
  refine ⟨⟨o, I2.kIn _ _ h1, h2.1⟩, wpAny_getItem_of (k := n) (by simp [PySem.intKind, Value.isInt]) hf z1 ?_⟩
  exact ⟨.ref b, H2, I2.tok _, rfl, q2 b (tupA_ok z2 H2).1 (tupA_ok z2 H2).2⟩
end
section
variable {K : PySem.W.Frag} {ρ : Ro} {te : TE}
theorem r1_pin {neg : Bool} {q : Int} : Rd1 K (rPin neg) (.int q) (.bool (if neg then !isPow q else isPow q)) := fun v D H s p Q k => by
  rw [dp_int p]
  exact ⟨q, rfl, k _ D H (Stp.rfl' s) (.bl _)⟩
end

/-! ### isinstance(e, T), T a built-in class -/
section
variable {K : PySem.W.Frag} {ρ : Ro} {te : TE}
theorem tyx_int {H : Hp} {v : V} {i : Int} (h : Dp K H v (.int i)) : TyX K H v (.type "int") := by
  rw [dp_int h]
  exact .base (.int i)
theorem tyx_tup {H : Hp} {v : V} {ds : List PyData} (h : Dp K H v (.tuple ds)) : TyX K H v (.type "tuple") := by
  obtain ⟨a, xs, rfl, h1, _⟩ := dp_tup h
  rcases h1 with (h1 | ⟨o, h1⟩) | ⟨o, its, n, h1, h2, _⟩
  · exact .base (.tup h1)
  · exact .fTuple h1
  · exact .kTuple h1 h2
theorem ed_is {x : PyData} {a T : String} {b : Bool} (h : Ed K te ρ x) (ht : ∀ H v, Dp K H v x → TyX K H v (.type a)) (hb : kitB a T = some b) : Ed K (tCB (rIsi K) (tCons te (tCons (tC (.ty T)) tNil))) ρ (.bool b) := fun σ D H0 H s sl Q q =>
  h σ D H0 H s sl _ fun v D1 H1 t1 p1 => ⟨v, .ty T, .type a, .type T, b, rfl, .ty T, ht _ _ (dpX t1.s p1), kit_ty hb, q _ D1 H1 t1 (.bl b)⟩
theorem ed_isII {i : Int} (h : Ed K te ρ (.int i)) : Ed K (tCB (rIsi K) (tCons te (tCons (tC (.ty "int")) tNil))) ρ (.bool true) := ed_is h (fun _ _ => tyx_int) (by decide +kernel)
theorem ed_isIB {i : Int} (h : Ed K te ρ (.int i)) : Ed K (tCB (rIsi K) (tCons te (tCons (tC (.ty "bool")) tNil))) ρ (.bool false) := ed_is h (fun _ _ => tyx_int) (by decide +kernel)
theorem ed_isTT {ds : List PyData} (h : Ed K te ρ (.tuple ds)) : Ed K (tCB (rIsi K) (tCons te (tCons (tC (.ty "tuple")) tNil))) ρ (.bool true) := ed_is h (fun _ _ => tyx_tup) (by decide +kernel)
end
/-! ### t.index(n) -/
section
variable {X : Cx} {K : PySem.W.Frag}
def rTidx (K : PySem.W.Frag) : V → List V → Hp → VK → Prop := fun x xs H Q => ∃ (a : Addr) (ns : List Int) (k : Int), x = .ref a ∧ xs = [.int k] ∧ SqT K H a (ns.map V.int) ∧ k ∈ ns ∧ Q (.int (ns.idxOf k : Nat)) H
theorem ints_of : ∀ {ns : List Int} {us : List Value}, Vals (ns.map V.int) us → IntsAre us ns
  | [], _, h => by cases h; exact .nil
  | n :: ns, _, h => by
    cases h with
    | cons r t =>
      obtain ⟨tk, rfl⟩ := r
      exact .cons n tk (ints_of t)
theorem mt_tidx : MtR X "tuple.index" (rTidx X.K) := by
  intro pins s σ H x xs v us Q I rx rs h
  obtain ⟨a, ns, k, rfl, rfl, hq, hk, q⟩ := h
  cases rx
  obtain ⟨u, rfl, t, rfl⟩ := vals1 rs
  obtain ⟨its, r, pl, hz⟩ := I.tuple hq
  exact PySem.SeqAt.tuple_index_ints pl (ints_of r) hk ⟨.int _, H, I.tok _, ⟨_, rfl⟩, q⟩
end
end K19

/-! TEXT K19T -/
set_option Elab.async false
set_option linter.all false
set_option maxRecDepth 100000
set_option maxHeartbeats 2000000
set_option autoImplicit false
/-! What the top gives, for every def's proof. -/
namespace K19
open PySem PySem.Spec PyProof.Rows L2
open Evl (Ex)
structure Top (K : PySem.W.Frag) (mg : Str → Option Value) : Prop where
  def_ : ∀ (i : Nat) (d : He.DefD), fn[i]? = some d → ∃ f fd, mg d.name = some (.ref f) ∧ FunD K d.name d.qual d.params d.body d.scope (d.dvs K) (d.kws K) f fd
  free : ∀ (i : Nat) (x : Str), fr[i]? = some (.free x) → mg x = none
  pow : ∃ a, mg "POWERS" = some (.ref a) ∧ PowK K a
  nth : ∃ a, mg "NOTHING" = some (.ref a) ∧ ∀ H, Dp K H (.ref a) (.tuple [.int (-1), .tuple [], .tuple [], .tuple [.int 1, .int 0, .int 0, .int 0, .int 1, .int 0]])
theorem fa_eq : fa = fn.map (fun d => He.Fa.glo d.name) ++ (fo ++ fr) := rfl
theorem fn_at : ∀ d ∈ fn, d.at_ = (d.name, none) := by
  have h : (fn.map fun d => d.at_) = fn.map fun d => (d.name, none) := rfl
  intro d hd
  obtain ⟨i, hi, e⟩ := List.mem_iff_getElem.mp hd
  have h2 : (fn.map fun d => d.at_)[i]? = (fn.map fun d => (d.name, none))[i]? := by rw [h]
  rw [List.getElem?_map, List.getElem?_map, List.getElem?_eq_getElem hi, e] at h2
  exact Option.some.inj h2
theorem notA_ok {K : PySem.W.Frag} (h : notA K = true) (H : Hp) : Dp K H (.ref (He.ga K "NOTHING")) (.tuple [.int (-1), .tuple [], .tuple [], .tuple [.int 1, .int 0, .int 0, .int 0, .int 1, .int 0]]) := by
  unfold notA at h
  cases q : K.lookup (He.ga K "NOTHING") with
  | none => rw [q] at h; cases h
  | some o =>
    obtain ⟨oc, od, dt, osl⟩ := o
    rw [q] at h
    cases oc with
    | type c =>
      cases od with
      | none =>
        cases dt with
        | seq its n =>
          obtain ⟨h1, h2⟩ := He.ba (show (decide (c = "tuple") && (match its.toList with
            | [.int i _, .ref b, .ref t, .ref m] => decide (i = -1) && (tupA K b [] && (tupA K t [] && tupA K m [1, 0, 0, 0, 1, 0]))
            | _ => false)) = true from h)
          split at h2
          · rename_i i tk b t m e
            obtain ⟨h3, h4⟩ := He.ba h2
            obtain ⟨h5, h6⟩ := He.ba h4
            obtain ⟨h7, h8⟩ := He.ba h6
            have ei : i = -1 := of_decide_eq_true h3
            refine .tup (.inr ⟨_, its, n, q, congrArg Value.type (of_decide_eq_true h1), rfl, ?_, ?_⟩) (.cons (.int _) (.cons (.tup (xs := []) (tupA_ok h5 H).1 .nil) (.cons (.tup (xs := []) (tupA_ok h7 H).1 .nil) (.cons (.tup (tupA_ok h8 H).1 (dpA_of_ints [1, 0, 0, 0, 1, 0])) .nil))))
            · rw [← Array.length_toList, e]
              show 4 ≤ sizeLine
              decide
            · rw [e, ei]
              exact .cons ⟨_, rfl⟩ (.cons rfl (.cons rfl (.cons rfl .nil)))
          · cases h2
        | _ => cases h
      | some d => cases dt <;> cases h
    | _ => cases od <;> cases dt <;> cases h
theorem top_of {K : PySem.W.Frag} {h : Heap} {mg : Str → Option Value} (T : Told K) (X : K.In h) (G : h.Ns mainGlobals mg) : Top K mg := by
  have hx := He.ba (show (powA K && notA K) = true from T.x)
  refine ⟨fun i d e => ?_, fun i x e => ?_, ?_, ?_⟩
  · obtain ⟨fd, F⟩ := T.d.def_ i e
    have hd : d ∈ fn := List.mem_of_getElem? e
    have ha := fn_at d hd
    have hf : (He.Fa.glo d.name).ok K = true := He.SaysD.facts T.d (by
      rw [fa_eq]
      exact List.mem_append_left _ (List.mem_map.mpr ⟨d, hd, rfl⟩))
    refine ⟨He.fAd K d.at_, fd, ?_, F⟩
    rw [ha]
    exact He.glo_ok X G hf
  · exact He.free_ok X G (He.SaysD.facts T.d (by
      rw [fa_eq]
      exact List.mem_append_right _ (List.mem_append_right _ (List.mem_of_getElem? e))))
  · exact ⟨_, He.glo_ok X G (He.SaysD.facts T.d (by
      rw [fa_eq]
      exact List.mem_append_right _ (List.mem_append_left _ (List.mem_cons_self)))), powA_ok hx.1⟩
  · exact ⟨_, He.glo_ok X G (He.SaysD.facts T.d (by
      rw [fa_eq]
      exact List.mem_append_right _ (List.mem_append_left _ (List.mem_cons_of_mem _ List.mem_cons_self)))), notA_ok hx.2⟩
end K19

/-! TEXT K19W1 -/
set_option Elab.async false
set_option linter.all false
set_option maxRecDepth 100000
set_option maxHeartbeats 4000000
set_option autoImplicit false
/-! The walks, 1: the fields. -/
namespace K19
open PySem PySem.Spec PyProof.Rows L2
open Evl (Ex)
inductive R_plus : List PyData → PyData → Prop
  | mk (q : Nat) [Fld q] (a b : F q) : R_plus [.int q, .int a.v, .int b.v] (.int (a + b).v)
inductive R_opposite : List PyData → PyData → Prop
  | mk (q : Nat) [Fld q] (a : F q) : R_opposite [.int q, .int a.v] (.int (-a).v)
inductive R_minus : List PyData → PyData → Prop
  | mk (q : Nat) [Fld q] (a b : F q) : R_minus [.int q, .int a.v, .int b.v] (.int (a - b).v)
inductive R_times : List PyData → PyData → Prop
  | mk (q : Nat) [Fld q] (a b : F q) : R_times [.int q, .int a.v, .int b.v] (.int (a * b).v)
theorem cdiv {a b : Int} (h : 0 < b := by decide) (h' : b < 1073741824 := by decide) : CDiv a b := ⟨h, h'⟩
theorem cmulR {a b : Int} (h : -(2 ^ 64) < b := by decide) (h' : b < 2 ^ 64 := by decide) : CMul a b := .inr ⟨h, h'⟩
theorem cmulL {a b : Int} (h : -(2 ^ 64) < a := by decide) (h' : a < 2 ^ 64 := by decide) : CMul a b := .inl ⟨h, h'⟩
theorem cmulN {n : Nat} {b : Int} (h : n < 1000000) : CMul (n : Int) b := .inl ⟨Int.lt_of_lt_of_le (by decide : (-(2 ^ 64) : Int) < 0) (by omega), Int.lt_of_lt_of_le (show (n : Int) < 1000000 by omega) (by decide)⟩
theorem nbF {b : Bool} (h : (!b) = false) : b = true := by cases b <;> first | rfl | cases h
theorem nbT {b : Bool} (h : (!b) = true) : b = false := by cases b <;> first | rfl | cases h
/-- which fields POWERS knows -/
theorem isPow_iff {q : Nat} : isPow (q : Int) = decide (q = 4 ∨ q = 8 ∨ q = 9 ∨ q = 16) := by
  unfold isPow powL powT
  simp only [List.find?_cons]
  have e : ∀ n : Nat, decide (((n : Nat) : Int) = (q : Int)) = decide (q = n) := fun n => by
    by_cases h : q = n
    · subst h; simp
    · rw [decide_eq_false h, decide_eq_false]
      omega
  have e4 := e 4
  have e8 := e 8
  have e9 := e 9
  have e16 := e 16
  simp only [Int.cast_ofNat_Int] at e4 e8 e9 e16
  rw [e4, e8, e9, e16]
  by_cases h4 : q = 4
  · simp [h4]
  · by_cases h8 : q = 8
    · simp [h8]
    · by_cases h9 : q = 9
      · simp [h9]
      · by_cases h16 : q = 16
        · simp [h16]
        · simp [h4, h8, h9, h16]
theorem rt_int {i j : Int} (h : i = j) : Rs.rt (.int i) = Rs.rt (.int j) := by rw [h]
section
variable {P : Program} {w : World} {K : PySem.W.Frag} {mg : Str → Option Value} {base : Heap}
abbrev N_plus : List Str := ["q", "a", "b"]
theorem sc_plus : FnScope N_plus ["q", "a", "b"] (defScope s_plus) := ⟨rfl, rfl, rfl, by decide +kernel, rfl, by decide +kernel, by decide +kernel⟩
theorem ok_plus (T : Top K mg) : Has P w K mg base 1 "plus" ["q", "a", "b"] (spR K R_plus) := by
  obtain ⟨f, fd, g, Fd⟩ := T.def_ 3 d_plus rfl
  have nd := sc_plus.nd
  obtain ⟨aP, gP, hP⟩ := T.pow
  refine has_of g Fd sc_plus (fun _ _ _ _ _ _ us hl => match us, hl with | [_, _, _], _ => rfl) (fun _ _ h => by cases h <;> rfl) fun cdv A outer s H E hr ds d h => ?_
  refine ⟨_, (pss_cons (ps_if (pt_cmpR op_eq (pv 0) pe_int (nomark _)) (pss_one (ps_ret (pe_op op_add (pe_op op_mul (pe_op op_mod (pe_op op_add (pe_op op_fdiv (pv 1) pe_int) (pe_op op_fdiv (pv 2) pe_int)) pe_int) pe_int) (pe_op op_mod (pe_op op_add (pv 1) (pv 2)) pe_int)))) pss_nil) (pss_one (ps_ret (pe_ifExp (pt_inPow hP rfl gP (pv 0)) (pe_op op_xor (pv 1) (pv 2)) (pe_op op_mod (pe_op op_add (pv 1) (pv 2)) (pv 0)))))), ?_⟩
  cases h with
  | mk q a b =>
  refine run_if (et_test (ed_op (ed_var rfl) ed_int rd_eqI)) (fun e => ?_) (fun e => ?_)
  · have eq : q = 9 := by
      have := of_decide_eq_true e
      omega
    subst eq
    refine (run_ret (ed_op (ed_op (ed_op (ed_op (ed_op (ed_var rfl) ed_int (rd_I cdiv fun _ => .int _)) (ed_op (ed_var rfl) ed_int (rd_I cdiv fun _ => .int _)) (rd_I0 fun _ => .int _)) ed_int (rd_I (by decide) fun _ => .int _)) ed_int (rd_I cmulR fun _ => .int _)) (ed_op (ed_op (ed_var rfl) (ed_var rfl) (rd_I0 fun _ => .int _)) ed_int (rd_I (by decide) fun _ => .int _)) (rd_I0 fun _ => .int _))).to (rt_int ?_)
    rw [F.add_v]
    simp only [plusN, if_true]
    omega
  · have n9 : q ≠ 9 := by
      have := of_decide_eq_false e
      omega
    refine run_next (run_last (run_ret (ed_if (b := isPow q) (et_test (ed_un (ed_var rfl) r1_pin)) (fun e => ?_) (fun e => ?_))))
    · rw [isPow_iff] at e
      have e := of_decide_eq_true e
      refine (ed_op (ed_var rfl) (ed_var rfl) (rd_I0 fun _ => .int _)).to ?_
      rw [Bits.bitXor_pp (by omega) (by omega), F.add_v]
      have e3 : q = 4 ∨ q = 8 ∨ q = 16 := by omega
      simp only [plusN, if_neg n9, if_pos e3, Int.toNat_natCast]
    · rw [isPow_iff] at e
      have e := of_decide_eq_false e
      have hq := (q_bd (q := q)).1
      refine (ed_op (ed_op (ed_var rfl) (ed_var rfl) (rd_I0 fun _ => .int _)) (ed_var rfl) (rd_I (by omega) fun _ => .int _)).to ?_
      rw [F.add_v]
      have e3 : ¬ (q = 4 ∨ q = 8 ∨ q = 16) := by omega
      simp only [plusN, if_neg n9, if_neg e3]
      simp
abbrev N_opposite : List Str := ["q", "a"]
theorem sc_opposite : FnScope N_opposite ["q", "a"] (defScope s_opposite) := ⟨rfl, rfl, rfl, by decide +kernel, rfl, by decide +kernel, by decide +kernel⟩
theorem ok_opposite (T : Top K mg) : Has P w K mg base 1 "opposite" ["q", "a"] (spR K R_opposite) := by
  obtain ⟨f, fd, g, Fd⟩ := T.def_ 4 d_opposite rfl
  have nd := sc_opposite.nd
  obtain ⟨aP, gP, hP⟩ := T.pow
  refine has_of g Fd sc_opposite (fun _ _ _ _ _ _ us hl => match us, hl with | [_, _], _ => rfl) (fun _ _ h => by cases h <;> rfl) fun cdv A outer s H E hr ds d h => ?_
  refine ⟨_, (pss_cons (ps_if (pt_cmpR op_eq (pv 0) pe_int (nomark _)) (pss_one (ps_ret (pe_op op_add (pe_op op_mul (pe_op op_mod (pe_op op_sub pe_int (pe_op op_fdiv (pv 1) pe_int)) pe_int) pe_int) (pe_op op_mod (pe_op op_sub pe_int (pv 1)) pe_int)))) pss_nil) (pss_one (ps_ret (pe_ifExp (pt_inPow hP rfl gP (pv 0)) (pv 1) (pe_op op_mod (pe_op op_sub pe_int (pv 1)) (pv 0)))))), ?_⟩
  cases h with
  | mk q a =>
  have ha := a.h
  refine run_if (et_test (ed_op (ed_var rfl) ed_int rd_eqI)) (fun e => ?_) (fun e => ?_)
  · have eq : q = 9 := by
      have := of_decide_eq_true e
      omega
    subst eq
    refine (run_ret (ed_op (ed_op (ed_op (ed_op ed_int (ed_op (ed_var rfl) ed_int (rd_I cdiv fun _ => .int _)) (rd_I0 fun _ => .int _)) ed_int (rd_I (by decide) fun _ => .int _)) ed_int (rd_I cmulR fun _ => .int _)) (ed_op (ed_op ed_int (ed_var rfl) (rd_I0 fun _ => .int _)) ed_int (rd_I (by decide) fun _ => .int _)) (rd_I0 fun _ => .int _))).to (rt_int ?_)
    rw [F.neg_v]
    simp only [oppN, if_true]
    omega
  · have n9 : q ≠ 9 := by
      have := of_decide_eq_false e
      omega
    refine run_next (run_last (run_ret (ed_if (b := isPow q) (et_test (ed_un (ed_var rfl) r1_pin)) (fun e => ?_) (fun e => ?_))))
    · rw [isPow_iff] at e
      have e := of_decide_eq_true e
      refine (ed_var rfl).to ?_
      have e3 : q = 4 ∨ q = 8 ∨ q = 16 := by omega
      rw [F.neg_v]
      simp only [oppN, if_neg n9, if_pos e3]
    · rw [isPow_iff] at e
      have e := of_decide_eq_false e
      have hq := (q_bd (q := q)).1
      refine (ed_op (ed_op ed_int (ed_var rfl) (rd_I0 fun _ => .int _)) (ed_var rfl) (rd_I (by omega) fun _ => .int _)).to ?_
      have e3 : ¬ (q = 4 ∨ q = 8 ∨ q = 16) := by omega
      rw [F.neg_v]
      simp only [oppN, if_neg n9, if_neg e3]
      have e4 : ((q - a.v : Nat) : Int) = (0 - (a.v : Int)) + (q : Int) := by omega
      rw [Int.natCast_emod, e4, Int.add_emod_right]
abbrev N_minus : List Str := ["q", "a", "b"]
theorem sc_minus : FnScope N_minus ["q", "a", "b"] (defScope s_minus) := ⟨rfl, rfl, rfl, by decide +kernel, rfl, by decide +kernel, by decide +kernel⟩
theorem ok_minus (T : Top K mg) : Has P w K mg base 2 "minus" ["q", "a", "b"] (spR K R_minus) := by
  obtain ⟨f, fd, g, Fd⟩ := T.def_ 5 d_minus rfl
  have nd := sc_minus.nd
  have h_plus := ok_plus (P := P) (w := w) (base := base) T
  have h_opposite := ok_opposite (P := P) (w := w) (base := base) T
  refine has_of g Fd sc_minus (fun _ _ _ _ _ _ us hl => match us, hl with | [_, _, _], _ => rfl) (fun _ _ h => by cases h <;> rfl) fun cdv A outer s H E hr ds d h => ?_
  refine ⟨_, (pss_one (ps_ret (pe_callH h_plus hr (by decide) rfl (pa_cons (pv 0) (pa_cons (pv 1) (pa_cons (pe_callH h_opposite hr (by decide) rfl (pa_cons (pv 0) (pa_cons (pv 2) pa_nil))) pa_nil)))))), ?_⟩
  cases h with
  | mk q a b =>
  exact run_last (run_ret (ed_call (ea_cons (ed_var rfl) (ea_cons (ed_var rfl) (ea_cons (ed_call (ea_cons (ed_var rfl) (ea_cons (ed_var rfl) ea_nil)) (.mk q b)) ea_nil))) (.mk q a (-b))))
theorem powL_N {q : Nat} (h : q = 4 ∨ q = 8 ∨ q = 9 ∨ q = 16) : powL (q : Int) = some ((powN q).map fun n : Nat => (n : Int)) := by
  rcases h with h | h | h | h
  all_goals
    subst h
    decide +kernel
theorem idx_map (l : List Nat) (n : Nat) : (l.map fun n : Nat => (n : Int)).idxOf (n : Int) = l.idxOf n := by
  induction l with
  | nil => rfl
  | cons a l ih =>
    rw [List.map_cons, List.idxOf_cons, List.idxOf_cons, ih]
    by_cases h : a = n
    · subst h; simp
    · have h1 : (a == n) = false := by simpa using h
      have h2 : (((a : Nat) : Int) == (n : Int)) = false := by
        simp
        omega
      rw [h1, h2]
theorem ck_pow : (fields.all fun q => !(q = 4 ∨ q = 8 ∨ q = 9 ∨ q = 16 : Bool) || (Nat.beq (powN q).length (q - 1) && (List.range q).all fun a => Nat.beq a 0 || (powN q).contains a)) = true := by decide +kernel
theorem pow_len {q : Nat} [Fld q] (h : q = 4 ∨ q = 8 ∨ q = 9 ∨ q = 16) : (powN q).length = q - 1 := by
  rcases h with h | h | h | h
  all_goals
    subst h
    rfl
theorem pow_has {q : Nat} [Fld q] (h : q = 4 ∨ q = 8 ∨ q = 9 ∨ q = 16) {a : Nat} (ha : a < q) (h0 : a ≠ 0) : a ∈ powN q := by
  have k := fld_all (q := q) ck_pow
  rw [Bool.or_eq_true] at k
  rcases k with k | k
  · simp [h] at k
  · have k := List.all_eq_true.mp (ba2 k).2 a (List.mem_range.mpr ha)
    rw [Bool.or_eq_true] at k
    rcases k with k | k
    · exact absurd (Nat.eq_of_beq_eq_true k) h0
    · simpa using k
abbrev N_times : List Str := ["q", "a", "b", "powers"]
theorem sc_times : FnScope N_times ["q", "a", "b"] (defScope s_times) := ⟨rfl, rfl, rfl, by decide +kernel, rfl, by decide +kernel, by decide +kernel⟩
theorem ok_times (T : Top K mg) : Has P w K mg base 1 "times" ["q", "a", "b"] (spR K R_times) := by
  obtain ⟨f, fd, g, Fd⟩ := T.def_ 6 d_times rfl
  have nd := sc_times.nd
  obtain ⟨aP, gP, hP⟩ := T.pow
  refine has_of g Fd sc_times (fun _ _ _ _ _ _ us hl => match us, hl with | [_, _, _], _ => rfl) (fun _ _ h => by cases h <;> rfl) fun cdv A outer s H E hr ds d h => ?_
  refine ⟨_, (pss_cons (ps_if (pt_ninPow hP rfl gP (pv 0)) (pss_one (ps_ret (pe_op op_mod (pe_op op_mul (pv 1) (pv 2)) (pv 0)))) pss_nil) (pss_cons (ps_if (PW.pt (pw_or (pt_cmpR op_eq (pv 1) pe_int (nomark _)) (pw_or1 (pt_cmpR op_eq (pv 2) pe_int (nomark _))))) (pss_one (ps_ret pe_int)) pss_nil) (pss_cons (ps_set (i := 3) nd rfl (Or.inl rfl) (pe_pow hP rfl gP (pv 0))) (pss_one (ps_ret (pe_ix ix_tup (pv 3) (pe_op op_mod (pe_op op_add (pe_bm PySem.F.plainAttrs_tuple PySem.F.slot_tuple_index PySem.F.type_tuple_index mt_tidx (pv 3) (pa_cons (pv 1) pa_nil)) (pe_bm PySem.F.plainAttrs_tuple PySem.F.slot_tuple_index PySem.F.type_tuple_index mt_tidx (pv 3) (pa_cons (pv 2) pa_nil))) (pe_op op_sub (pv 0) pe_int)) (fun _ _ => rfl))))))), ?_⟩
  cases h with
  | mk q a b =>
  have hq := q_bd (q := q)
  refine run_if (b := !isPow q) (et_test (ed_un (ed_var rfl) r1_pin)) (fun e => ?_) (fun e => ?_)
  · rw [isPow_iff] at e
    have e3 : ¬ (q = 4 ∨ q = 8 ∨ q = 9 ∨ q = 16) := by simpa using e
    refine (run_ret (ed_op (ed_op (ed_var rfl) (ed_var rfl) (rd_I (cmulN (by have := a.h; omega)) fun _ => .int _)) (ed_var rfl) (rd_I (by omega) fun _ => .int _))).to (rt_int ?_)
    rw [F.mul_v]
    simp only [timesN, if_neg e3]
    simp
  · rw [isPow_iff] at e
    have e3 : q = 4 ∨ q = 8 ∨ q = 9 ∨ q = 16 := of_decide_eq_true (nbF e)
    refine run_next (run_if (et_or (et_test (ed_op (ed_var rfl) ed_int rd_eqI)) fun _ => et_test (ed_op (ed_var rfl) ed_int rd_eqI)) (fun e => ?_) (fun e => ?_))
    · have e4 : a.v = 0 ∨ b.v = 0 := by
        rw [Bool.or_eq_true] at e
        rcases e with e | e
        · have := of_decide_eq_true e
          omega
        · have := of_decide_eq_true e
          omega
      refine (run_ret ed_int).to (rt_int ?_)
      rw [F.mul_v]
      simp only [timesN, if_pos e3, if_pos e4]
      rfl
    · have e4 : ¬ (a.v = 0 ∨ b.v = 0) := by
        rw [Bool.or_eq_false_iff] at e
        have h1 := of_decide_eq_false e.1
        have h2 := of_decide_eq_false e.2
        omega
      refine run_next fun σ H0 D H E t0 sl k => ?_
      obtain ⟨v0, s0, p0⟩ := sl.at_ 0 _ rfl
      obtain ⟨v1, s1, p1⟩ := sl.at_ 1 _ rfl
      obtain ⟨v2, s2, p2⟩ := sl.at_ 2 _ rfl
      rw [dp_int p0] at s0
      rw [dp_int p1] at s1
      rw [dp_int p2] at s2
      have hl : 3 < σ.length := by
        rw [sl.len]
        exact (by decide : 3 < 4)
      refine ⟨_, s0, _, _, rfl, powL_N e3, fun t ht kt => ?_⟩
      have g0 : (σ.set 3 (some (V.ref t)))[0]? = some (some (.int q)) := by rw [List.getElem?_set_ne (by decide)]; exact s0
      have g1 : (σ.set 3 (some (V.ref t)))[1]? = some (some (.int a.v)) := by rw [List.getElem?_set_ne (by decide)]; exact s1
      have g2 : (σ.set 3 (some (V.ref t)))[2]? = some (some (.int b.v)) := by rw [List.getElem?_set_ne (by decide)]; exact s2
      have g3 : (σ.set 3 (some (V.ref t)))[3]? = some (some (.ref t)) := List.getElem?_set_self hl
      have m1 : ((a.v : Nat) : Int) ∈ (powN q).map fun n : Nat => (n : Int) := List.mem_map.mpr ⟨_, pow_has e3 a.h (by omega), rfl⟩
      have m2 : ((b.v : Nat) : Int) ∈ (powN q).map fun n : Nat => (n : Int) := List.mem_map.mpr ⟨_, pow_has e3 b.h (by omega), rfl⟩
      refine ⟨_, g3, _, g3, .inr (.inl ⟨rfl, kt⟩), _, g1, t, _, _, rfl, rfl, ht, m1, _, g3, .inr (.inl ⟨rfl, kt⟩), _, g2, t, _, _, rfl, rfl, ht, m2, _, _, rfl, rfl, _, g0, _, _, rfl, rfl, _, _, rfl, rfl, (by show (0 : Int) < (q : Int) - 1; omega), t, _, _, .int ((timesN q a.v b.v : Nat) : Int), rfl, rfl, ht, ?_, k _ D H t0 (by rw [F.mul_v]; exact .int _)⟩
      rw [idx_map, idx_map]
      have e5 : ((((powN q).idxOf a.v : Nat) : Int) + (((powN q).idxOf b.v : Nat) : Int)) % ((q : Int) - 1) = ((((powN q).idxOf a.v + (powN q).idxOf b.v) % (q - 1) : Nat) : Int) := by
        have : ((q : Int) - 1) = ((q - 1 : Nat) : Int) := by omega
        rw [this]
        simp
      rw [e5]
      refine atI_nat ?_
      have hlt : ((powN q).idxOf a.v + (powN q).idxOf b.v) % (q - 1) < (powN q).length := by
        rw [pow_len e3]
        exact Nat.mod_lt _ (by omega)
      rw [List.getElem?_map, List.getElem?_map, List.getElem?_eq_getElem hlt]
      simp only [timesN, if_pos e3, if_neg e4, List.getD_eq_getElem?_getD, List.getElem?_eq_getElem hlt]
      rfl
inductive R_power : List PyData → PyData → Prop
  | mk (q : Nat) [Fld q] (a : F q) (e : Nat) : R_power [.int q, .int a.v, .int e] (.int (a ^ e).v)
/-- the turns of power -/
def pwT {q : Nat} [Fld q] (s : F q × F q × Nat) : Nat → F q × F q × Nat
  | 0 => s
  | n + 1 => let t := pwT s n; (if t.2.2 % 2 = 1 then t.1 * t.2.1 else t.1, t.2.1 * t.2.1, t.2.2 / 2)
theorem pwT_left {q : Nat} [Fld q] (s : F q × F q × Nat) : ∀ n, (pwT s n).2.2 = s.2.2 / 2 ^ n
  | 0 => by simp [pwT]
  | n + 1 => by
    show (pwT s n).2.2 / 2 = _
    rw [pwT_left s n, Nat.pow_succ, Nat.div_div_eq_div_mul]
theorem F.pow_add {q : Nat} [Fld q] (a : F q) (m : Nat) : ∀ n, a ^ (m + n) = a ^ m * a ^ n
  | 0 => (F.mul_one' _).symm
  | n + 1 => by
    show a ^ (m + n) * a = a ^ m * (a ^ n * a)
    rw [F.pow_add a m n, F.mul_assoc']
theorem F.pow_two {q : Nat} [Fld q] (a : F q) : ∀ n, (a * a) ^ n = a ^ (2 * n)
  | 0 => rfl
  | n + 1 => by
    show (a * a) ^ n * (a * a) = a ^ (2 * n + 1) * a
    rw [F.pow_two a n]
    show _ = a ^ (2 * n) * a * a
    rw [F.mul_assoc']
theorem pwT_inv {q : Nat} [Fld q] (s : F q × F q × Nat) : ∀ n, (pwT s n).1 * (pwT s n).2.1 ^ (pwT s n).2.2 = s.1 * s.2.1 ^ s.2.2
  | 0 => rfl
  | n + 1 => by
    rw [← pwT_inv s n]
    show (if (pwT s n).2.2 % 2 = 1 then (pwT s n).1 * (pwT s n).2.1 else (pwT s n).1) * ((pwT s n).2.1 * (pwT s n).2.1) ^ ((pwT s n).2.2 / 2) = _
    generalize (pwT s n).1 = f
    generalize (pwT s n).2.1 = b
    generalize (pwT s n).2.2 = l
    rw [F.pow_two]
    by_cases h : l % 2 = 1
    · rw [if_pos h]
      have e : l = 2 * (l / 2) + 1 := by omega
      have e2 : b ^ l = b ^ (2 * (l / 2)) * b := by
        have e3 : b ^ (2 * (l / 2) + 1) = b ^ (2 * (l / 2)) * b := rfl
        rw [← e3, ← e]
      rw [e2]
      grind
    · rw [if_neg h]
      have e : 2 * (l / 2) = l := by omega
      rw [e]
theorem half_end : ∀ e : Nat, ∃ n, (∀ i, i < n → 0 < e / 2 ^ i) ∧ e / 2 ^ n = 0 := by
  intro e
  induction e using Nat.strongRecOn with
  | ind e ih =>
    by_cases h : e = 0
    · exact ⟨0, fun i hi => absurd hi (Nat.not_lt_zero i), by rw [h]⟩
    · obtain ⟨n, h1, h2⟩ := ih (e / 2) (by omega)
      refine ⟨n + 1, fun i hi => ?_, ?_⟩
      · cases i with
        | zero =>
          rw [Nat.pow_zero, Nat.div_one]
          omega
        | succ i =>
          have := h1 i (by omega)
          rwa [Nat.div_div_eq_div_mul, ← Nat.pow_succ'] at this
      · rw [Nat.div_div_eq_div_mul, ← Nat.pow_succ'] at h2
        exact h2
abbrev N_power : List Str := ["q", "a", "exponent", "found", "base", "left"]
theorem sc_power : FnScope N_power ["q", "a", "exponent"] (defScope s_power) := ⟨rfl, rfl, rfl, by decide +kernel, rfl, by decide +kernel, by decide +kernel⟩
theorem ok_power (T : Top K mg) : Has P w K mg base 2 "power" ["q", "a", "exponent"] (spR K R_power) := by
  obtain ⟨f, fd, g, Fd⟩ := T.def_ 7 d_power rfl
  have nd := sc_power.nd
  have h_times := ok_times (P := P) (w := w) (base := base) T
  refine has_of g Fd sc_power (fun _ _ _ _ _ _ us hl => match us, hl with | [_, _, _], _ => rfl) (fun _ _ h => by cases h <;> rfl) fun cdv A outer s H E hr ds d h => ?_
  refine ⟨_, (pss_cons (ps_par3 (i := 3) (j := 4) (l := 5) rfl nd rfl rfl rfl (by decide) (by decide) (by decide) rfl rfl rfl (pa_cons pe_int (pa_cons (pv 1) (pa_cons (pv 2) pa_nil))) rfl) (pss_cons (ps_while PassesOwn.never (pt_cmpR op_gt (pv 5) pe_int (nomark _)) (pss_cons (ps_if (pt_cmpR op_eq (pe_op op_mod (pv 5) pe_int) pe_int (nomark _)) (pss_one (ps_set (i := 3) nd rfl (Or.inl rfl) (pe_callH h_times hr (by decide) rfl (pa_cons (pv 0) (pa_cons (pv 3) (pa_cons (pv 4) pa_nil)))))) pss_nil) (pss_cons (ps_set (i := 4) nd rfl (Or.inl rfl) (pe_callH h_times hr (by decide) rfl (pa_cons (pv 0) (pa_cons (pv 4) (pa_cons (pv 4) pa_nil))))) (pss_one (ps_set (i := 5) nd rfl (Or.inl rfl) (pe_op op_fdiv (pv 5) pe_int)))))) (pss_one (ps_ret (pv 3))))), ?_⟩
  cases h with
  | mk q a e =>
  obtain ⟨n, n1, n2⟩ := half_end e
  have hq := q_bd (q := q)
  refine run_par3 (ea_cons ed_int (ea_cons (ed_var rfl) (ea_cons (ed_var rfl) ea_nil))) ?_
  refine run_while (fun i => [.dat (.int q), .dat (.int a.v), .dat (.int e), .dat (.int (pwT ((1 : F q), a, e) i).1.v), .dat (.int (pwT ((1 : F q), a, e) i).2.1.v), .dat (.int (pwT ((1 : F q), a, e) i).2.2)]) n ?_ (fun i hi => ⟨?_, ?_⟩) ?_ ?_
  · show _ = [Sd.dat (PyData.int q), .dat (.int a.v), .dat (.int e), .dat (.int 1), .dat (.int a.v), .dat (.int e)]
    have e1 : ((1 : F q).v : Int) = 1 := by rw [F.one_v]; rfl
    show [Sd.dat (PyData.int q), .dat (.int a.v), .dat (.int e), .dat (.int (1 : F q).v), .dat (.int a.v), .dat (.int e)] = _
    rw [e1]
  · refine EdT.to (b := true) (et_test (ed_op (ed_var rfl) ed_int (rd_I0 fun _ => .bl _))) ?_
    have := n1 i hi
    have h2 := pwT_left ((1 : F q), a, e) i
    have h3 : (pwT ((1 : F q), a, e) i).2.2 = e / 2 ^ i := h2
    rw [h3]
    exact decide_eq_true (by omega)
  · refine run_if (et_test (ed_op (ed_op (ed_var rfl) ed_int (rd_I (by decide) fun _ => .int _)) ed_int rd_eqI)) (fun c => ?_) (fun c => ?_)
    · have c := of_decide_eq_true c
      refine run_set (ed_call (ea_cons (ed_var rfl) (ea_cons (ed_var rfl) (ea_cons (ed_var rfl) ea_nil))) (.mk q _ _)) (run_set (ed_call (ea_cons (ed_var rfl) (ea_cons (ed_var rfl) (ea_cons (ed_var rfl) ea_nil))) (.mk q _ _)) (run_last (run_set (ed_op (ed_var rfl) ed_int (rd_I cdiv fun _ => .int _)) (run_end.to ?_))))
      have c2 : (pwT ((1 : F q), a, e) i).2.2 % 2 = 1 := by omega
      simp only [pwT, if_pos c2]
      rfl
    · have c := of_decide_eq_false c
      refine run_next (run_set (ed_call (ea_cons (ed_var rfl) (ea_cons (ed_var rfl) (ea_cons (ed_var rfl) ea_nil))) (.mk q _ _)) (run_last (run_set (ed_op (ed_var rfl) ed_int (rd_I cdiv fun _ => .int _)) (run_end.to ?_))))
      have c2 : ¬ (pwT ((1 : F q), a, e) i).2.2 % 2 = 1 := by omega
      simp only [pwT, if_neg c2]
      rfl
  · refine EdT.to (b := false) (et_test (ed_op (ed_var rfl) ed_int (rd_I0 fun _ => .bl _))) ?_
    have h2 := pwT_left ((1 : F q), a, e) n
    have h3 : (pwT ((1 : F q), a, e) n).2.2 = e / 2 ^ n := h2
    rw [h3, n2]
    exact decide_eq_false (by omega)
  · refine (run_last (run_ret (ed_var rfl))).to (rt_int ?_)
    have h1 := pwT_inv ((1 : F q), a, e) n
    have h2 := pwT_left ((1 : F q), a, e) n
    have h3 : (pwT ((1 : F q), a, e) n).2.2 = 0 := h2.trans n2
    rw [h3] at h1
    have h4 : (pwT ((1 : F q), a, e) n).1 = a ^ e := by
      have h5 : (pwT ((1 : F q), a, e) n).1 * 1 = 1 * a ^ e := h1
      rw [F.mul_one', F.mul_comm', F.mul_one'] at h5
      exact h5
    rw [h4]
inductive R_inverse : List PyData → PyData → Prop
  | mk (q : Nat) [Fld q] (a : F q) : R_inverse [.int q, .int a.v] (.int (F.inv a).v)
abbrev N_inverse : List Str := ["q", "a"]
theorem sc_inverse : FnScope N_inverse ["q", "a"] (defScope s_inverse) := ⟨rfl, rfl, rfl, by decide +kernel, rfl, by decide +kernel, by decide +kernel⟩
theorem ok_inverse (T : Top K mg) : Has P w K mg base 3 "inverse" ["q", "a"] (spR K R_inverse) := by
  obtain ⟨f, fd, g, Fd⟩ := T.def_ 8 d_inverse rfl
  have nd := sc_inverse.nd
  have h_power := ok_power (P := P) (w := w) (base := base) T
  refine has_of g Fd sc_inverse (fun _ _ _ _ _ _ us hl => match us, hl with | [_, _], _ => rfl) (fun _ _ h => by cases h <;> rfl) fun cdv A outer s H E hr ds d h => ?_
  refine ⟨_, (pss_one (ps_ret (pe_callH h_power hr (by decide) rfl (pa_cons (pv 0) (pa_cons (pv 1) (pa_cons (pe_op op_sub (pv 0) pe_int) pa_nil)))))), ?_⟩
  cases h with
  | mk q a =>
  have hq := q_bd (q := q)
  refine run_last (run_ret (ed_call (ea_cons (ed_var rfl) (ea_cons (ed_var rfl) (ea_cons ((ed_op (ed_var rfl) ed_int (rd_I0 fun _ => .int _)).to ?_) ea_nil))) (.mk q a (q - 2))))
  have : (q : Int) - 2 = ((q - 2 : Nat) : Int) := by omega
  rw [this]
inductive R_characteristic : List PyData → PyData → Prop
  | mk (q : Nat) : R_characteristic [.int q] (.int (charN q))
abbrev N_characteristic : List Str := ["q", "prime"]
theorem sc_characteristic : FnScope N_characteristic ["q"] (defScope s_characteristic) := ⟨rfl, rfl, rfl, by decide +kernel, rfl, by decide +kernel, by decide +kernel⟩
theorem ok_characteristic (T : Top K mg) : Has P w K mg base 1 "characteristic" ["q"] (spR K R_characteristic) := by
  obtain ⟨f, fd, g, Fd⟩ := T.def_ 1 d_characteristic rfl
  have nd := sc_characteristic.nd
  refine has_of g Fd sc_characteristic (fun _ _ _ _ _ _ us hl => match us, hl with | [_], _ => rfl) (fun _ _ h => by cases h <;> rfl) fun cdv A outer s H E hr ds d h => ?_
  refine ⟨_, (pss_cons (ps_for PassesOwn.never rfl (pi_tup (pe_tup (pa_cons pe_int (pa_cons pe_int pa_nil)))) (pg_name (i := 1) nd rfl (Or.inl rfl)) (pss_one (ps_if (pt_cmpR op_eq (pe_op op_mod (pv 0) (pv 1)) pe_int (nomark _)) (pss_one (ps_ret (pv 1))) pss_nil))) (pss_one (ps_ret (pv 0)))), ?_⟩
  cases h with
  | mk q =>
  have hl : EdI K (iTup K (tTup (tCons (tC (.int 2)) (tCons (tC (.int 3)) tNil)))) [.dat (.int q), .no] [.int 2, .int 3] := ei_tup (ed_tup (ea_cons ed_int (ea_cons ed_int ea_nil)) (Nat.le_of_ble_eq_true rfl))
  by_cases h2 : q % 2 = 0
  · refine (run_forN (d := .int 2) (fun _ => [.dat (.int q), .no]) 0 (by decide) hl rfl (fun i x hi => absurd hi (Nat.not_lt_zero i)) fun x hx => ?_).to (rt_int ?_)
    · cases hx
      refine ⟨_, _, bd_name, run_last (run_yes ((et_test (ed_op (ed_op (ed_var rfl) (ed_var rfl) (rd_I (by decide) fun _ => .int _)) ed_int rd_eqI)).to (decide_eq_true ?_)) (run_ret (ed_var rfl)))⟩
      omega
    · simp only [charN, if_pos h2]
      rfl
  · by_cases h3 : q % 3 = 0
    · refine (run_forN (d := .int 3) (fun i => if i = 0 then [.dat (.int q), .no] else [.dat (.int q), .dat (.int 2)]) 1 (by decide) hl rfl (fun i x hi hx => ?_) fun x hx => ?_).to (rt_int ?_)
      · have e : i = 0 := by omega
        subst e
        cases hx
        refine ⟨_, _, bd_name, run_last (run_no ((et_test (ed_op (ed_op (ed_var rfl) (ed_var rfl) (rd_I (by decide) fun _ => .int _)) ed_int rd_eqI)).to (decide_eq_false ?_)) run_end)⟩
        omega
      · cases hx
        refine ⟨_, _, bd_name, run_last (run_yes ((et_test (ed_op (ed_op (ed_var rfl) (ed_var rfl) (rd_I (by decide) fun _ => .int _)) ed_int rd_eqI)).to (decide_eq_true ?_)) (run_ret (ed_var rfl)))⟩
        omega
      · simp only [charN, if_neg h2, if_pos h3]
        rfl
    · refine run_for (fun i => if i = 0 then [.dat (.int q), .no] else if i = 1 then [.dat (.int q), .dat (.int 2)] else [.dat (.int q), .dat (.int 3)]) hl rfl (fun i x hx => ?_) ?_
      · have hi : i < 2 := (List.getElem?_eq_some_iff.mp hx).1
        have e : i = 0 ∨ i = 1 := by omega
        rcases e with e | e
        all_goals
          subst e
          cases hx
          refine ⟨_, _, bd_name, run_last (run_no ((et_test (ed_op (ed_op (ed_var rfl) (ed_var rfl) (rd_I (by decide) fun _ => .int _)) ed_int rd_eqI)).to (decide_eq_false ?_)) run_end)⟩
          omega
      · refine (run_last (run_ret (ed_var rfl))).to (rt_int ?_)
        simp only [charN, if_neg h2, if_neg h3]
inductive R_multiple : List PyData → PyData → Prop
  | mk (q : Nat) [Fld q] (n : Nat) (a : F q) : R_multiple [.int q, .int n, .int a.v] (.int ((n : F q) * a).v)
abbrev N_multiple : List Str := ["q", "many", "a"]
theorem sc_multiple : FnScope N_multiple ["q", "many", "a"] (defScope s_multiple) := ⟨rfl, rfl, rfl, by decide +kernel, rfl, by decide +kernel, by decide +kernel⟩
theorem ok_multiple (T : Top K mg) : Has P w K mg base 2 "multiple" ["q", "many", "a"] (spR K R_multiple) := by
  obtain ⟨f, fd, g, Fd⟩ := T.def_ 9 d_multiple rfl
  have nd := sc_multiple.nd
  have h_times := ok_times (P := P) (w := w) (base := base) T
  have h_characteristic := ok_characteristic (P := P) (w := w) (base := base) T
  refine has_of g Fd sc_multiple (fun _ _ _ _ _ _ us hl => match us, hl with | [_, _, _], _ => rfl) (fun _ _ h => by cases h <;> rfl) fun cdv A outer s H E hr ds d h => ?_
  refine ⟨_, (pss_one (ps_ret (pe_callH h_times hr (by decide) rfl (pa_cons (pv 0) (pa_cons (pe_op op_mod (pv 1) (pe_callH h_characteristic hr (by decide) rfl (pa_cons (pv 0) pa_nil))) (pa_cons (pv 2) pa_nil)))))), ?_⟩
  cases h with
  | mk q n a =>
  have hq := q_bd (q := q)
  refine run_last (run_ret (ed_call (ea_cons (ed_var rfl) (ea_cons ((ed_op (ed_var rfl) (ed_call (ea_cons (ed_var rfl) ea_nil) (.mk q)) (rd_I (by omega) fun _ => .int _)).to ?_) (ea_cons (ed_var rfl) ea_nil))) (.mk q (n : F q) a)))
  show PyData.int ((n : Int) % (charN q : Int)) = .int ((n % charN q : Nat) : Int)
  rw [Int.natCast_emod]
inductive R_is_integer : List PyData → PyData → Prop
  | mk (i : Int) : R_is_integer [.int i] (.bool true)
abbrev N_is_integer : List Str := ["thing"]
theorem sc_is_integer : FnScope N_is_integer ["thing"] (defScope s_is_integer) := ⟨rfl, rfl, rfl, by decide +kernel, rfl, by decide +kernel, by decide +kernel⟩
theorem ok_is_integer (T : Top K mg) : Has P w K mg base 1 "is_integer" ["thing"] (spR K R_is_integer) := by
  obtain ⟨f, fd, g, Fd⟩ := T.def_ 0 d_is_integer rfl
  have nd := sc_is_integer.nd
  refine has_of g Fd sc_is_integer (fun _ _ _ _ _ _ us hl => match us, hl with | [_], _ => rfl) (fun _ _ h => by cases h <;> rfl) fun cdv A outer s H E hr ds d h => ?_
  refine ⟨_, (pss_one (ps_ret (pe_and (pe_callB call_isi rfl (T.free 5 _ rfl) boot_isinstance (pa_cons (pv 0) (pa_cons (pe_bltn (v := .ty "int") rfl (T.free 4 _ rfl) boot_int rfl) pa_nil))) (pe_one (pe_not (pe_callB call_isi rfl (T.free 5 _ rfl) boot_isinstance (pa_cons (pv 0) (pa_cons (pe_bltn (v := .ty "bool") rfl (T.free 1 _ rfl) boot_bool rfl) pa_nil)))))))), ?_⟩
  cases h with
  | mk i =>
  exact run_last (run_ret (ed_and (ed_isII (ed_var rfl)) fun _ => ed_not (ed_isIB (ed_var rfl))))
inductive R_is_number : List PyData → PyData → Prop
  | mk (q : Nat) (i : Int) : R_is_number [.int q, .int i] (.bool (decide (0 ≤ i) && decide (i < q)))
abbrev N_is_number : List Str := ["q", "thing"]
theorem sc_is_number : FnScope N_is_number ["q", "thing"] (defScope s_is_number) := ⟨rfl, rfl, rfl, by decide +kernel, rfl, by decide +kernel, by decide +kernel⟩
theorem ok_is_number (T : Top K mg) : Has P w K mg base 2 "is_number" ["q", "thing"] (spR K R_is_number) := by
  obtain ⟨f, fd, g, Fd⟩ := T.def_ 2 d_is_number rfl
  have nd := sc_is_number.nd
  have h_is_integer := ok_is_integer (P := P) (w := w) (base := base) T
  refine has_of g Fd sc_is_number (fun _ _ _ _ _ _ us hl => match us, hl with | [_, _], _ => rfl) (fun _ _ h => by cases h <;> rfl) fun cdv A outer s H E hr ds d h => ?_
  refine ⟨_, (pss_one (ps_ret (pe_and (pe_callH h_is_integer hr (by decide) rfl (pa_cons (pv 1) pa_nil)) (pe_one (pe_chain op_le op_lt pe_int (pv 1) (pv 0)))))), ?_⟩
  cases h with
  | mk q i =>
  refine run_last (run_ret ((ed_and (ed_call (ea_cons (ed_var rfl) ea_nil) (.mk i)) fun _ => ed_chain ed_int (ed_var rfl) (rd_I0 fun _ => .bl _) (fun _ => ed_var rfl) fun _ => rd_I0 fun _ => .bl _).to ?_))
  rfl
end
end K19

/-! TEXT K19R1 -/
set_option Elab.async false
set_option linter.all false
set_option maxRecDepth 100000
set_option maxHeartbeats 2000000
set_option autoImplicit false
/-! FURTHER RULES, 1: enumerate(t) of a tuple. -/
namespace K19
open PySem PySem.Spec PyProof.Rows L2
open Evl (Ex)
section
variable {prog : Program} {w : World} {A : Around} {E : Value → Shared → Prop} {s : Shared}
theorem wpAny_pyNext_enum_endT {e it l : Addr} {i : Nat} {items : Array Value} {c : Int} {old : Value} {Q : Option Value → Shared → Prop} (hh : A.handled = none) (h1 : IsEnum s.heap e it c old) (h2 : s.heap.IsTupleIter it l i) (h3 : s.heap.IsTuple l items)
    (hx : items[i]? = none) (hQ : ∀ h', Heap.ExtBut it s.heap h' → Q none { s with heap := h' }) : wpAny (model prog w) A (pyNext (.ref e)) Q E s := by
  have ty : s.TypeIs (.ref e) "enumerate" := ⟨_, h1, rfl⟩
  unfold pyNext
  refine wpAny_bind (wpAny_attempt (wpAny_callSpecial?_slot (name := Str.ofString "__next__") ty F.slot_enumerate_next (wpAny_call_entry F.slot_enumerate_next ty F.entry_enumerate_next ?_ (F.args_enumerate_next_1 _))))
  show wpAny _ _ (field (.ref e) 2 >>= _) _ _ _
  refine wpAny_bind (wpAny_field h1 rfl (x := .ref it) rfl (wpAny_bind (wpAny_nextOf_tuple_end hh h2 h3 hx fun h' x h4 h5 => ?_)))
  obtain ⟨o, h6, h7⟩ := h5
  exact wpAny_bind (wpAny_isInstance (T := "StopIteration") (b := true) ⟨o, h6, h7⟩ isSubtype_stop (wpAny_pure (hQ _ h4)))
/-- enumerate(v), one argument -/
theorem meets_enumerate_one {v : Value} {o : Obj} {G : Heap → Prop} (B : Begins v o G) :
    Meets (Builtin.«enumerate.__new__» ⟨[.type "enumerate", v], []⟩) (fun _ R s => G s.heap ∧
      R (.ok (.ret (.ref (s.heap.push o).objs.size))) { s with heap := (s.heap.push o).push { cls := .type "enumerate", data := .fields #[.none, .bool false, .ref s.heap.objs.size, rawInt 0, .none, .none] } }) :=
  .of_wp fun prog w A R s hyp => by
    obtain ⟨hp, gl, dr, tk, os⟩ := s
    obtain ⟨hG, hR⟩ := hyp
    have sub1 := sub_enumerate
    have it1 : ∀ {A' : Around} {E : Value → Shared → Prop} {Q : Value → Shared → Prop}, Q (.ref hp.objs.size) ⟨hp.push o, gl, dr, tk, os⟩ → wpAny (model prog w) A' (pyIter v) Q E ⟨hp, gl, dr, tk, os⟩ :=
      fun q => B.iter prog w _ _ ⟨hp, gl, dr, tk, os⟩ _ hG q
    wp_walk using it1
    refine wpAny_stack_any fun _ => wpAny_pure ?_
    split
    · rename_i c _ _ _ _ _
      cases (c == Value.type "enumerate")
      all_goals
        wp_walk using it1
        exact ⟨_, rfl, hR⟩
    · wp_walk using it1
      exact ⟨_, rfl, hR⟩
theorem enum_one {v : Value} {o : Obj} {G : Heap → Prop} {Q : Value → Shared → Prop} (B : Begins v o G) (hG : G s.heap)
    (h : ∀ h', IsEnum h' (s.heap.objs.size + 1) s.heap.objs.size 0 .none → h'.get? s.heap.objs.size = some o → (∀ b u, s.heap.get? b = some u → h'.get? b = some u) → Q (.ref (s.heap.objs.size + 1)) { s with heap := h' }) :
    wpAny (model prog w) A (call (.type "enumerate") [v]) Q E s := by
  refine callType_new F.called_enumerate (by decide) (F.typeCall_enumerate_1 _) (F.newCall_enumerate_1 _) (fun obj => F.args_object_init_2 obj _) F.entry_enumerate_new (meets_enumerate_one B) ⟨hG, ?_⟩
  have z1 : (s.heap.push o).objs.size = s.heap.objs.size + 1 := Heap.size_push ..
  have z2 := Heap.get?_push_size (s.heap.push o) (o := { cls := .type "enumerate", data := .fields #[.none, .bool false, .ref s.heap.objs.size, rawInt 0, .none, .none] }) rfl
  rw [z1] at z2
  show _ ∧ _
  rw [z1]
  exact ⟨⟨_, z2, rfl⟩, h _ z2 (Heap.get?_push_of_some _ (Heap.get?_push_size _ B.free)) fun b u q => Heap.get?_push_of_some _ (Heap.get?_push_of_some _ q)⟩
end
/-- the tuple at a as it stands at each turn, each item in a new pair -/
def ItT (K : PySem.W.Frag) (a : Addr) : It :=
  ⟨fun i H => ∃ (xs : List V) (x : V), SqT K H a xs ∧ xs[i]? = some x, fun i H v H' => ∃ T x, v = .ref T ∧ H T = none ∧ H' = upd H T (.tup [.int (i : Nat), x]) ∧ ∀ ys, SqT K H a ys → ys[i]? = some x, fun i H => ∃ xs : List V, SqT K H a xs ∧ xs.length ≤ i⟩
theorem enT_ne {h : Heap} {e it a : Addr} {i : Nat} {c : Int} {old : Value} {items : Array Value} (he : IsEnum h e it c old) (hi : h.IsTupleIter it a i) (ht : h.IsTuple a items) : a ≠ it ∧ e ≠ a := by
  obtain ⟨o1, e1, c1, _⟩ := ht
  obtain ⟨o2, e2, c2, _⟩ := hi
  refine ⟨fun q => ?_, fun q => ?_⟩
  · rw [q, e2] at e1
    cases e1
    rw [c2] at c1
    exact absurd c1 (by decide)
  · have e3 : h.get? e = _ := he
    rw [q, e1] at e3
    cases e3
    exact absurd (show Value.type "enumerate" = Value.type "tuple" from c1) (by decide)
theorem turn_enT {P : Program} {w : World} {K : PySem.W.Frag} {es : List Expr} {n : Nat} {p : Pos} (a e it : Addr) :
    Turn P w K (.Tuple es n p) (ItT K a) [e, it] e (fun i h => (∃ old, IsEnum h e it ((i : Nat) : Int) old) ∧ h.IsTupleIter it a i ∧ e ≠ it) where
  mem := by simp
  obj := fun i h st b hb => by
    obtain ⟨⟨old, h1⟩, ⟨o, h2, _, h3⟩, _⟩ := st
    rcases List.mem_cons.mp hb with z | z
    · rw [z]
      exact ⟨_, h1, fun v q => nomatch q⟩
    · rw [List.mem_singleton.mp z]
      exact ⟨o, h2, fun v q => by rw [h3] at q; cases q⟩
  keep := fun i h h' st k => by
    obtain ⟨⟨old, h1⟩, h2, h3⟩ := st
    exact ⟨⟨old, k e List.mem_cons_self _ h1⟩, h2.at fun o q => k it (List.mem_cons_of_mem _ List.mem_cons_self) o q, h3⟩
  item := by
    intro X hP hw hK hc i pins s σ H E I hf st hg
    subst hP hw hK
    obtain ⟨⟨old, h1⟩, h2, h3⟩ := st
    obtain ⟨xs, x, hq, hx⟩ := hg
    obtain ⟨its, rv, pl, hz⟩ := I.tuple hq
    obtain ⟨u, hu, ru⟩ := rv.get hx
    obtain ⟨n1, n2⟩ := enT_ne h1 h2 pl
    have D := Draws.tuple (prog := X.prog) (w := X.w) (A := X.A.in1) (I.ok.hd hc) it a n1 its.toArray
    have hlt : i < its.toArray.size := by
      have := (List.getElem?_eq_some_iff.mp hu).1
      simpa using this
    have hle : e < s.heap.objs.size := Heap.lt_size h1
    have hli : it < s.heap.objs.size := by obtain ⟨_, q, _⟩ := h2; exact Heap.lt_size q
    refine wpAny_pyNext_enum_itemD D h1 ⟨h2, pl⟩ hlt h3 (fun q => by
      rcases List.mem_cons.mp q with z | z
      · exact h3 z
      · exact n2 (List.mem_singleton.mp z)) fun x2 h' tk hP2 ho hit' hT hsz hk => ?_
    have hx2 : x2 = u := by
      have e1 : its.toArray[i]? = some x2 := hP2
      have e2 : its.toArray[i]? = some u := by simpa using hu
      exact Option.some.inj (e1.symm.trans e2)
    subst hx2
    refine ⟨_, rfl, wpAny_letOwnedTupleGo_enum (s := { s with heap := h', toks := tk + 1 }) ho fun h'' he' sb => ?_⟩
    have hT2 : h''.get? s.heap.objs.size = some { cls := .type "tuple", data := .seq #[.int i tk, x2] } := (sb.2 _ (Nat.ne_of_gt hle)).trans hT
    have new : ObjOk X.prog X.w (upd H s.heap.objs.size (.tup [.int (i : Nat), x])) h'' s.heap.objs.size (.tup [.int (i : Nat), x]) :=
      ⟨by show 2 ≤ sizeLine; decide, [.int i tk, x2], .cons ⟨_, rfl⟩ (.cons ru .nil), ⟨_, hT2, rfl, _, rfl⟩⟩
    have I1 : Inv X pins σ (upd H s.heap.objs.size (.tup [.int (i : Nat), x])) { s with heap := h'', toks := tk + 1 } :=
      I.turnedNew (ch := [e, it]) (fun b ob hb q => (sb.2 b (fun z => hb (by rw [z]; exact List.mem_cons_self))).trans (hk b ob (fun z => hb (by rw [z]; exact List.mem_cons_self)) (fun z => hb (by rw [z]; exact List.mem_cons_of_mem _ List.mem_cons_self)) q)) hf (Nat.le_refl _) new
    refine ⟨.ref s.heap.objs.size, _, I1, rfl, ⟨_, x, rfl, I.hok.fresh (Nat.le_refl _), rfl, fun ys hy => by rw [I.tuple_inj hy hq]; exact hx⟩, ⟨⟨x2, ?_⟩, hit'.1.at fun o q => (sb.2 it (Ne.symm h3)).trans q, h3⟩, fun b hb => ?_⟩
    · have e1 : ((i + 1 : Nat) : Int) = (i : Int) + 1 := by omega
      rw [e1]
      exact he'
    · have hb' : b < s.heap.objs.size := by
        rcases List.mem_cons.mp hb with z | z
        · exact z ▸ hle
        · rw [List.mem_singleton.mp z]
          exact hli
      rw [upd_ne (Nat.ne_of_lt hb')]
      exact (hf b hb).1
  done := by
    intro X hP hw hK hc i pins s σ H E I hf st hg
    subst hP hw hK
    obtain ⟨⟨old, h1⟩, h2, h3⟩ := st
    obtain ⟨xs, hq, hx⟩ := hg
    obtain ⟨its, rv, pl, hz⟩ := I.tuple hq
    obtain ⟨f0, f1, f2, f3, f4, f5⟩ := hf it (List.mem_cons_of_mem _ List.mem_cons_self)
    have hl := rv.length
    obtain ⟨n1, n2⟩ := enT_ne h1 h2 pl
    have hsh : X.A.in1.handled = none := I.ok.hd hc
    refine wpAny_pyNext_enum_endT hsh h1 h2 pl ?_ fun h' eb => ⟨rfl, I.turned (t' := s.toks) (fun b o hb q => eb b o hb q) f0 f1 f3 f4 f5⟩
    simp
    omega
  self := fun A i s Q E st h => let ⟨⟨_, h1⟩, _⟩ := st; wpAny_pyIter_enum h1 h
def iEnT (K : PySem.W.Frag) (ta : TA) : TI := fun σ H R => ta σ H fun vs H1 => ∃ a xs, vs = [.ref a] ∧ SqT K H1 a xs ∧ R (ItT K a) H1
theorem pi_enumT {X : Cx} {e : Expr} {ta : TA} {p pos tp : Pos} {es : List Expr} {n : Nat} (hg : Gl X "enumerate") (hm : X.mg "enumerate" = none) (ha : PA X [e] ta) (hs : starEach [e] X.env = [(false, eval e X.env)] := by rfl) :
    PI X (.Tuple es n tp) (.Call (.Name "enumerate" p) [e] [] pos) (iEnT X.K ta) := by
  refine ⟨fun pins s σ H R I h => Call_ (ld_blt I hg hm boot_enumerate (PyProof.Rows.callWith_type1 (thn (ha.run pos pins s σ H _ I h) fun us s1 ⟨vs, H1, I1, r1, q1⟩ => ?_) hs rfl))⟩
  obtain ⟨a, xs, ex, hq, q⟩ := q1
  subst ex
  obtain ⟨u, rfl, ru⟩ := r1.one
  cases ru
  obtain ⟨its, rv, pl, hz⟩ := I1.tuple hq
  refine enum_one (begins_tuple a its.toArray) pl fun h' h1 h2 hk => wpAny_pyIter_enum h1 ?_
  have I2 : Inv X pins σ H1 { s1 with heap := h' } := I1.kept (t' := s1.toks) hk
  refine ⟨s1.heap.objs.size + 1, [s1.heap.objs.size + 1, s1.heap.objs.size], _, _, H1, rfl, I2, turn_enT a (s1.heap.objs.size + 1) s1.heap.objs.size, ⟨⟨.none, h1⟩, ⟨_, h2, rfl, rfl⟩, Nat.succ_ne_self _⟩, fun b hb => ?_, q⟩
  have hle : s1.heap.objs.size ≤ b := by
    rcases List.mem_cons.mp hb with z | z
    · rw [z]
      exact Nat.le_add_right _ _
    · rw [List.mem_singleton.mp z]
      exact Nat.le_refl _
  exact I1.fpOk hle (I1.hok.fresh hle)
section
variable {K : PySem.W.Frag} {ρ : Ro} {xs : List PyData}
theorem ei_enumT {ta : TA} (h : EdA K ta ρ [.tuple xs]) : EdI K (iEnT K ta) ρ (enD xs) := fun σ D H0 H s sl R q =>
  h σ D H0 H s sl _ fun vs D1 H1 t1 p1 => by
    obtain ⟨v, rfl, pv⟩ := dpA1 p1
    obtain ⟨a, vs, rfl, h1, h2⟩ := dp_tup pv
    refine ⟨a, vs, rfl, Evl.ex_t t1.s h1, q _ D1 H1 t1 fun D2 H2 e s2 => ⟨fun i p hp => ?_, ?_⟩⟩
    · obtain ⟨x, hx, rfl⟩ := enD_at hp
      obtain ⟨v, hv, pv⟩ := dpA_get h2 hx
      refine ⟨⟨vs, v, Evl.ex_t (e.trans s2) h1, hv⟩, fun w H' hy => ?_⟩
      obtain ⟨T, x', rfl, hT, rfl, e1⟩ := hy
      have f1 := e1 vs (Evl.ex_t (e.trans s2) h1)
      rw [hv] at f1
      cases f1
      exact stp_pair s2 hT (.int _) (dpX e pv)
    · exact ⟨vs, Evl.ex_t (e.trans s2) h1, by rw [enD_len, dpA_len h2]; exact Nat.le_refl _⟩
end
end K19

/-! TEXT K19R2 -/
set_option Elab.async false
set_option linter.all false
set_option maxRecDepth 100000
set_option maxHeartbeats 2000000
set_option autoImplicit false
/-! FURTHER RULES, 2: t[::-1] of a tuple, [..] * n, (..) * n. -/
namespace K19
open PySem PySem.Spec PyProof.Rows L2
open Evl (Ex)
section
variable {prog : Program} {w : World} {A : Around} {E : Value → Shared → Prop} {s : Shared}
theorem slp_end {v : Value} {o : Option Int} {Q : Option Int → Shared → Prop} (p : IsPart v o) (h : Q o s) : wpAny (model prog w) A (Builtin.Slice.slicePartIndex v) Q E s := HT.slicePart_ p h
theorem revB (n : Nat) : Builtin.Slice.sliceAdjust none none (-1) (n : Int) = ((n : Int) - 1, -1) := rfl
theorem revN (n : Nat) : Builtin.Slice.slicePlaces ((n : Int) - 1) (-1) (-1) = n := by
  unfold Builtin.Slice.slicePlaces
  have h1 : ¬ ((-1 : Int) > 0) := by decide
  simp only [h1, if_false]
  by_cases h : (n : Int) - 1 > -1
  · rw [if_pos h]
    have : (-(-1) : Int) = 1 := by decide
    rw [this, Int.ediv_one]
    omega
  · rw [if_neg h]
    omega
theorem fm_congr {α β : Type} {f g : α → Option β} : ∀ {l : List α}, (∀ m ∈ l, f m = g m) → l.filterMap f = l.filterMap g
  | [], _ => rfl
  | a :: l, h => by
    rw [List.filterMap_cons, List.filterMap_cons, h a List.mem_cons_self, fm_congr fun m hm => h m (List.mem_cons_of_mem _ hm)]
theorem revP (xs : Array Value) : ((List.range xs.size).filterMap fun (m : Nat) => xs[(((xs.size : Int) - 1) + (m : Int) * (-1)).toNat]?).toArray = xs.toList.reverse.toArray := by
  congr 1
  have e : ∀ m ∈ List.range xs.size, xs[(((xs.size : Int) - 1) + (m : Int) * (-1)).toNat]? = some (xs.toList.reverse.getD m .none) := fun m hm => by
    have hm := List.mem_range.mp hm
    have e1 : (((xs.size : Int) - 1) + (m : Int) * (-1)).toNat = xs.size - 1 - m := by omega
    rw [e1, ← Array.getElem?_toList, List.getD_eq_getElem?_getD, List.getElem?_reverse (by simpa using hm)]
    simp only [Array.length_toList]
    rw [List.getElem?_eq_getElem (by rw [Array.length_toList]; omega)]
    rfl
  have e2 : (List.range xs.size).filterMap (fun (m : Nat) => xs[(((xs.size : Int) - 1) + (m : Int) * (-1)).toNat]?) = (List.range xs.size).filterMap (fun m => some (xs.toList.reverse.getD m .none)) := fm_congr e
  rw [e2]
  have e3 : (List.range xs.size).filterMap (fun m => some (xs.toList.reverse.getD m .none)) = (List.range xs.size).map (fun m => xs.toList.reverse.getD m .none) := by
    rw [← List.filterMap_eq_map]
    rfl
  rw [e3]
  apply List.ext_getElem
  · simp
  · intro i h1 h2
    rw [List.getElem_map, List.getElem_range, List.getD_eq_getElem?_getD, List.getElem?_eq_getElem h2]
    rfl
theorem getItem_tuple_rev {t sl : Addr} {items : Array Value} {vl vu vs : Value} {Q : Value → Shared → Prop} (ht : IsTup s.heap t items) (hs : s.heap.IsSliceOf sl vl vu vs) (pl : IsPart vl none) (pu : IsPart vu none) (ps : IsPart vs (some (-1)))
    (hsz : items.size ≤ sizeLine) (h : Q (.ref s.heap.objs.size) { s with heap := s.heap.push { cls := .type "tuple", data := .seq items.toList.reverse.toArray } }) : wpAny (model prog w) A (getItem (.ref t) (.ref sl)) Q E s := by
  have fit : sizeOk (.seq items.toList.reverse.toArray) := by
    show items.toList.reverse.toArray.size ≤ sizeLine
    simpa using hsz
  obtain ⟨os, h1, h2, h3⟩ := id hs
  have ty : s.TypeIs (.ref sl) "slice" := ⟨os, h1, h2⟩
  unfold getItem
  try with_reducible refine wpAny_holding ?_
  first | refine wpAny_bind (wpAny_pure ?_) | skip
  refine wpAny_bind (wpAny_sequenceKey ht.typeIs (by decide) (wpAny_bind (wpAny_callSpecial?_slot (name := Str.ofString "__getitem__") ht.typeIs PyProof.Rows.slot_tuple_getitem
    (wpAny_call_entry PyProof.Rows.slot_tuple_getitem ht.typeIs entry_tuple_getitem ?_ (args_tuple_getitem _ _)))))
  show wpAny _ _ (Builtin.Tuple.tupleItemsOf (.ref t) >>= _) _ _ s
  refine wpAny_bind (tupleItemsOf_ ht (wpAny_bind (wpAny_typeOf ty ?_)))
  rw [if_pos (by decide)]
  refine wpAny_bind (m := Builtin.Slice.sliceApplied _ _) ?_
  unfold Builtin.Slice.sliceApplied Builtin.Slice.sliceFields
  refine wpAny_bind (wpAny_bind (wpAny_field h1 h3 (x := vl) rfl (wpAny_bind (wpAny_field h1 h3 (x := vu) rfl (wpAny_bind (wpAny_field h1 h3 (x := vs) rfl (wpAny_pure ?_)))))))
  refine wpAny_bind (slp_end ps ?_)
  show wpAny _ _ (if ((-1 : Int) == 0) = true then _ else _) _ _ s
  rw [if_neg (by decide)]
  refine wpAny_bind (slp_end pl (wpAny_bind (slp_end pu (wpAny_bind (wpAny_pure ?_)))))
  show wpAny _ _ (match Builtin.Slice.sliceAdjust none none (-1) (items.size : Int) with | (lo, hi) => pure (lo, (-1 : Int), Builtin.Slice.slicePlaces lo hi (-1))) _ _ s
  rw [revB]
  show wpAny _ _ (pure ((items.size : Int) - 1, (-1 : Int), Builtin.Slice.slicePlaces ((items.size : Int) - 1) (-1) (-1))) _ _ s
  rw [revN]
  refine wpAny_pure ?_
  have no : ¬ ((((items.size : Int) - 1) == 0 && (-1 : Int) == 1 && items.size == items.size) = true) := by
    simp
  show wpAny _ _ (if (((items.size : Int) - 1) == 0 && (-1 : Int) == 1 && items.size == items.size) = true then _ else _) _ _ s
  rw [if_neg no, revP]
  first
    | exact wpAny_bind (m := Builtin.Tuple.tupleExact _) (wpAny_newObj_type (wpAny_pure ⟨_, rfl, wpAny_pure h⟩) fit)
    | exact wpAny_bind (m := Builtin.Tuple.tupleExact _) (wpAny_newObj_type (wpAny_bind (wpAny_pure (wpAny_pure ⟨_, rfl, wpAny_pure h⟩))) fit)
    | exact wpAny_bind (wpAny_bind (m := Builtin.Tuple.tupleExact _) (wpAny_newObj_type (wpAny_pure (wpAny_pure ⟨_, rfl, wpAny_pure h⟩)) fit))
    | exact wpAny_bind (wpAny_bind (m := Builtin.Tuple.tupleExact _) (wpAny_newObj_type (wpAny_pure ⟨_, rfl, wpAny_pure h⟩) fit))
end
section
variable {X : Cx}
def tRevT (K : PySem.W.Frag) (te : TE) : TE := fun σ H Q => te σ H fun x H1 => ∃ a xs, x = .ref a ∧ SqT K H1 a xs ∧ ∀ p, H1 p = none → Q (.ref p) (upd H1 p (.tup xs.reverse))
theorem pe_revT {e : Expr} {te : TE} {k : Nat} {p1 p2 p3 pos : Pos} (he : PE X e te) : PE X (.Subscript e (.Slice none none (some (.UnaryOp .USub (.Constant (.int 1) k p1) p2)) p3) pos) (tRevT X.K te) := by
  refine ⟨fun pins s σ H Q I h => Subscript_ (thn (he.run pins s σ H _ I h) fun v s1 ⟨x, H1, I1, r1, a, xs, ex, hx, q⟩ => ?_)⟩
  subst ex
  cases r1
  have st : PO X (some (.UnaryOp .USub (.Constant (.int 1) k p1) p2)) (tPart (tUn (rU fun i => .int (-i)) (tC (.int 1)))) := po_some (pe_un un_neg pe_int)
  refine wpAny_Slice (thn (po_none.run pins s1 σ H1 (fun o G => o = none ∧ G = H1) I1 ⟨rfl, rfl⟩) fun vl s2 ⟨l, H2, I2, pl, el, e2⟩ => ?_)
  subst el e2
  refine thn (po_none.run pins s2 σ H2 (fun o G => o = none ∧ G = H2) I2 ⟨rfl, rfl⟩) fun vu s3 ⟨u, H3, I3, pu, eu, e3⟩ => ?_
  subst eu e3
  refine thn (st.run pins s3 σ H3 (fun o G => o = some (-1) ∧ G = H3) I3 ⟨1, rfl, -1, rfl, rfl, rfl⟩) fun vs s4 ⟨o, H4, I4, ps, eo, e4⟩ => ?_
  subst eo e4
  have I5 : Inv X pins σ H4 { s4 with heap := s4.heap.push { cls := .type "slice", data := .fields #[vl, vu, vs] } } := I4.kept (t' := s4.toks) fun b ob q => Heap.get?_push_of_some _ q
  obtain ⟨its, r, ht, hz⟩ := I5.tuple hx
  have hlen := r.length
  show wpAny (model X.prog X.w) X.A (subscriptTail e (.Slice none none (some (.UnaryOp .USub (.Constant (.int 1) k p1) p2)) p3) (.ref a) (.ref s4.heap.objs.size)) (EP X pins σ Q) X.xe { s4 with heap := s4.heap.push { cls := .type "slice", data := .fields #[vl, vu, vs] } }
  refine tail_any (ops := [.ref a, .ref s4.heap.objs.size]) ht.typeIs (PyProof.Rows.slot_tuple_getitem.lookup) ?_ (by with_unfolding_all rfl)
  refine getItem_tuple_rev ht (Heap.IsSliceOf.new _ vl vu vs) pl pu ps (by rw [List.size_toArray]; omega) ?_
  refine ⟨.ref _, _, I5.laid (t' := s4.toks) (o := .tup xs.reverse) (fun b ob q => Heap.get?_push_of_some _ q) (Nat.le_refl _) ?_, rfl, q _ (I5.hok.fresh (Nat.le_refl _))⟩
  exact ⟨by rw [List.length_reverse]; exact hz, _, r.reverse, IsTup.new _ _⟩
end
section
variable {K : PySem.W.Frag} {ρ : Ro} {xs : List PyData} {te : TE}
theorem ed_revT (h : Ed K te ρ (.tuple xs)) : Ed K (tRevT K te) ρ (.tuple xs.reverse) := fun σ D H0 H s sl Q q =>
  h σ D H0 H s sl _ fun v D1 H1 t1 p1 => by
    obtain ⟨a, vs, rfl, h1, h2⟩ := dp_tup p1
    exact ⟨a, vs, rfl, Evl.ex_t t1.s h1, fun p hp => q (.ref p) _ _ (t1.tr (Stp.new t1.s hp)) (.tup (SqT.of upd_same) (dpA (Ex.new (Evl.fresh_back t1.s hp)) (dpA_rev h2)))⟩
theorem ed_revL (h : Ed K te ρ (.list xs)) : Ed K (tRevL K te) ρ (.list xs.reverse) := fun σ D H0 H s sl Q q =>
  h σ D H0 H s sl _ fun v D1 H1 t1 p1 => by
    obtain ⟨a, vs, rfl, h1, h2⟩ := dp_lst p1
    exact ⟨a, vs, rfl, Evl.ex_l t1.s h1, fun p hp => q (.ref p) _ _ (t1.tr (Stp.new t1.s hp)) (.lst (SqL.of upd_same) (dpA (Ex.new (Evl.fresh_back t1.s hp)) (dpA_rev h2)))⟩
/-! ### repetition -/
theorem dpA_rep {H : Hp} {v : V} {d : PyData} (h : Dp K H v d) : ∀ n : Nat, DpAll K H (List.replicate n v) (List.replicate n d)
  | 0 => .nil
  | n + 1 => .cons h (dpA_rep h n)
theorem dpA_repF {H : Hp} {vs : List V} (h : DpAll K H vs xs) : ∀ n : Nat, DpAll K H (List.replicate n vs).flatten (List.replicate n xs).flatten
  | 0 => .nil
  | n + 1 => dpA_app h (dpA_repF h n)
/-- [..] * n: a new list -/
theorem ed_repL {ta : TA} {tn : TE} {n : Int} (h : EdA K ta ρ xs) (hn : Ed K tn ρ (.int n)) (h1 : n ≤ 100000) (h0 : -100000 ≤ n) (hz : xs.length * n.toNat ≤ 100000) (hl : xs.length ≤ 100000) : Ed K (tOp rRep (tLst ta) tn) ρ (.list (List.replicate n.toNat xs).flatten) := fun σ D H0 H s sl Q q =>
  h σ D H0 H s sl _ fun vs D1 H1 t1 p1 => ⟨sz100 (by rw [dpA_len p1]; exact hl), fun a ha => by
    have t2 := t1.tr (Stp.tmp (o := .lst vs) t1.s ha)
    refine hn σ D1 H0 _ t2.s (sl.mono t2) _ fun v D2 H2 t3 p3 => ?_
    have g : H2 a = some (.lst vs) := t3.h a _ upd_same
    refine ⟨a, n, vs, rfl, dp_int p3, g, by omega, by omega, sz100 (by rw [dpA_len p1]; exact hz), fun p hp => ?_⟩
    exact q (.ref p) _ _ ((t2.tr t3).tr (Stp.new t3.s hp)) (.lst (SqL.of upd_same) (dpA (Ex.new (Evl.fresh_back t3.s hp)) (dpA_repF (dpA t3.d p1) n.toNat)))⟩
end
/-! ### t * n, any n -/
section
variable {X : Cx}
theorem tuple_mul_no (l : Addr) (items : Array Value) (n : Nat) (dd : Option Addr) (sl : Array (Option Value)) (x : Int) (u : Tok) (c0 : (decide (x < -(2 ^ 63)) || decide (x ≥ 2 ^ 63)) = false) (c1 : (items.isEmpty || x == 1) = false) (c2 : (decide (x ≤ 0) || items.isEmpty) = true) :
    Meets (Builtin.«tuple.__mul__» ⟨[.ref l, .int x u], []⟩) (fun _ R s => s.heap.get? l = some { cls := .type "tuple", dict := dd, data := .seq items n, slots := sl } ∧
      R (.ok (.ret (Value.ref s.heap.objs.size))) { s with heap := s.heap.push { cls := Value.type "tuple", data := Data.seq #[] }, toks := s.toks }) :=
  .of_wp fun prog w A R s hyp => by
    obtain ⟨hp, gl, dr, tk, os⟩ := s
    obtain ⟨hG, hR⟩ := hyp
    have ix := AutoSeq1.idx_int
    wp_walk using wpAny_loadPart' hG
    repeat (first
      | (refine wpAny_ite_false (decide_eq_false (by rw [c0]; exact Bool.false_ne_true)) ?_; wp_walk using wpAny_loadPart' hG)
      | (refine wpAny_ite_false (decide_eq_false (by rw [c1]; exact Bool.false_ne_true)) ?_; wp_walk using wpAny_loadPart' hG)
      | (refine wpAny_ite_true (decide_eq_true c2) ?_; wp_walk using wpAny_loadPart' hG))
    exact ⟨_, rfl, hR⟩
theorem tuple_mul_one (l : Addr) (items : Array Value) (n : Nat) (dd : Option Addr) (sl : Array (Option Value)) (u : Tok) :
    Meets (Builtin.«tuple.__mul__» ⟨[.ref l, .int 1 u], []⟩) (fun _ R s => s.heap.get? l = some { cls := .type "tuple", dict := dd, data := .seq items n, slots := sl } ∧
      R (.ok (.ret (Value.ref l))) s) :=
  .of_wp fun prog w A R s hyp => by
    obtain ⟨hp, gl, dr, tk, os⟩ := s
    obtain ⟨hG, hR⟩ := hyp
    have ix := AutoSeq1.idx_int
    have c1 : (items.isEmpty || (1 : Int) == 1) = true := by simp
    wp_walk using wpAny_loadPart' hG
    repeat (first
      | (refine wpAny_ite_false (decide_eq_false (by decide)) ?_; wp_walk using wpAny_loadPart' hG)
      | (refine wpAny_ite_true (decide_eq_true c1) ?_; wp_walk using wpAny_loadPart' hG))
    exact ⟨_, rfl, hR⟩
def rRepA (K : PySem.W.Frag) : R2 := fun x y H Q => ∃ l k xs, x = .ref l ∧ y = .int k ∧ SqT K H l xs ∧ xs ≠ [] ∧ -1000 ≤ k ∧ k ≤ 1000 ∧ xs.length ≤ 1000 ∧ (k = 1 → Q (.ref l) H) ∧ (k ≠ 1 → ∀ p, H p = none → Q (.ref p) (upd H p (.tup (List.replicate k.toNat xs).flatten)))
theorem op_repA : OpR X (binaryOp .Mult) (rRepA X.K) := by
  intro pins s σ H x y v u Q I rx ry h
  obtain ⟨l, k, xs, rfl, rfl, hT, hne, h1, h2, hz, q1, q2⟩ := h
  by_cases h3 : 2 ≤ k
  · exact op_repT pins s σ H (.ref l) (.int k) v u Q I rx ry ⟨l, k, xs, rfl, rfl, hT, hne, h3, h2, hz, q2 (by omega)⟩
  · cases rx
    obtain ⟨t, rfl⟩ := ry
    obtain ⟨its, r, ⟨⟨cls, dd, data, sl⟩, ho, hc, n, hd⟩, hs⟩ := I.tuple hT
    simp only at hc hd
    subst hc hd
    have hle : its.length = xs.length := r.length.symm
    have hi : its.toArray.isEmpty = false := by
      cases its with
      | nil => exact absurd (List.eq_nil_of_length_eq_zero hle.symm) hne
      | cons a b => rfl
    by_cases h4 : k = 1
    · subst h4
      exact wpAny_binaryOp_repeat_ref (T := "tuple") (U := "int") (by decide) ⟨_, ho, rfl⟩ (fun s' => typeIs_int s' 1 t) noFill_tuple_mul F.fills_int_mul F.slot_int_rmul repeat_tuple F.slot_int_index.lookup
        (call_meets F.slot_int_rmul (typeIs_int s 1 t) F.entry_int_rmul (F.args_int_rmul_2 _ _) (int_rmul_tuple 1 t l its.toArray n dd sl)
          ⟨ho, rfl, ⟨_, ho, rfl⟩, call_meets F.slot_tuple_mul ⟨_, ho, rfl⟩ F.entry_tuple_mul (F.args_tuple_mul_2 _ _) (tuple_mul_one l its.toArray n dd sl t) ⟨ho, .ref l, H, I, rfl, q1 rfl⟩⟩)
    · have c0 : (decide (k < -(2 ^ 63)) || decide (k ≥ 2 ^ 63)) = false := by
        rw [decide_eq_false (by omega), decide_eq_false (by omega)] <;> rfl
      have c1 : (its.toArray.isEmpty || k == 1) = false := by
        rw [hi, Bool.false_or]
        exact beq_eq_false_iff_ne.mpr h4
      have c2 : (decide (k ≤ 0) || its.toArray.isEmpty) = true := by
        rw [decide_eq_true (by omega), Bool.true_or]
      have z : (List.replicate k.toNat xs).flatten = [] := by
        have : k.toNat = 0 := by omega
        rw [this]
        rfl
      refine wpAny_binaryOp_repeat_ref (T := "tuple") (U := "int") (by decide) ⟨_, ho, rfl⟩ (fun s' => typeIs_int s' k t) noFill_tuple_mul F.fills_int_mul F.slot_int_rmul repeat_tuple F.slot_int_index.lookup
        (call_meets F.slot_int_rmul (typeIs_int s k t) F.entry_int_rmul (F.args_int_rmul_2 _ _) (int_rmul_tuple k t l its.toArray n dd sl)
          ⟨ho, rfl, ⟨_, ho, rfl⟩, call_meets F.slot_tuple_mul ⟨_, ho, rfl⟩ F.entry_tuple_mul (F.args_tuple_mul_2 _ _) (tuple_mul_no l its.toArray n dd sl k t c0 c1 c2) ⟨ho, ?_⟩⟩)
      have q3 := q2 h4
      rw [z] at q3
      refine ⟨.ref s.heap.objs.size, _, I.laid (t' := s.toks) (o := .tup []) (fun b ob q => Heap.get?_push_of_some _ q) (Nat.le_refl _) ⟨Nat.zero_le _, [], .nil, IsTup.new _ _⟩, rfl, q3 _ (I.hok.fresh (Nat.le_refl _))⟩
end
section
variable {K : PySem.W.Frag} {xs : List PyData}
theorem rd_repA {n : Int} (h0 : xs ≠ []) (h1 : -1000 ≤ n) (h2 : n ≤ 1000) (hl : xs.length ≤ 1000) : Rd K (rRepA K) (.tuple xs) (.int n) (.tuple (List.replicate n.toNat xs).flatten) := fun v u D H s p1 p2 Q q => by
  obtain ⟨a, vs, rfl, h3, h4⟩ := dp_tup p1
  refine ⟨a, n, vs, rfl, dp_int p2, Evl.ex_t s h3, fun e => h0 (by subst e; cases h4; rfl), h1, h2, by rw [dpA_len h4]; exact hl, fun e => ?_, fun _ p hp => q (.ref p) _ _ (Stp.new s hp) (.tup (SqT.of upd_same) (dpA (Ex.new (Evl.fresh_back s hp)) (dpA_repF h4 n.toNat)))⟩
  subst e
  have e : (List.replicate (1 : Int).toNat xs).flatten = xs := by
    show xs ++ [] = xs
    exact List.append_nil xs
  rw [e] at q
  exact q _ D H (Stp.rfl' s) p1
end
end K19

/-! TEXT K19E -/
set_option Elab.async false
set_option linter.all false
set_option maxRecDepth 100000
set_option maxHeartbeats 2000000
set_option autoImplicit false
/-! Numbers, rows and tuples of numbers as data. -/
namespace K19
open PySem PySem.Spec PyProof.Rows L2
open Evl (Ex)
section
variable {X : Cx} {K : PySem.W.Frag}
theorem pg_tupK {es : List Expr} {k n : Nat} {t : TGs} {pos : Pos} (hK : X.K = K) (hc : X.calm = true) (h : PGs X es t) (hn : (assignEach es X.env).length = n := by rfl) (hst : (assignEach es X.env).findIdx? (·.1) = none := by rfl) : PG X (.Tuple es k pos) (gTup K n t) := by
  subst hK
  exact pg_tup hc h hn hst
theorem ix_tupK (hK : X.K = K) : IxR X (rIxT K) := by
  subst hK
  exact ix_tup
theorem ix_listK (hK : X.K = K) : IxR X (rIxL K) := by
  subst hK
  exact ix_list
theorem sl_tupAK (hK : X.K = K) : SlR X (rSlA K) := by
  subst hK
  exact sl_tupA
theorem op_catAK (hK : X.K = K) : OpR X (binaryOp .Add) (rCatA K) := by
  subst hK
  exact op_catA
theorem call_len_seqK (hK : X.K = K) : CallR X (.builtin "len") (fun xs H Q => ∃ p ys, xs = [.ref p] ∧ (SqL K H p ys ∨ SqT K H p ys) ∧ Q (.int ys.length) H) := by
  subst hK
  exact call_len_seq
end
/-- an expression that makes a new list -/
def EdN (K : PySem.W.Frag) (te : TE) (ρ : Ro) (xs : List PyData) : Prop := ∀ (σ : L2.St) (D H0 H : Hp), Ex D H → Sl K σ D H0 H ρ → ∀ Q : VK, (∀ p vs D' H1, Stp D H D' H1 → H1 p = none → DpAll K D' vs xs → Q (.ref p) (upd H1 p (.lst vs))) → te σ H Q
section
variable {K : PySem.W.Frag} {ρ : Ro} {xs ys : List PyData} {te tn : TE} {ta : TA}
theorem EdN.to (h : EdN K te ρ xs) (e : xs = ys) : EdN K te ρ ys := e ▸ h
theorem EdN.ed (h : EdN K te ρ xs) : Ed K te ρ (.list xs) := fun σ D H0 H s sl Q q =>
  h σ D H0 H s sl Q fun p vs D' H1 t hp hv => q _ _ _ (t.tr (Stp.new t.s hp)) (.lst (SqL.of upd_same) (dpA (Ex.new (Evl.fresh_back t.s hp)) hv))
theorem en_lst (h : EdA K ta ρ xs) (hl : xs.length ≤ 100000) : EdN K (tLst ta) ρ xs := fun σ D H0 H s sl Q q =>
  h σ D H0 H s sl _ fun vs D1 H1 t1 p1 => ⟨sz100 (by rw [dpA_len p1]; exact hl), fun p hp => q p vs D1 H1 t1 hp p1⟩
theorem en_rep {n : Int} (h : EdA K ta ρ xs) (hn : Ed K tn ρ (.int n)) (h1 : n ≤ 100000) (h0 : -100000 ≤ n) (hz : xs.length * n.toNat ≤ 100000) (hl : xs.length ≤ 100000) : EdN K (tOp rRep (tLst ta) tn) ρ (List.replicate n.toNat xs).flatten := fun σ D H0 H s sl Q q =>
  h σ D H0 H s sl _ fun vs D1 H1 t1 p1 => ⟨sz100 (by rw [dpA_len p1]; exact hl), fun a ha => by
    have t2 := t1.tr (Stp.tmp (o := .lst vs) t1.s ha)
    refine hn σ D1 H0 _ t2.s (sl.mono t2) _ fun v D2 H2 t3 p3 => ?_
    have g : H2 a = some (.lst vs) := t3.h a _ upd_same
    exact ⟨a, n, vs, rfl, dp_int p3, g, by omega, by omega, sz100 (by rw [dpA_len p1]; exact hz), fun p hp => q p _ D2 H2 (t2.tr t3) hp (dpA_repF (dpA t3.d p1) n.toNat)⟩⟩
theorem en_if {b : Bool} {t : TT} {ta tb : TE} (h : EdT K t ρ b) (h1 : b = true → EdN K ta ρ xs) (h2 : b = false → EdN K tb ρ xs) : EdN K (tIf t ta tb) ρ xs := fun σ D H0 H s sl Q q =>
  h σ D H0 H s sl _ fun D1 H1 t1 => by
    cases b with
    | true =>
      show ta σ H1 Q
      exact h1 rfl σ D1 H0 H1 t1.s (sl.mono t1) Q fun p vs D2 H2 t2 p2 => q p vs D2 H2 (t1.tr t2) p2
    | false =>
      show tb σ H1 Q
      exact h2 rfl σ D1 H0 H1 t1.s (sl.mono t1) Q fun p vs D2 H2 t2 p2 => q p vs D2 H2 (t1.tr t2) p2
theorem run_new {i : Nat} {t2 : TS} {r : Rs} (h : EdN K te ρ xs) (hn : ∀ p, Run K t2 (ρ.set i (.own p (.lst xs))) r) : Run K (tSeq (tAsg te (gName i)) t2) ρ r := fun σ H0 D H E t sl q =>
  h σ D H0 H t.s sl _ fun p vs D1 H1 t1 hp p1 => by
    have u := t.go t1
    exact hn p _ H0 D1 _ E ⟨Ex.refl D1, u.h.trans (Ex.new hp), u.s.trans (Ex.new hp), fun _ _ _ _ h => h⟩ ((sl.mono t1).new i u.h u.s hp (.lst p1)) (q.of (t.up t1))
end
/-- data that == takes -/
structure Fl (n : Nat) (d : PyData) : Prop where
  lay : d.canLay0 = true
  dep : d.depth ≤ n
theorem Fl.mono {m n : Nat} {d : PyData} (h : Fl m d) (e : m ≤ n) : Fl n d := ⟨h.lay, Nat.le_trans h.dep e⟩
theorem fl_int {i : Int} {n : Nat} : Fl n (.int i) := ⟨by simp [PyData.canLay0], by simp [PyData.depth]⟩
theorem fl_bool {b : Bool} {n : Nat} : Fl n (.bool b) := ⟨by simp [PyData.canLay0], by simp [PyData.depth]⟩
theorem fl_all {n : Nat} : ∀ {ds : List PyData}, (∀ d ∈ ds, Fl n d) → PyData.canLayAll0 ds = true ∧ PyData.depthAll ds ≤ n
  | [], _ => ⟨by simp [PyData.canLayAll0], by simp [PyData.depthAll]⟩
  | d :: ds, h => by
    obtain ⟨h1, h2⟩ := fl_all fun e he => h e (List.mem_cons_of_mem _ he)
    have h3 := h d List.mem_cons_self
    refine ⟨?_, ?_⟩
    · simp only [PyData.canLayAll0, h3.lay, h1, Bool.and_self]
    · have := h3.dep
      simp only [PyData.depthAll]
      omega
theorem fl_tup {n : Nat} {ds : List PyData} (h : ∀ d ∈ ds, Fl n d) : Fl (n + 1) (.tuple ds) := by
  obtain ⟨h1, h2⟩ := fl_all h
  exact ⟨by simpa only [PyData.canLay0] using h1, by simpa only [PyData.depth, Nat.add_le_add_iff_right] using h2⟩
theorem fl_lst {n : Nat} {ds : List PyData} (h : ∀ d ∈ ds, Fl n d) : Fl (n + 1) (.list ds) := by
  obtain ⟨h1, h2⟩ := fl_all h
  exact ⟨by simpa only [PyData.canLay0] using h1, by simpa only [PyData.depth, Nat.add_le_add_iff_right] using h2⟩
theorem Fl.shaped {n : Nat} {d : PyData} (h : Fl n d) (e : n ≤ 64 := by decide) : SeqAt.shaped d = true := by
  unfold SeqAt.shaped
  rw [h.lay, decide_eq_true (Nat.le_trans h.dep e)]
  rfl
theorem Fl.refl {n : Nat} {d : PyData} (h : Fl n d) : PyData.eqv d d = true := SeqAt.eqv_refl d h.lay
theorem eqv_nil {ds : List PyData} : PyData.eqv (.tuple ds) (.tuple []) = ds.isEmpty := by
  cases ds <;> simp [PyData.eqv, PyData.eqvAll]
theorem eqv_nilL {ds : List PyData} : PyData.eqv (.list ds) (.list []) = ds.isEmpty := by
  cases ds <;> simp [PyData.eqv, PyData.eqvAll]
section
variable {K : PySem.W.Frag} {ρ : Ro}
theorem r1_neg {i : Int} : Rd1 K (rU fun i => .int (-i)) (.int i) (.int (-i)) := fun v D H s p Q k => by
  rw [dp_int p]
  exact ⟨i, rfl, k _ D H (Stp.rfl' s) (.int _)⟩
theorem ed_m1 : Ed K (tUn (rU fun i => .int (-i)) (tC (.int 1))) ρ (.int (-1)) := ed_un ed_int r1_neg
end
theorem atI_last {α : Type} {xs : List α} {v : α} (h : xs[xs.length - 1]? = some v) (h0 : 0 < xs.length) : atI xs (-1) = some v := by
  unfold atI ixN
  rw [if_neg (by omega), if_pos (by omega)]
  show xs[((-1 : Int) + (xs.length : Int)).toNat]? = _
  have e : ((-1 : Int) + (xs.length : Int)).toNat = xs.length - 1 := by omega
  rw [e]
  exact h
section
variable {q : Nat} [Fld q]
abbrev nD (a : F q) : PyData := .int a.v
abbrev tD (xs : List (F q)) : PyData := .tuple (xs.map nD)
abbrev lD (xs : List (F q)) : PyData := .list (xs.map nD)
theorem fl_tD {xs : List (F q)} {n : Nat} : Fl (n + 1) (tD xs) := fl_tup fun d hd => by
  obtain ⟨a, _, rfl⟩ := List.mem_map.mp hd
  exact fl_int
theorem len_tD {xs : List (F q)} : (xs.map nD).length = xs.length := List.length_map ..
theorem nD0 : nD (0 : F q) = .int 0 := by
  show PyData.int ((0 : F q).v : Int) = _
  rw [F.zero_v]
  rfl
theorem nD1 : nD (1 : F q) = .int 1 := by
  show PyData.int ((1 : F q).v : Int) = _
  rw [F.one_v]
  rfl
theorem at_nD {xs : List (F q)} {i : Nat} (h : i < xs.length) : (xs.map nD)[i]? = some (nD (co xs i)) := by
  rw [List.getElem?_map, co_some h]
  rfl
theorem atI_nD {xs : List (F q)} {i : Nat} (h : i < xs.length) : atI (xs.map nD) (i : Int) = some (nD (co xs i)) := atI_nat (at_nD h)
theorem atI_top {xs : List (F q)} (h : 0 < xs.length) : atI (xs.map nD) (-1) = some (nD (co xs (xs.length - 1))) := atI_last (by rw [len_tD]; exact at_nD (by omega)) (by rw [len_tD]; exact h)
theorem eq0_iff {a : F q} : ((a.v : Int) = 0) ↔ a = 0 := by
  constructor
  · intro h
    exact F.ext' (by rw [F.zero_v]; omega)
  · intro h
    rw [h, F.zero_v]
    rfl
theorem dec0 {a : F q} : decide ((a.v : Int) = 0) = decide (a = 0) := by
  by_cases h : a = 0
  · rw [decide_eq_true h, decide_eq_true (eq0_iff.mpr h)]
  · rw [decide_eq_false h, decide_eq_false fun e => h (eq0_iff.mp e)]
end
end K19

/-! TEXT K19W2 -/
set_option Elab.async false
set_option linter.all false
set_option maxRecDepth 100000
set_option maxHeartbeats 4000000
set_option autoImplicit false
/-! The walks, 2: polynomials in one letter. -/
namespace K19
open PySem PySem.Spec PyProof.Rows L2
open Evl (Ex)
theorem Ed.lst {K : PySem.W.Frag} {te : TE} {ρ : Ro} {ds es : List PyData} (h : Ed K te ρ (.list ds)) (e : ds = es) : Ed K te ρ (.list es) := e ▸ h
inductive R_are_numbers : List PyData → PyData → Prop
  | mk (q : Nat) [Fld q] (f : List (F q)) (h : f.length ≤ 1000) : R_are_numbers [.int q, tD f] (.bool true)
inductive R_trimmed : List PyData → PyData → Prop
  | mk (q : Nat) [Fld q] (f : List (F q)) (h : f.length ≤ 10000) : R_trimmed [lD f] (tD (trim f))
inductive R_is_one_letter : List PyData → PyData → Prop
  | mk (q : Nat) [Fld q] (f : List (F q)) (h : f.length ≤ 1000) (ht : f = [] ∨ co f (f.length - 1) ≠ 0) : R_is_one_letter [.int q, tD f] (.bool true)
inductive R_one_plus : List PyData → PyData → Prop
  | mk (q : Nat) [Fld q] (f g : List (F q)) (h1 : f.length ≤ 500) (h2 : g.length ≤ 500) : R_one_plus [.int q, tD f, tD g] (tD (onePlus f g))
inductive R_one_opposite : List PyData → PyData → Prop
  | mk (q : Nat) [Fld q] (f : List (F q)) (h : f.length ≤ 1000) : R_one_opposite [.int q, tD f] (tD (oneOpp f))
inductive R_one_scaled : List PyData → PyData → Prop
  | mk (q : Nat) [Fld q] (f : List (F q)) (c : F q) (h : f.length ≤ 1000) : R_one_scaled [.int q, tD f, nD c] (tD (oneScaled f c))
inductive R_one_times : List PyData → PyData → Prop
  | mk (q : Nat) [Fld q] (f g : List (F q)) (h1 : f.length ≤ 500) (h2 : g.length ≤ 500) : R_one_times [.int q, tD f, tD g] (tD (oneTimes f g))
inductive R_one_put : List PyData → PyData → Prop
  | mk (q : Nat) [Fld q] (f g : List (F q)) (h1 : f.length ≤ 20) (h2 : g.length ≤ 20) : R_one_put [.int q, tD f, tD g] (tD (onePut f g))
section
variable {q : Nat} [Fld q]
theorem map_nD {xs : List (F q)} {i : Nat} {x : PyData} (h : (xs.map nD)[i]? = some x) : ∃ a, xs[i]? = some a ∧ x = nD a := by
  rw [List.getElem?_map] at h
  cases c : xs[i]? with
  | none => rw [c] at h; cases h
  | some a =>
    rw [c] at h
    exact ⟨a, rfl, (Option.some.inj h).symm⟩
theorem map_map_nD {f : PyData → PyData} {g : F q → F q} (h : ∀ a, f (nD a) = nD (g a)) (xs : List (F q)) : (xs.map nD).map f = (xs.map g).map nD := by
  rw [List.map_map, List.map_map]
  exact List.map_congr_left fun a _ => h a
/-- a number of the field behind a whole number -/
def toF (d : PyData) : F q := match d with
  | .int i => if h : i.toNat < q then ⟨i.toNat, h⟩ else 0
  | _ => 0
theorem toF_nD (a : F q) : (toF (nD a) : F q) = a := by
  unfold toF
  show (if h : ((a.v : Nat) : Int).toNat < q then (⟨((a.v : Nat) : Int).toNat, h⟩ : F q) else 0) = a
  rw [dif_pos (by rw [Int.toNat_natCast]; exact a.h)]
  exact F.ext' (Int.toNat_natCast _)
theorem take_cut {α : Type} (xs : List PyData) (n : Nat) (h : n ≤ xs.length) : cutD xs none (some (n : Int)) = xs.take n := by
  unfold cutD HT.sIx
  simp
  rw [if_neg (by omega)]
  congr 1
  omega
end
section
variable {q : Nat} [Fld q]
theorem onePutR_snoc (g : List (F q)) (a : F q) : ∀ (xs fd : List (F q)), onePutR g fd (xs ++ [a]) = onePlus (oneTimes (onePutR g fd xs) g) (trim [a])
  | [], fd => rfl
  | b :: xs, fd => onePutR_snoc g a xs _
theorem onePutR_le (g : List (F q)) (xs : List (F q)) : (onePutR g [] xs).length ≤ xs.length * (g.length + 1) := by
  have h : ∀ ys : List (F q), (onePutR g [] ys.reverse).length ≤ ys.length * (g.length + 1) := fun ys => by
    induction ys with
    | nil => exact Nat.zero_le _
    | cons a ys ih =>
      rw [List.reverse_cons, onePutR_snoc]
      have h1 := onePlus_le (oneTimes (onePutR g [] ys.reverse) g) (trim [a])
      have h2 := oneTimes_le (onePutR g [] ys.reverse) g
      have h3 := trim_le [a]
      rw [List.length_singleton] at h3
      rw [List.length_cons, Nat.add_mul]
      omega
  have := h xs.reverse
  rwa [List.reverse_reverse, List.length_reverse] at this
end
section
variable {P : Program} {w : World} {K : PySem.W.Frag} {mg : Str → Option Value} {base : Heap}
abbrev N_are_numbers : List Str := ["q", "thing", "part"]
theorem sc_are_numbers : FnScope N_are_numbers ["q", "thing"] (defScope s_are_numbers) := ⟨rfl, rfl, rfl, by decide +kernel, rfl, by decide +kernel, by decide +kernel⟩
theorem ok_are_numbers (T : Top K mg) : Has P w K mg base 3 "are_numbers" ["q", "thing"] (spR K R_are_numbers) := by
  obtain ⟨f, fd, g, Fd⟩ := T.def_ 10 d_are_numbers rfl
  have nd := sc_are_numbers.nd
  have h_is_number := ok_is_number (P := P) (w := w) (base := base) T
  refine has_of g Fd sc_are_numbers (fun _ _ _ _ _ _ us hl => match us, hl with | [_, _], _ => rfl) (fun _ _ h => by cases h <;> rfl) fun cdv A outer s H E hr ds d h => ?_
  refine ⟨_, (pss_one (ps_ret (pe_and (pe_callB call_isi rfl (T.free 5 _ rfl) boot_isinstance (pa_cons (pv 1) (pa_cons (pe_bltn (v := .ty "tuple") rfl (T.free 13 _ rfl) boot_tuple rfl) pa_nil))) (pe_one (pe_callB (cr_all rfl) rfl (T.free 0 _ rfl) (by decide +kernel) (pa_cons (pe_lc (own := [("part", 2)]) rfl nd (pi_tup (pv 1)) (blkOk_by (own := [("part", 2)]) (N := N_are_numbers) (sc := defScope s_are_numbers) (by decide +kernel)) (fun _ _ _ _ _ => (pg_name (i := 2) nd rfl (Or.inl rfl))) (fun _ _ _ _ _ => pts_nil) (fun _ _ _ _ _ => (pe_callH h_is_number hr (by decide) rfl (pa_cons (pv 0) (pa_cons (pv 2) pa_nil))))) pa_nil)))))), ?_⟩
  cases h with
  | mk q f hf =>
  refine run_last (run_ret ((ed_and (ed_isTT (ed_var rfl)) fun _ => ed_cb (ea_cons ((ed_lcm (fun _ => .bool true) (ei_tup (ed_var rfl)) (by rw [len_tD]; omega) fun i x hx => ?_).lst (es := (f.map fun _ => true).map PyData.bool) ?_) ea_nil) rc_all).to ?_))
  · obtain ⟨a, _, rfl⟩ := map_nD hx
    have ha := a.h
    refine ⟨_, _, bd_name, fun j hj => hj, (ed_call (ea_cons (ed_var rfl) (ea_cons (ed_var rfl) ea_nil)) (.mk q _)).to ?_⟩
    rw [decide_eq_true (by omega), decide_eq_true (by omega)]
    rfl
  · rw [List.map_map, List.map_map]
    rfl
  · simp
abbrev N_trimmed : List Str := ["numbers", "size"]
theorem sc_trimmed : FnScope N_trimmed ["numbers"] (defScope s_trimmed) := ⟨rfl, rfl, rfl, by decide +kernel, rfl, by decide +kernel, by decide +kernel⟩
theorem ok_trimmed (T : Top K mg) : Has P w K mg base 1 "trimmed" ["numbers"] (spR K R_trimmed) := by
  obtain ⟨f, fd, g, Fd⟩ := T.def_ 11 d_trimmed rfl
  have nd := sc_trimmed.nd
  refine has_of g Fd sc_trimmed (fun _ _ _ _ _ _ us hl => match us, hl with | [_], _ => rfl) (fun _ _ h => by cases h <;> rfl) fun cdv A outer s H E hr ds d h => ?_
  refine ⟨_, (pss_cons (ps_set (i := 1) nd rfl (Or.inl rfl) (pe_callB call_len_seq rfl (T.free 6 _ rfl) boot_len (pa_cons (pv 0) pa_nil))) (pss_cons (ps_while PassesOwn.never (PW.pt (pw_and (pt_cmpR op_gt (pv 1) pe_int (nomark _)) (pw_and1 (pt_cmpR op_eq (pe_ix ix_list (pv 0) (pe_op op_sub (pv 1) pe_int) (fun _ _ => rfl)) pe_int (nomark _))))) (pss_one (ps_set (i := 1) nd rfl (Or.inl rfl) (pe_op op_sub (pv 1) pe_int)))) (pss_one (ps_ret (pe_callTy call_tuple_of rfl (T.free 13 _ rfl) boot_tuple (pa_cons (pe_slice sl_list (pv 0) po_none (po_some (pv 1))) pa_nil)))))), ?_⟩
  cases h with
  | mk q f hf =>
  refine run_set (ed_cb (ea_cons (ed_var rfl) ea_nil) rc_lenL) ?_
  have hs := szT_le f f.length
  refine run_while (fun i => [.dat (lD f), .dat (.int ((f.length - i : Nat) : Int))]) (f.length - szT f f.length) ?_ (fun i hi => ⟨?_, ?_⟩) ?_ ?_
  · show [Sd.dat (lD f), .dat (.int ((f.length - 0 : Nat) : Int))] = [.dat (lD f), .dat (.int ((f.map nD).length : Nat))]
    rw [len_tD]
    rfl
  · refine (et_and (et_test (ed_op (ed_var rfl) ed_int (rd_I0 fun _ => .bl _))) fun _ => et_test (ed_op (ed_op (ed_var rfl) (ed_op (ed_var rfl) ed_int (rd_I0 fun _ => .int _)) (rd_ixL (d := .int 0) ?_)) ed_int rd_eqI)).to ?_
    · have e : ((f.length - i : Nat) : Int) - 1 = ((f.length - i - 1 : Nat) : Int) := by omega
      rw [e, atI_nD (by omega), szT_zero f f.length _ (by omega) (by omega), nD0]
    · rw [decide_eq_true (by omega), decide_eq_true rfl]
      rfl
  · refine run_last (run_set (ed_op (ed_var rfl) ed_int (rd_I0 fun _ => .int _)) (run_end.to ?_))
    have e : ((f.length - i : Nat) : Int) - 1 = ((f.length - (i + 1) : Nat) : Int) := by omega
    rw [e]
    rfl
  · have e0 : f.length - (f.length - szT f f.length) = szT f f.length := by omega
    rw [e0]
    rcases szT_top f f.length with e | e
    · rw [e]
      exact et_and (a := false) (b := true) ((et_test (ed_op (ed_var rfl) ed_int (rd_I0 fun _ => .bl _))).to (decide_eq_false (by omega))) fun h => nomatch h
    · by_cases z : szT f f.length = 0
      · rw [z]
        exact et_and (a := false) (b := true) ((et_test (ed_op (ed_var rfl) ed_int (rd_I0 fun _ => .bl _))).to (decide_eq_false (by omega))) fun h => nomatch h
      · refine (et_and (et_test (ed_op (ed_var rfl) ed_int (rd_I0 fun _ => .bl _))) fun _ => et_test (ed_op (ed_op (ed_var rfl) (ed_op (ed_var rfl) ed_int (rd_I0 fun _ => .int _)) (rd_ixL (d := nD (co f (szT f f.length - 1))) ?_)) ed_int rd_eqI)).to ?_
        · have e : ((szT f f.length : Nat) : Int) - 1 = ((szT f f.length - 1 : Nat) : Int) := by omega
          rw [e, atI_nD (by omega)]
        · rw [dec0, decide_eq_false e, Bool.and_false]
  · refine run_last (run_ret ((ed_cb (ea_cons (ed_slL (ed_var rfl) eo_none (eo_some (ed_var rfl))) ea_nil) rc_tupL).to ?_))
    have e0 : f.length - (f.length - szT f f.length) = szT f f.length := by omega
    rw [e0, take_cut (α := PyData) _ _ (by rw [len_tD]; exact hs), ← List.map_take]
    rfl
abbrev N_is_one_letter : List Str := ["q", "thing"]
theorem sc_is_one_letter : FnScope N_is_one_letter ["q", "thing"] (defScope s_is_one_letter) := ⟨rfl, rfl, rfl, by decide +kernel, rfl, by decide +kernel, by decide +kernel⟩
theorem ok_is_one_letter (T : Top K mg) : Has P w K mg base 4 "is_one_letter" ["q", "thing"] (spR K R_is_one_letter) := by
  obtain ⟨f, fd, g, Fd⟩ := T.def_ 12 d_is_one_letter rfl
  have nd := sc_is_one_letter.nd
  have h_are_numbers := ok_are_numbers (P := P) (w := w) (base := base) T
  refine has_of g Fd sc_is_one_letter (fun _ _ _ _ _ _ us hl => match us, hl with | [_, _], _ => rfl) (fun _ _ h => by cases h <;> rfl) fun cdv A outer s H E hr ds d h => ?_
  refine ⟨_, (pss_one (ps_ret (pe_and (pe_callH h_are_numbers hr (by decide) rfl (pa_cons (pv 0) (pa_cons (pv 1) pa_nil))) (pe_one (pe_or (pe_cmpR (op_eqD hr.units) (pv 1) (pe_tup pa_nil) (nomark _)) (pe_one (pe_cmpR op_ne (pe_ix ix_tup (pv 1) (pe_un un_neg pe_int) (fun _ _ => rfl)) pe_int (nomark _)))))))), ?_⟩
  cases h with
  | mk q f hf ht =>
  refine run_last (run_ret ((ed_and (ed_call (ea_cons (ed_var rfl) (ea_cons (ed_var rfl) ea_nil)) (.mk q f hf)) fun _ => ed_or (a := f.isEmpty) (b := true) ((ed_op (ed_var rfl) (ed_tup ea_nil (Nat.zero_le _)) (rd_eqD (fl_tD (n := 1)).shaped (fl_tup (n := 1) (fun _ h => absurd h List.not_mem_nil)).shaped)).to ?_) fun e => (ed_op (x := nD (co f (f.length - 1))) (ed_op (ed_var rfl) ed_m1 (rd_ixT ?_)) ed_int rd_neI).to ?_).to ?_))
  · rw [eqv_nil, List.isEmpty_map]
  · exact atI_top (List.length_pos_iff.mpr fun z => by rw [z] at e; cases e)
  · rcases ht with z | z
    · rw [z] at e
      cases e
    · rw [dec0, decide_eq_false z]
      rfl
  · rw [Bool.or_true]
    rfl
abbrev N_one_plus : List Str := ["q", "f", "g", "size", "one", "other", "a", "b"]
theorem sc_one_plus : FnScope N_one_plus ["q", "f", "g"] (defScope s_one_plus) := ⟨rfl, rfl, rfl, by decide +kernel, rfl, by decide +kernel, by decide +kernel⟩
theorem ok_one_plus (T : Top K mg) : Has P w K mg base 2 "one_plus" ["q", "f", "g"] (spR K R_one_plus) := by
  obtain ⟨f, fd, g, Fd⟩ := T.def_ 13 d_one_plus rfl
  have nd := sc_one_plus.nd
  have h_trimmed := ok_trimmed (P := P) (w := w) (base := base) T
  have h_plus := ok_plus (P := P) (w := w) (base := base) T
  refine has_of g Fd sc_one_plus (fun _ _ _ _ _ _ us hl => match us, hl with | [_, _, _], _ => rfl) (fun _ _ h => by cases h <;> rfl) fun cdv A outer s H E hr ds d h => ?_
  refine ⟨_, (pss_cons (ps_set (i := 3) nd rfl (Or.inl rfl) (pe_callB (call_max2 rfl) rfl (T.free 8 _ rfl) (by decide +kernel) (pa_cons (pe_callB call_len_seq rfl (T.free 6 _ rfl) boot_len (pa_cons (pv 1) pa_nil)) (pa_cons (pe_callB call_len_seq rfl (T.free 6 _ rfl) boot_len (pa_cons (pv 2) pa_nil)) pa_nil)))) (pss_cons (ps_par (i := 4) (j := 5) rfl nd rfl rfl (by decide) rfl rfl (pa_cons (pe_op op_catA (pv 1) (pe_op op_repA (pe_tup (pa_cons pe_int pa_nil)) (pe_op op_sub (pv 3) (pe_callB call_len_seq rfl (T.free 6 _ rfl) boot_len (pa_cons (pv 1) pa_nil))))) (pa_cons (pe_op op_catA (pv 2) (pe_op op_repA (pe_tup (pa_cons pe_int pa_nil)) (pe_op op_sub (pv 3) (pe_callB call_len_seq rfl (T.free 6 _ rfl) boot_len (pa_cons (pv 2) pa_nil))))) pa_nil)) rfl) (pss_one (ps_ret (pe_callH h_trimmed hr (by decide) rfl (pa_cons (pe_lc (own := [("a", 6), ("b", 7)]) rfl nd (RZ.pi_zipA rfl (T.free 14 _ rfl) (pa_cons (pv 4) (pa_cons (pv 5) pa_nil))) (blkOk_by (own := [("a", 6), ("b", 7)]) (N := N_one_plus) (sc := defScope s_one_plus) (by decide +kernel)) (fun _ _ _ _ _ => (pg_tupK (K := K) (n := 2) rfl rfl (pgs_cons (pg_name (i := 6) nd rfl (Or.inl rfl)) (pgs_cons (pg_name (i := 7) nd rfl (Or.inl rfl)) pgs_nil)))) (fun _ _ _ _ _ => pts_nil) (fun _ _ _ _ _ => (pe_callH h_plus hr (by decide) rfl (pa_cons (pv 0) (pa_cons (pv 6) (pa_cons (pv 7) pa_nil)))))) pa_nil)))))), ?_⟩
  cases h with
  | mk q f g h1 h2 =>
  refine run_set (ed_cb (ea_cons (ed_cb (ea_cons (ed_var rfl) ea_nil) rc_lenT) (ea_cons (ed_cb (ea_cons (ed_var rfl) ea_nil) rc_lenT) ea_nil)) rc_max2) ?_
  have em : (if ((g.map nD).length : Int) > ((f.map nD).length : Int) then ((g.map nD).length : Int) else ((f.map nD).length : Int)) = ((max f.length g.length : Nat) : Int) := by
    rw [len_tD, len_tD]
    split <;> omega
  rw [em]
  have rp : ∀ n : Nat, n ≤ 500 → Rd K (rRepA K) (.tuple [.int 0]) (.int n) (tD (List.replicate n (0 : F q))) := fun n hn => by
    have := rd_repA (K := K) (xs := [.int 0]) (n := (n : Int)) (by simp) (by omega) (by omega) (by decide)
    have e : (List.replicate (n : Int).toNat [PyData.int 0]).flatten = (List.replicate n (0 : F q)).map nD := by
      rw [List.map_replicate, nD0, Int.toNat_natCast]
      induction n with
      | zero => rfl
      | succ n ih => rw [List.replicate_succ, List.flatten_cons, ih (by omega) (rd_repA (by simp) (by omega) (by omega) (by decide)), List.replicate_succ] <;> rfl
    rw [e] at this
    exact this
  refine run_par (x := tD (pad f (max f.length g.length))) (y := tD (pad g (max f.length g.length))) (ea_cons ?_ (ea_cons ?_ ea_nil)) ?_
  · refine (ed_op (ed_var rfl) (ed_op (ed_tup (ea_cons ed_int ea_nil) (by decide)) ((ed_op (ed_var rfl) (ed_cb (ea_cons (ed_var rfl) ea_nil) rc_lenT) (rd_I0 fun _ => .int _)).to ?_) (rp (max f.length g.length - f.length) (by omega))) (rd_catT ?_)).to ?_
    · rw [len_tD]
      congr 1
      omega
    · rw [len_tD, len_tD, List.length_replicate]
      omega
    · rw [← List.map_append]
      rfl
  · refine (ed_op (ed_var rfl) (ed_op (ed_tup (ea_cons ed_int ea_nil) (by decide)) ((ed_op (ed_var rfl) (ed_cb (ea_cons (ed_var rfl) ea_nil) rc_lenT) (rd_I0 fun _ => .int _)).to ?_) (rp (max f.length g.length - g.length) (by omega))) (rd_catT ?_)).to ?_
    · rw [len_tD]
      congr 1
      omega
    · rw [len_tD, len_tD, List.length_replicate]
      omega
    · rw [← List.map_append]
      rfl
  · have hl : (List.zipWith (· + ·) (pad f (max f.length g.length)) (pad g (max f.length g.length))).length ≤ 10000 := by
      rw [List.length_zipWith, pad_len _ (Nat.le_max_left _ _), pad_len _ (Nat.le_max_right _ _)]
      omega
    refine run_last (run_ret (ed_call (ea_cons ((ed_lcm (fun d => match d with | .tuple [a, b] => nD ((toF a : F q) + toF b) | _ => .none) (ei_zipT (ea_cons (ed_var rfl) (ea_cons (ed_var rfl) ea_nil))) ?_ fun i x hx => ?_).lst ?_) ea_nil) (.mk q _ hl)))
    · unfold zipD
      rw [List.length_zipWith, len_tD, len_tD, pad_len _ (Nat.le_max_left _ _), pad_len _ (Nat.le_max_right _ _)]
      omega
    · obtain ⟨x, y, hx1, hy, rfl⟩ := zipD_at hx
      obtain ⟨a, _, rfl⟩ := map_nD hx1
      obtain ⟨b, _, rfl⟩ := map_nD hy
      refine ⟨_, _, bd_tup rfl (bds_cons (bds_cons bds_nil)), fun j hj => hj, (ed_call (ea_cons (ed_var rfl) (ea_cons (ed_var rfl) (ea_cons (ed_var rfl) ea_nil))) (.mk q a b)).to ?_⟩
      show nD (a + b) = nD ((toF (nD a) : F q) + toF (nD b))
      rw [toF_nD, toF_nD]
    · unfold zipD
      generalize pad f (max f.length g.length) = u
      generalize pad g (max f.length g.length) = v
      induction u generalizing v with
      | nil => rfl
      | cons a u ih =>
        cases v with
        | nil => rfl
        | cons b v =>
          have h := ih v
          simp only [List.map_cons, List.zipWith_cons_cons, h, List.cons.injEq, and_true]
          rw [toF_nD, toF_nD]
abbrev N_one_opposite : List Str := ["q", "f", "a"]
theorem sc_one_opposite : FnScope N_one_opposite ["q", "f"] (defScope s_one_opposite) := ⟨rfl, rfl, rfl, by decide +kernel, rfl, by decide +kernel, by decide +kernel⟩
theorem ok_one_opposite (T : Top K mg) : Has P w K mg base 2 "one_opposite" ["q", "f"] (spR K R_one_opposite) := by
  obtain ⟨f, fd, g, Fd⟩ := T.def_ 14 d_one_opposite rfl
  have nd := sc_one_opposite.nd
  have h_opposite := ok_opposite (P := P) (w := w) (base := base) T
  refine has_of g Fd sc_one_opposite (fun _ _ _ _ _ _ us hl => match us, hl with | [_, _], _ => rfl) (fun _ _ h => by cases h <;> rfl) fun cdv A outer s H E hr ds d h => ?_
  refine ⟨_, (pss_one (ps_ret (pe_callTy call_tuple_of rfl (T.free 13 _ rfl) boot_tuple (pa_cons (pe_lc (own := [("a", 2)]) rfl nd (pi_tup (pv 1)) (blkOk_by (own := [("a", 2)]) (N := N_one_opposite) (sc := defScope s_one_opposite) (by decide +kernel)) (fun _ _ _ _ _ => (pg_name (i := 2) nd rfl (Or.inl rfl))) (fun _ _ _ _ _ => pts_nil) (fun _ _ _ _ _ => (pe_callH h_opposite hr (by decide) rfl (pa_cons (pv 0) (pa_cons (pv 2) pa_nil))))) pa_nil)))), ?_⟩
  cases h with
  | mk q f hf =>
  refine run_last (run_ret ((ed_cb (ea_cons (ed_lcm (fun d => nD (-(toF d : F q))) (ei_tup (ed_var rfl)) (by rw [len_tD]; omega) fun i x hx => ?_) ea_nil) rc_tupL).to ?_))
  · obtain ⟨a, _, rfl⟩ := map_nD hx
    refine ⟨_, _, bd_name, fun j hj => hj, (ed_call (ea_cons (ed_var rfl) (ea_cons (ed_var rfl) ea_nil)) (.mk q a)).to ?_⟩
    rw [toF_nD]
  · rw [map_map_nD (g := fun a => -a) fun a => by rw [toF_nD]]
    rfl
abbrev N_one_scaled : List Str := ["q", "f", "number", "a"]
theorem sc_one_scaled : FnScope N_one_scaled ["q", "f", "number"] (defScope s_one_scaled) := ⟨rfl, rfl, rfl, by decide +kernel, rfl, by decide +kernel, by decide +kernel⟩
theorem ok_one_scaled (T : Top K mg) : Has P w K mg base 2 "one_scaled" ["q", "f", "number"] (spR K R_one_scaled) := by
  obtain ⟨f, fd, g, Fd⟩ := T.def_ 15 d_one_scaled rfl
  have nd := sc_one_scaled.nd
  have h_trimmed := ok_trimmed (P := P) (w := w) (base := base) T
  have h_times := ok_times (P := P) (w := w) (base := base) T
  refine has_of g Fd sc_one_scaled (fun _ _ _ _ _ _ us hl => match us, hl with | [_, _, _], _ => rfl) (fun _ _ h => by cases h <;> rfl) fun cdv A outer s H E hr ds d h => ?_
  refine ⟨_, (pss_one (ps_ret (pe_callH h_trimmed hr (by decide) rfl (pa_cons (pe_lc (own := [("a", 3)]) rfl nd (pi_tup (pv 1)) (blkOk_by (own := [("a", 3)]) (N := N_one_scaled) (sc := defScope s_one_scaled) (by decide +kernel)) (fun _ _ _ _ _ => (pg_name (i := 3) nd rfl (Or.inl rfl))) (fun _ _ _ _ _ => pts_nil) (fun _ _ _ _ _ => (pe_callH h_times hr (by decide) rfl (pa_cons (pv 0) (pa_cons (pv 3) (pa_cons (pv 2) pa_nil)))))) pa_nil)))), ?_⟩
  cases h with
  | mk q f c hf =>
  refine run_last (run_ret (ed_call (ea_cons ((ed_lcm (fun d => nD ((toF d : F q) * c)) (ei_tup (ed_var rfl)) (by rw [len_tD]; omega) fun i x hx => ?_).lst (map_map_nD (g := fun a => a * c) (fun a => by rw [toF_nD]) f)) ea_nil) (.mk q _ (by rw [List.length_map]; omega))))
  obtain ⟨a, _, rfl⟩ := map_nD hx
  refine ⟨_, _, bd_name, fun j hj => hj, (ed_call (ea_cons (ed_var rfl) (ea_cons (ed_var rfl) (ea_cons (ed_var rfl) ea_nil))) (.mk q a c)).to ?_⟩
  rw [toF_nD]
abbrev N_one_times : List Str := ["q", "f", "g", "found", "i", "a", "j", "b"]
theorem sc_one_times : FnScope N_one_times ["q", "f", "g"] (defScope s_one_times) := ⟨rfl, rfl, rfl, by decide +kernel, rfl, by decide +kernel, by decide +kernel⟩
theorem ok_one_times (T : Top K mg) : Has P w K mg base 2 "one_times" ["q", "f", "g"] (spR K R_one_times) := by
  obtain ⟨f, fd, g, Fd⟩ := T.def_ 16 d_one_times rfl
  have nd := sc_one_times.nd
  have h_trimmed := ok_trimmed (P := P) (w := w) (base := base) T
  have h_plus := ok_plus (P := P) (w := w) (base := base) T
  have h_times := ok_times (P := P) (w := w) (base := base) T
  refine has_of g Fd sc_one_times (fun _ _ _ _ _ _ us hl => match us, hl with | [_, _, _], _ => rfl) (fun _ _ h => by cases h <;> rfl) fun cdv A outer s H E hr ds d h => ?_
  refine ⟨_, (pss_cons (ps_set (i := 3) nd rfl (Or.inl rfl) (pe_op op_rep (pe_lst (pa_cons pe_int pa_nil)) (pe_op op_add (pe_callB call_len_seq rfl (T.free 6 _ rfl) boot_len (pa_cons (pv 1) pa_nil)) (pe_callB call_len_seq rfl (T.free 6 _ rfl) boot_len (pa_cons (pv 2) pa_nil))))) (pss_cons (ps_for PassesOwn.never rfl (pi_enumT rfl (T.free 3 _ rfl) (pa_cons (pv 1) pa_nil)) (pg_tup rfl (pgs_cons (pg_name (i := 4) nd rfl (Or.inl rfl)) (pgs_cons (pg_name (i := 5) nd rfl (Or.inl rfl)) pgs_nil))) (pss_one (ps_for PassesOwn.never rfl (pi_enumT rfl (T.free 3 _ rfl) (pa_cons (pv 2) pa_nil)) (pg_tup rfl (pgs_cons (pg_name (i := 6) nd rfl (Or.inl rfl)) (pgs_cons (pg_name (i := 7) nd rfl (Or.inl rfl)) pgs_nil))) (pss_one (ps_asg (pe_callH h_plus hr (by decide) rfl (pa_cons (pv 0) (pa_cons (pe_ix ix_list (pv 3) (pe_op op_add (pv 4) (pv 6)) (fun _ _ => rfl)) (pa_cons (pe_callH h_times hr (by decide) rfl (pa_cons (pv 0) (pa_cons (pv 5) (pa_cons (pv 7) pa_nil)))) pa_nil)))) (pg_sub (pv 3) (pe_op op_add (pv 4) (pv 6)) set_list)))))) (pss_one (ps_ret (pe_callH h_trimmed hr (by decide) rfl (pa_cons (pv 3) pa_nil)))))), ?_⟩
  cases h with
  | mk q f g h1 h2 =>
  have hz : ((f.map nD).length : Int) + ((g.map nD).length : Int) = ((f.length + g.length : Nat) : Int) := by
    rw [len_tD, len_tD]
    omega
  refine run_new (xs := (outr f g 0).map nD) ((en_rep (ea_cons ed_int ea_nil) ((ed_op (ed_cb (ea_cons (ed_var rfl) ea_nil) rc_lenT) (ed_cb (ea_cons (ed_var rfl) ea_nil) rc_lenT) (rd_I0 fun _ => .int _)).to (congrArg PyData.int hz)) (by omega) (by omega) (by simp; omega) (by decide)).to ?_) fun p => ?_
  · show _ = (List.replicate (f.length + g.length) (0 : F q)).map nD
    rw [List.map_replicate, nD0, Int.toNat_natCast]
    generalize f.length + g.length = n
    induction n with
    | zero => rfl
    | succ n ih =>
      rw [List.replicate_succ, List.flatten_cons, ih, List.replicate_succ]
      rfl
  have enl : (enD (f.map nD)).length = f.length := by rw [enD_len, len_tD]
  have enl2 : (enD (g.map nD)).length = g.length := by rw [enD_len, len_tD]
  refine run_for (fun i => [.dat (.int q), .dat (tD f), .dat (tD g), .own p (.lst ((outr f g i).map nD)), (if i = 0 then .no else .dat (.int ((i - 1 : Nat) : Int))), (if i = 0 then .no else .dat (nD (co f (i - 1)))), (if i = 0 ∨ g.length = 0 then .no else .dat (.int ((g.length - 1 : Nat) : Int))), (if i = 0 ∨ g.length = 0 then .no else .dat (nD (co g (g.length - 1))))]) (ei_enumT (ea_cons (ed_var rfl) ea_nil)) rfl (fun i x hx => ?_) ?_
  · have hi : i < f.length := by
      have := (List.getElem?_eq_some_iff.mp hx).1
      omega
    obtain ⟨y, hy, rfl⟩ := enD_at hx
    rw [at_nD hi] at hy
    cases hy
    refine ⟨_, _, bd_tup rfl (bds_cons (bds_cons bds_nil)), run_last (run_for (fun j => [.dat (.int q), .dat (tD f), .dat (tD g), .own p (.lst ((inn (outr f g i) i (co f i) g j).map nD)), .dat (.int (i : Nat)), .dat (nD (co f i)), (if j = 0 then (if i = 0 ∨ g.length = 0 then .no else .dat (.int ((g.length - 1 : Nat) : Int))) else .dat (.int ((j - 1 : Nat) : Int))), (if j = 0 then (if i = 0 ∨ g.length = 0 then .no else .dat (nD (co g (g.length - 1)))) else .dat (nD (co g (j - 1))))]) (ei_enumT (ea_cons (ed_var rfl) ea_nil)) rfl (fun j x hx => ?_) ?_)⟩
    · have hj : j < g.length := by
        have := (List.getElem?_eq_some_iff.mp hx).1
        omega
      obtain ⟨y, hy, rfl⟩ := enD_at hx
      rw [at_nD hj] at hy
      cases hy
      have e1 : ((i : Nat) : Int) + ((j : Nat) : Int) = ((i + j : Nat) : Int) := by omega
      have hlen : (inn (outr f g i) i (co f i) g j).length = f.length + g.length := by rw [inn_len, outr_len]
      have hk : ixN ((inn (outr f g i) i (co f i) g j).map nD).length ((i + j : Nat) : Int) = some (i + j) := Evl.ixN_nat (by rw [len_tD, hlen]; omega)
      refine ⟨_, _, bd_tup rfl (bds_cons (bds_cons bds_nil)), run_last (run_setL rfl (ed_call (ea_cons (ed_var rfl) (ea_cons (ed_ixO rfl ((ed_op (ed_var rfl) (ed_var rfl) (rd_I0 fun _ => .int _)).to (congrArg PyData.int e1)) (atI_nD (by rw [hlen]; omega))) (ea_cons (ed_call (ea_cons (ed_var rfl) (ea_cons (ed_var rfl) (ea_cons (ed_var rfl) ea_nil))) (.mk q (co f i) (co g j))) ea_nil))) (.mk q _ _)) ((ed_op (ed_var rfl) (ed_var rfl) (rd_I0 fun _ => .int _)).to (congrArg PyData.int e1)) hk (run_end.to ?_))⟩
      rw [← List.map_set]
      rfl
    · refine run_end.to ?_
      rw [enl2]
      by_cases z : g.length = 0
      · rw [z]
        simp only [or_true, if_true, outr, z]
        rfl
      · simp only [if_neg z, z, or_false, if_neg (Nat.succ_ne_zero i)]
        rfl
  · rw [enl]
    have hl : (outr f g f.length).length ≤ 10000 := by rw [outr_len]; omega
    exact run_fz (i := 3) rfl (run_last (run_ret (ed_call (ea_cons (ed_var rfl) ea_nil) (.mk q _ hl))))
abbrev N_one_put : List Str := ["q", "f", "g", "found", "a"]
theorem sc_one_put : FnScope N_one_put ["q", "f", "g"] (defScope s_one_put) := ⟨rfl, rfl, rfl, by decide +kernel, rfl, by decide +kernel, by decide +kernel⟩
theorem ok_one_put (T : Top K mg) : Has P w K mg base 3 "one_put" ["q", "f", "g"] (spR K R_one_put) := by
  obtain ⟨f, fd, g, Fd⟩ := T.def_ 17 d_one_put rfl
  have nd := sc_one_put.nd
  have h_one_plus := ok_one_plus (P := P) (w := w) (base := base) T
  have h_one_times := ok_one_times (P := P) (w := w) (base := base) T
  have h_trimmed := ok_trimmed (P := P) (w := w) (base := base) T
  refine has_of g Fd sc_one_put (fun _ _ _ _ _ _ us hl => match us, hl with | [_, _, _], _ => rfl) (fun _ _ h => by cases h <;> rfl) fun cdv A outer s H E hr ds d h => ?_
  refine ⟨_, (pss_cons (ps_set (i := 3) nd rfl (Or.inl rfl) (pe_tup pa_nil)) (pss_cons (ps_for PassesOwn.never rfl (pi_tup (pe_revT (pv 1))) (pg_name (i := 4) nd rfl (Or.inl rfl)) (pss_one (ps_set (i := 3) nd rfl (Or.inl rfl) (pe_callH h_one_plus hr (by decide) rfl (pa_cons (pv 0) (pa_cons (pe_callH h_one_times hr (by decide) rfl (pa_cons (pv 0) (pa_cons (pv 3) (pa_cons (pv 2) pa_nil)))) (pa_cons (pe_callH h_trimmed hr (by decide) rfl (pa_cons (pe_lst (pa_cons (pv 4) pa_nil)) pa_nil)) pa_nil))))))) (pss_one (ps_ret (pv 3))))), ?_⟩
  cases h with
  | mk q f g h1 h2 =>
  refine run_set (ed_tup ea_nil (Nat.zero_le _)) ?_
  have er : (f.map nD).reverse = f.reverse.map nD := by rw [List.map_reverse]
  have elen : (f.map nD).reverse.length = f.length := by rw [List.length_reverse, len_tD]
  refine run_for (fun i => [.dat (.int q), .dat (tD f), .dat (tD g), .dat (tD (onePutR g [] (f.reverse.take i))), (if i = 0 then .no else .dat (nD (co f.reverse (i - 1))))]) (ei_tup (ed_revT (ed_var rfl))) rfl (fun i x hx => ?_) ?_
  · have hi : i < f.reverse.length := by
      have := (List.getElem?_eq_some_iff.mp hx).1
      rw [elen] at this
      rwa [List.length_reverse]
    rw [er, at_nD hi] at hx
    cases hx
    have hb := onePutR_le g (f.reverse.take i)
    have hb2 : (f.reverse.take i).length * (g.length + 1) ≤ 20 * 21 := Nat.mul_le_mul (by rw [List.length_take]; rw [List.length_reverse] at *; omega) (by omega)
    refine ⟨_, _, bd_name, run_last (run_set (ed_call (ea_cons (ed_var rfl) (ea_cons (ed_call (ea_cons (ed_var rfl) (ea_cons (ed_var rfl) (ea_cons (ed_var rfl) ea_nil))) (.mk q (onePutR g [] (f.reverse.take i)) g (by omega) (by omega))) (ea_cons (ed_call (ea_cons (ed_lst (ds := [co f.reverse i].map nD) (ea_cons (ed_var rfl) ea_nil) (Nat.le_of_ble_eq_true rfl)) ea_nil) (.mk q [co f.reverse i] (Nat.le_of_ble_eq_true rfl))) ea_nil))) (.mk q _ _ ?_ ?_)) (run_end.to ?_))⟩
    · exact Nat.le_trans (oneTimes_le _ _) (by omega)
    · exact Nat.le_trans (trim_le _) (Nat.le_of_ble_eq_true rfl)
    · have e1 : f.reverse.take (i + 1) = f.reverse.take i ++ [co f.reverse i] := by
        rw [List.take_add_one, co_some hi]
        rfl
      rw [e1, onePutR_snoc, if_neg (Nat.succ_ne_zero i)]
      rfl
  · have e2 : f.reverse.take (f.map nD).reverse.length = f.reverse := by
      rw [elen, ← List.length_reverse, List.take_length]
    rw [e2]
    exact run_last (run_ret (ed_var rfl))
end
end K19

/-! TEXT K19W3 -/
set_option Elab.async false
set_option linter.all false
set_option maxRecDepth 100000
set_option maxHeartbeats 4000000
set_option autoImplicit false
/-! The walks, 3: straight maps, steps. -/
namespace K19
open PySem PySem.Spec PyProof.Rows L2
open Evl (Ex)
section
variable {K : PySem.W.Frag} {ρ : Ro} {a b c d e f : TE} {u v x y z w : PyData}
theorem ea1 (h : Ed K a ρ u) : EdA K (tCons a tNil) ρ [u] := ea_cons h ea_nil
theorem ea2 (h : Ed K a ρ u) (k : Ed K b ρ v) : EdA K (tCons a (tCons b tNil)) ρ [u, v] := ea_cons h (ea1 k)
theorem ea3 (h : Ed K a ρ u) (k : Ed K b ρ v) (l : Ed K c ρ x) : EdA K (tCons a (tCons b (tCons c tNil))) ρ [u, v, x] := ea_cons h (ea2 k l)
theorem ea4 (h : Ed K a ρ u) (k : Ed K b ρ v) (l : Ed K c ρ x) (m : Ed K d ρ y) : EdA K (tCons a (tCons b (tCons c (tCons d tNil)))) ρ [u, v, x, y] := ea_cons h (ea3 k l m)
theorem ea5 (h : Ed K a ρ u) (k : Ed K b ρ v) (l : Ed K c ρ x) (m : Ed K d ρ y) (n : Ed K e ρ z) : EdA K (tCons a (tCons b (tCons c (tCons d (tCons e tNil))))) ρ [u, v, x, y, z] := ea_cons h (ea4 k l m n)
theorem ea6 (h : Ed K a ρ u) (k : Ed K b ρ v) (l : Ed K c ρ x) (m : Ed K d ρ y) (n : Ed K e ρ z) (o : Ed K f ρ w) : EdA K (tCons a (tCons b (tCons c (tCons d (tCons e (tCons f tNil)))))) ρ [u, v, x, y, z, w] := ea_cons h (ea5 k l m n o)
end
theorem ed_slTe {K : PySem.W.Frag} {ρ : Ro} {te : TE} {tl th : TO} {lo hi : Option Int} {ds es : List PyData} (h : Ed K te ρ (.tuple ds)) (h1 : EdO K tl ρ lo) (h2 : EdO K th ρ hi) (e : cutD ds lo hi = es) : Ed K (tSl (rSlA K) te tl th) ρ (.tuple es) := e ▸ ed_slT h h1 h2
theorem ed_to {K : PySem.W.Frag} {ρ : Ro} {te : TE} {d x : PyData} (h : Ed K te ρ d) (e : d = x) : Ed K te ρ x := e ▸ h
theorem le5 {n : Nat} (h : Nat.ble n 100000 = true) : n ≤ 100000 := Nat.le_of_ble_eq_true h
section
variable {q : Nat} [Fld q]
abbrev mD (m : SM q) : PyData := .tuple [nD m.a, nD m.b, nD m.c, nD m.d, nD m.e, nD m.f]
def oI (r : Option (F q)) : Int := match r with
  | none => -1
  | some r => r.v
abbrev rD (r : Option (F q)) : PyData := .int (oI r)
abbrev bD (bs : List (List (F q))) : PyData := .tuple (bs.map tD)
abbrev sD (s : ST q) : PyData := .tuple [rD s.start, bD s.bends, tD s.turns, mD s.last]
def pD : Pc q → PyData
  | .str m => .tuple [.str "straight", mD m]
  | .bnd b => .tuple [.str "bend", tD b]
theorem oI_iff {r : Option (F q)} : oI r = -1 ↔ r = none := by
  cases r with
  | none => exact ⟨fun _ => rfl, fun _ => rfl⟩
  | some r => exact ⟨fun h => by have h : ((r.v : Nat) : Int) = -1 := h; omega, fun h => nomatch h⟩
theorem rdec {r : Option (F q)} : decide (oI r = -1) = r.isNone := by
  cases r with
  | none => rfl
  | some r => exact decide_eq_false fun h => nomatch oI_iff.mp h
theorem fl_bD {bs : List (List (F q))} {n : Nat} : Fl (n + 2) (bD bs) := fl_tup fun d hd => by
  obtain ⟨a, _, rfl⟩ := List.mem_map.mp hd
  exact fl_tD
theorem fl_nil {n : Nat} : Fl (n + 1) (.tuple []) := fl_tup fun d hd => absurd hd List.not_mem_nil
end
inductive R_map_determinant : List PyData → PyData → Prop
  | mk (q : Nat) [Fld q] (m : SM q) : R_map_determinant [.int q, mD m] (nD m.det)
inductive R_is_straight : List PyData → PyData → Prop
  | mk (q : Nat) [Fld q] (m : SM q) (h : m.det ≠ 0) : R_is_straight [.int q, mD m] (.bool true)
inductive R_is_bend : List PyData → PyData → Prop
  | mk (q : Nat) [Fld q] (b : List (F q)) (h : Bend b) : R_is_bend [.int q, tD b] (.bool true)
inductive R_turn_map : List PyData → PyData → Prop
  | mk (q : Nat) [Fld q] (r : F q) : R_turn_map [nD r] (mD (SM.turn r))
inductive R_sum_of_products : List PyData → PyData → Prop
  | mk (q : Nat) [Fld q] (a b c d : F q) : R_sum_of_products [.int q, nD a, nD b, nD c, nD d] (nD (a * b + c * d))
inductive R_straight_then : List PyData → PyData → Prop
  | mk (q : Nat) [Fld q] (x y : SM q) : R_straight_then [.int q, mD x, mD y] (mD (SM.thn x y))
inductive R_straight_back : List PyData → PyData → Prop
  | mk (q : Nat) [Fld q] (x : SM q) : R_straight_back [.int q, mD x] (mD x.back)
inductive R_split_map : List PyData → PyData → Prop
  | mk (q : Nat) [Fld q] (x : SM q) : R_split_map [.int q, mD x] (.tuple [rD (split x).1, mD (split x).2])
inductive R_bend_through : List PyData → PyData → Prop
  | mk (q : Nat) [Fld q] (m : SM q) (b : List (F q)) (h : b.length ≤ 20) (hw : 3 ≤ (thruW m b).length) (hw2 : (thruW m b).length ≤ 20) : R_bend_through [.int q, mD m, tD b] (.tuple [tD (thruB m b), mD (thruM m b)])
inductive R_turned_map : List PyData → PyData → Prop
  | mk (q : Nat) [Fld q] (r : Option (F q)) (m : SM q) : R_turned_map [.int q, rD r, mD m] (mD (turned r m))
inductive R_with_straight : List PyData → PyData → Prop
  | mk (q : Nat) [Fld q] (s : ST q) (m : SM q) : R_with_straight [.int q, sD s, mD m] (sD (s.wStr m))
inductive R_with_bend : List PyData → PyData → Prop
  | mk (q : Nat) [Fld q] (s : ST q) (b : List (F q)) (hs : s.Ok) (hb : Bend b) (hl : s.bends.length ≤ 1000) : R_with_bend [.int q, sD s, tD b] (sD (s.wBnd b))
section
variable {P : Program} {w : World} {K : PySem.W.Frag} {mg : Str → Option Value} {base : Heap}
abbrev N_map_determinant : List Str := ["q", "m"]
theorem sc_map_determinant : FnScope N_map_determinant ["q", "m"] (defScope s_map_determinant) := ⟨rfl, rfl, rfl, by decide +kernel, rfl, by decide +kernel, by decide +kernel⟩
theorem ok_map_determinant (T : Top K mg) : Has P w K mg base 3 "map_determinant" ["q", "m"] (spR K R_map_determinant) := by
  obtain ⟨f, fd, g, Fd⟩ := T.def_ 30 d_map_determinant rfl
  have nd := sc_map_determinant.nd
  have h_minus := ok_minus (P := P) (w := w) (base := base) T
  have h_times := ok_times (P := P) (w := w) (base := base) T
  refine has_of g Fd sc_map_determinant (fun _ _ _ _ _ _ us hl => match us, hl with | [_, _], _ => rfl) (fun _ _ h => by cases h <;> rfl) fun cdv A outer s H E hr ds d h => ?_
  refine ⟨_, (pss_one (ps_ret (pe_callH h_minus hr (by decide) rfl (pa_cons (pv 0) (pa_cons (pe_callH h_times hr (by decide) rfl (pa_cons (pv 0) (pa_cons (pe_ix ix_tup (pv 1) pe_int (fun _ _ => rfl)) (pa_cons (pe_ix ix_tup (pv 1) pe_int (fun _ _ => rfl)) pa_nil)))) (pa_cons (pe_callH h_times hr (by decide) rfl (pa_cons (pv 0) (pa_cons (pe_ix ix_tup (pv 1) pe_int (fun _ _ => rfl)) (pa_cons (pe_ix ix_tup (pv 1) pe_int (fun _ _ => rfl)) pa_nil)))) pa_nil)))))), ?_⟩
  cases h with
  | mk q m =>
  exact run_last (run_ret (ed_call (ea3 (ed_var rfl) (ed_call (ea3 (ed_var rfl) (ed_op (ed_var rfl) ed_int (rd_ixT rfl)) (ed_op (ed_var rfl) ed_int (rd_ixT rfl))) (.mk q m.a m.e)) (ed_call (ea3 (ed_var rfl) (ed_op (ed_var rfl) ed_int (rd_ixT rfl)) (ed_op (ed_var rfl) ed_int (rd_ixT rfl))) (.mk q m.b m.d))) (.mk q _ _)))
abbrev N_is_straight : List Str := ["q", "thing"]
theorem sc_is_straight : FnScope N_is_straight ["q", "thing"] (defScope s_is_straight) := ⟨rfl, rfl, rfl, by decide +kernel, rfl, by decide +kernel, by decide +kernel⟩
theorem ok_is_straight (T : Top K mg) : Has P w K mg base 4 "is_straight" ["q", "thing"] (spR K R_is_straight) := by
  obtain ⟨f, fd, g, Fd⟩ := T.def_ 31 d_is_straight rfl
  have nd := sc_is_straight.nd
  have h_are_numbers := ok_are_numbers (P := P) (w := w) (base := base) T
  have h_map_determinant := ok_map_determinant (P := P) (w := w) (base := base) T
  refine has_of g Fd sc_is_straight (fun _ _ _ _ _ _ us hl => match us, hl with | [_, _], _ => rfl) (fun _ _ h => by cases h <;> rfl) fun cdv A outer s H E hr ds d h => ?_
  refine ⟨_, (pss_one (ps_ret (pe_and (pe_callH h_are_numbers hr (by decide) rfl (pa_cons (pv 0) (pa_cons (pv 1) pa_nil))) (pe_and (pe_cmpR op_eq (pe_callB call_len_seq rfl (T.free 6 _ rfl) boot_len (pa_cons (pv 1) pa_nil)) pe_int (nomark _)) (pe_one (pe_cmpR op_ne (pe_callH h_map_determinant hr (by decide) rfl (pa_cons (pv 0) (pa_cons (pv 1) pa_nil))) pe_int (nomark _))))))), ?_⟩
  cases h with
  | mk q m hm =>
  refine run_last (run_ret (ed_and (b := true) (ed_call (ea2 (ed_var rfl) (ed_var rfl)) (R_are_numbers.mk q [m.a, m.b, m.c, m.d, m.e, m.f] (Nat.le_of_ble_eq_true rfl))) fun _ => ed_and (a := true) (b := true) ((ed_op (ed_cb (ea1 (ed_var rfl)) rc_lenT) ed_int rd_eqI).to rfl) fun _ => ed_to (ed_op (ed_call (ea2 (ed_var rfl) (ed_var rfl)) (R_map_determinant.mk q m)) ed_int rd_neI) ?_))
  rw [dec0, decide_eq_false hm]
  rfl
abbrev N_is_bend : List Str := ["q", "thing"]
theorem sc_is_bend : FnScope N_is_bend ["q", "thing"] (defScope s_is_bend) := ⟨rfl, rfl, rfl, by decide +kernel, rfl, by decide +kernel, by decide +kernel⟩
theorem ok_is_bend (T : Top K mg) : Has P w K mg base 5 "is_bend" ["q", "thing"] (spR K R_is_bend) := by
  obtain ⟨f, fd, g, Fd⟩ := T.def_ 32 d_is_bend rfl
  have nd := sc_is_bend.nd
  have h_is_one_letter := ok_is_one_letter (P := P) (w := w) (base := base) T
  refine has_of g Fd sc_is_bend (fun _ _ _ _ _ _ us hl => match us, hl with | [_, _], _ => rfl) (fun _ _ h => by cases h <;> rfl) fun cdv A outer s H E hr ds d h => ?_
  refine ⟨_, (pss_one (ps_ret (pe_and (pe_callH h_is_one_letter hr (by decide) rfl (pa_cons (pv 0) (pa_cons (pv 1) pa_nil))) (pe_and (pe_chain op_le op_le pe_int (pe_callB call_len_seq rfl (T.free 6 _ rfl) boot_len (pa_cons (pv 1) pa_nil)) pe_int) (pe_one (pe_cmpR (op_eqD hr.units) (pe_slice sl_tupA (pv 1) po_none (po_some pe_int)) (pe_tup (pa_cons pe_int (pa_cons pe_int pa_nil))) (nomark _))))))), ?_⟩
  cases h with
  | mk q b hb =>
  have h1 := hb.lo
  have h2 := hb.hi
  have e2 : cutD (b.map nD) none (some 2) = [.int 0, .int 0] := by
    have := take_cut (α := PyData) (b.map nD) 2 (by rw [len_tD]; omega)
    have e : cutD (b.map nD) none (some 2) = (b.map nD).take 2 := this
    rw [e]
    match b, h1, hb.z0, hb.z1 with
    | x :: y :: _, _, z0, z1 =>
      have z0 : x = 0 := z0
      have z1 : y = 0 := z1
      rw [z0, z1]
      show [nD (0 : F q), nD 0] = _
      rw [nD0]
  refine run_last (run_ret (ed_and (b := true) (ed_call (ea2 (ed_var rfl) (ed_var rfl)) (R_is_one_letter.mk q b (by omega) (.inr hb.top))) fun _ => ed_and (a := true) (b := true) ((ed_chain (a := true) (b := true) ed_int (ed_cb (ea1 (ed_var rfl)) rc_lenT) (rd_I0 fun _ => ?_) (fun _ => ed_int) fun _ => rd_I0 fun _ => ?_).to rfl) fun _ => (ed_op (ed_slT (ed_var rfl) eo_none (eo_some ed_int)) (ed_tup (ea2 ed_int ed_int) (le5 rfl)) (rd_eqD (x := .tuple (cutD (b.map nD) none (some 2))) ?_ ?_)).to ?_))
  · rw [decide_eq_true (by rw [len_tD]; omega)]
    exact .bl true
  · rw [decide_eq_true (by rw [len_tD]; omega)]
    exact .bl true
  · rw [e2]
    rfl
  · rfl
  · rw [e2]
    rfl
abbrev N_turn_map : List Str := ["e"]
theorem sc_turn_map : FnScope N_turn_map ["e"] (defScope s_turn_map) := ⟨rfl, rfl, rfl, by decide +kernel, rfl, by decide +kernel, by decide +kernel⟩
theorem ok_turn_map (T : Top K mg) : Has P w K mg base 1 "turn_map" ["e"] (spR K R_turn_map) := by
  obtain ⟨f, fd, g, Fd⟩ := T.def_ 33 d_turn_map rfl
  have nd := sc_turn_map.nd
  refine has_of g Fd sc_turn_map (fun _ _ _ _ _ _ us hl => match us, hl with | [_], _ => rfl) (fun _ _ h => by cases h <;> rfl) fun cdv A outer s H E hr ds d h => ?_
  refine ⟨_, (pss_one (ps_ret (pe_tup (pa_cons pe_int (pa_cons pe_int (pa_cons pe_int (pa_cons pe_int (pa_cons (pv 0) (pa_cons pe_int pa_nil))))))))), ?_⟩
  cases h with
  | mk q r =>
  refine run_last (run_ret ((ed_tup (ea6 ed_int ed_int ed_int ed_int (ed_var rfl) ed_int) (le5 rfl)).to ?_))
  show _ = PyData.tuple [nD (0 : F q), nD (1 : F q), nD (0 : F q), nD (1 : F q), nD r, nD (0 : F q)]
  rw [nD0, nD1]
abbrev N_sum_of_products : List Str := ["q", "a", "b", "c", "d"]
theorem sc_sum_of_products : FnScope N_sum_of_products ["q", "a", "b", "c", "d"] (defScope s_sum_of_products) := ⟨rfl, rfl, rfl, by decide +kernel, rfl, by decide +kernel, by decide +kernel⟩
theorem ok_sum_of_products (T : Top K mg) : Has P w K mg base 2 "sum_of_products" ["q", "a", "b", "c", "d"] (spR K R_sum_of_products) := by
  obtain ⟨f, fd, g, Fd⟩ := T.def_ 34 d_sum_of_products rfl
  have nd := sc_sum_of_products.nd
  have h_plus := ok_plus (P := P) (w := w) (base := base) T
  have h_times := ok_times (P := P) (w := w) (base := base) T
  refine has_of g Fd sc_sum_of_products (fun _ _ _ _ _ _ us hl => match us, hl with | [_, _, _, _, _], _ => rfl) (fun _ _ h => by cases h <;> rfl) fun cdv A outer s H E hr ds d h => ?_
  refine ⟨_, (pss_one (ps_ret (pe_callH h_plus hr (by decide) rfl (pa_cons (pv 0) (pa_cons (pe_callH h_times hr (by decide) rfl (pa_cons (pv 0) (pa_cons (pv 1) (pa_cons (pv 2) pa_nil)))) (pa_cons (pe_callH h_times hr (by decide) rfl (pa_cons (pv 0) (pa_cons (pv 3) (pa_cons (pv 4) pa_nil)))) pa_nil)))))), ?_⟩
  cases h with
  | mk q a b c d =>
  exact run_last (run_ret (ed_call (ea3 (ed_var rfl) (ed_call (ea3 (ed_var rfl) (ed_var rfl) (ed_var rfl)) (.mk q a b)) (ed_call (ea3 (ed_var rfl) (ed_var rfl) (ed_var rfl)) (.mk q c d))) (.mk q _ _)))
abbrev N_straight_then : List Str := ["q", "one", "other", "a", "b", "c", "d", "e", "f", "found", "k", "m", "n"]
theorem sc_straight_then : FnScope N_straight_then ["q", "one", "other"] (defScope s_straight_then) := ⟨rfl, rfl, rfl, by decide +kernel, rfl, by decide +kernel, by decide +kernel⟩
theorem ok_straight_then (T : Top K mg) : Has P w K mg base 3 "straight_then" ["q", "one", "other"] (spR K R_straight_then) := by
  obtain ⟨f, fd, g, Fd⟩ := T.def_ 35 d_straight_then rfl
  have nd := sc_straight_then.nd
  have h_plus := ok_plus (P := P) (w := w) (base := base) T
  have h_sum_of_products := ok_sum_of_products (P := P) (w := w) (base := base) T
  refine has_of g Fd sc_straight_then (fun _ _ _ _ _ _ us hl => match us, hl with | [_, _, _], _ => rfl) (fun _ _ h => by cases h <;> rfl) fun cdv A outer s H E hr ds d h => ?_
  refine ⟨_, (pss_cons (ps_asg (pv 1) (pg_tup rfl (pgs_cons (pg_name (i := 3) nd rfl (Or.inl rfl)) (pgs_cons (pg_name (i := 4) nd rfl (Or.inl rfl)) (pgs_cons (pg_name (i := 5) nd rfl (Or.inl rfl)) (pgs_cons (pg_name (i := 6) nd rfl (Or.inl rfl)) (pgs_cons (pg_name (i := 7) nd rfl (Or.inl rfl)) (pgs_cons (pg_name (i := 8) nd rfl (Or.inl rfl)) pgs_nil)))))))) (pss_cons (ps_set (i := 9) nd rfl (Or.inl rfl) (pe_tup pa_nil)) (pss_cons (ps_for PassesOwn.never rfl (pi_tup (pe_tup (pa_cons (pe_slice sl_tupA (pv 2) po_none (po_some pe_int)) (pa_cons (pe_slice sl_tupA (pv 2) (po_some pe_int) po_none) pa_nil)))) (pg_tup rfl (pgs_cons (pg_name (i := 10) nd rfl (Or.inl rfl)) (pgs_cons (pg_name (i := 11) nd rfl (Or.inl rfl)) (pgs_cons (pg_name (i := 12) nd rfl (Or.inl rfl)) pgs_nil)))) (pss_cons (ps_set (i := 9) nd rfl (Or.inl rfl) (pe_op op_catA (pv 9) (pe_tup (pa_cons (pe_callH h_sum_of_products hr (by decide) rfl (pa_cons (pv 0) (pa_cons (pv 10) (pa_cons (pv 3) (pa_cons (pv 11) (pa_cons (pv 6) pa_nil)))))) (pa_cons (pe_callH h_sum_of_products hr (by decide) rfl (pa_cons (pv 0) (pa_cons (pv 10) (pa_cons (pv 4) (pa_cons (pv 11) (pa_cons (pv 7) pa_nil)))))) pa_nil))))) (pss_one (ps_set (i := 9) nd rfl (Or.inl rfl) (pe_op op_catA (pv 9) (pe_tup (pa_cons (pe_callH h_plus hr (by decide) rfl (pa_cons (pv 0) (pa_cons (pe_callH h_sum_of_products hr (by decide) rfl (pa_cons (pv 0) (pa_cons (pv 10) (pa_cons (pv 5) (pa_cons (pv 11) (pa_cons (pv 8) pa_nil)))))) (pa_cons (pv 12) pa_nil)))) pa_nil))))))) (pss_one (ps_ret (pv 9)))))), ?_⟩
  cases h with
  | mk q x y =>
  refine run_asg (ed_var rfl) (bd_tup rfl (bds_cons (bds_cons (bds_cons (bds_cons (bds_cons (bds_cons bds_nil))))))) (run_set (ed_tup ea_nil (le5 rfl)) ?_)
  have hl : EdI K (iTup K (tTup (tCons (tSl (rSlA K) (tVar 2) tNoPart (tPart (tC (.int 3)))) (tCons (tSl (rSlA K) (tVar 2) (tPart (tC (.int 3))) tNoPart) tNil)))) [.dat (.int q), .dat (mD x), .dat (mD y), .dat (nD x.a), .dat (nD x.b), .dat (nD x.c), .dat (nD x.d), .dat (nD x.e), .dat (nD x.f), .dat (.tuple []), .no, .no, .no] [.tuple [nD y.a, nD y.b, nD y.c], .tuple [nD y.d, nD y.e, nD y.f]] :=
    ei_tup (ed_tup (ea2 (ed_slTe (ed_var rfl) eo_none (eo_some ed_int) rfl) (ed_slTe (ed_var rfl) (eo_some ed_int) eo_none rfl)) (le5 rfl))
  have t := SM.thn x y
  refine run_for (fun i => match i with
    | 0 => [.dat (.int q), .dat (mD x), .dat (mD y), .dat (nD x.a), .dat (nD x.b), .dat (nD x.c), .dat (nD x.d), .dat (nD x.e), .dat (nD x.f), .dat (.tuple []), .no, .no, .no]
    | 1 => [.dat (.int q), .dat (mD x), .dat (mD y), .dat (nD x.a), .dat (nD x.b), .dat (nD x.c), .dat (nD x.d), .dat (nD x.e), .dat (nD x.f), .dat (.tuple [nD (SM.thn x y).a, nD (SM.thn x y).b, nD (SM.thn x y).c]), .dat (nD y.a), .dat (nD y.b), .dat (nD y.c)]
    | _ => [.dat (.int q), .dat (mD x), .dat (mD y), .dat (nD x.a), .dat (nD x.b), .dat (nD x.c), .dat (nD x.d), .dat (nD x.e), .dat (nD x.f), .dat (mD (SM.thn x y)), .dat (nD y.d), .dat (nD y.e), .dat (nD y.f)]) hl rfl (fun i z hz => ?_) (run_last (run_ret (ed_var rfl)))
  have hi : i < 2 := (List.getElem?_eq_some_iff.mp hz).1
  match i, hi with
  | 0, _ =>
    cases hz
    exact ⟨_, _, bd_tup rfl (bds_cons (bds_cons (bds_cons bds_nil))), run_set (ed_op (ed_var rfl) (ed_tup (ea2 (ed_call (ea5 (ed_var rfl) (ed_var rfl) (ed_var rfl) (ed_var rfl) (ed_var rfl)) (.mk q y.a x.a y.b x.d)) (ed_call (ea5 (ed_var rfl) (ed_var rfl) (ed_var rfl) (ed_var rfl) (ed_var rfl)) (.mk q y.a x.b y.b x.e))) (le5 rfl)) (rd_catT (le5 rfl)))
      (run_last (run_set (ed_op (ed_var rfl) (ed_tup (ea1 (ed_call (ea3 (ed_var rfl) (ed_call (ea5 (ed_var rfl) (ed_var rfl) (ed_var rfl) (ed_var rfl) (ed_var rfl)) (.mk q y.a x.c y.b x.f)) (ed_var rfl)) (.mk q _ y.c))) (le5 rfl)) (rd_catT (le5 rfl))) run_end))⟩
  | 1, _ =>
    cases hz
    exact ⟨_, _, bd_tup rfl (bds_cons (bds_cons (bds_cons bds_nil))), run_set (ed_op (ed_var rfl) (ed_tup (ea2 (ed_call (ea5 (ed_var rfl) (ed_var rfl) (ed_var rfl) (ed_var rfl) (ed_var rfl)) (.mk q y.d x.a y.e x.d)) (ed_call (ea5 (ed_var rfl) (ed_var rfl) (ed_var rfl) (ed_var rfl) (ed_var rfl)) (.mk q y.d x.b y.e x.e))) (le5 rfl)) (rd_catT (le5 rfl)))
      (run_last (run_set (ed_op (ed_var rfl) (ed_tup (ea1 (ed_call (ea3 (ed_var rfl) (ed_call (ea5 (ed_var rfl) (ed_var rfl) (ed_var rfl) (ed_var rfl) (ed_var rfl)) (.mk q y.d x.c y.e x.f)) (ed_var rfl)) (.mk q _ y.f))) (le5 rfl)) (rd_catT (le5 rfl))) run_end))⟩
abbrev N_straight_back : List Str := ["q", "m", "k", "a", "b", "d", "e", "c"]
theorem sc_straight_back : FnScope N_straight_back ["q", "m"] (defScope s_straight_back) := ⟨rfl, rfl, rfl, by decide +kernel, rfl, by decide +kernel, by decide +kernel⟩
theorem ok_straight_back (T : Top K mg) : Has P w K mg base 4 "straight_back" ["q", "m"] (spR K R_straight_back) := by
  obtain ⟨f, fd, g, Fd⟩ := T.def_ 36 d_straight_back rfl
  have nd := sc_straight_back.nd
  have h_opposite := ok_opposite (P := P) (w := w) (base := base) T
  have h_sum_of_products := ok_sum_of_products (P := P) (w := w) (base := base) T
  have h_times := ok_times (P := P) (w := w) (base := base) T
  have h_inverse := ok_inverse (P := P) (w := w) (base := base) T
  have h_map_determinant := ok_map_determinant (P := P) (w := w) (base := base) T
  refine has_of g Fd sc_straight_back (fun _ _ _ _ _ _ us hl => match us, hl with | [_, _], _ => rfl) (fun _ _ h => by cases h <;> rfl) fun cdv A outer s H E hr ds d h => ?_
  refine ⟨_, (pss_cons (ps_set (i := 2) nd rfl (Or.inl rfl) (pe_callH h_inverse hr (by decide) rfl (pa_cons (pv 0) (pa_cons (pe_callH h_map_determinant hr (by decide) rfl (pa_cons (pv 0) (pa_cons (pv 1) pa_nil))) pa_nil)))) (pss_cons (ps_par (i := 3) (j := 4) rfl nd rfl rfl (by decide) rfl rfl (pa_cons (pe_callH h_times hr (by decide) rfl (pa_cons (pv 0) (pa_cons (pe_ix ix_tup (pv 1) pe_int (fun _ _ => rfl)) (pa_cons (pv 2) pa_nil)))) (pa_cons (pe_callH h_opposite hr (by decide) rfl (pa_cons (pv 0) (pa_cons (pe_callH h_times hr (by decide) rfl (pa_cons (pv 0) (pa_cons (pe_ix ix_tup (pv 1) pe_int (fun _ _ => rfl)) (pa_cons (pv 2) pa_nil)))) pa_nil))) pa_nil)) rfl) (pss_cons (ps_par (i := 5) (j := 6) rfl nd rfl rfl (by decide) rfl rfl (pa_cons (pe_callH h_opposite hr (by decide) rfl (pa_cons (pv 0) (pa_cons (pe_callH h_times hr (by decide) rfl (pa_cons (pv 0) (pa_cons (pe_ix ix_tup (pv 1) pe_int (fun _ _ => rfl)) (pa_cons (pv 2) pa_nil)))) pa_nil))) (pa_cons (pe_callH h_times hr (by decide) rfl (pa_cons (pv 0) (pa_cons (pe_ix ix_tup (pv 1) pe_int (fun _ _ => rfl)) (pa_cons (pv 2) pa_nil)))) pa_nil)) rfl) (pss_cons (ps_set (i := 7) nd rfl (Or.inl rfl) (pe_callH h_opposite hr (by decide) rfl (pa_cons (pv 0) (pa_cons (pe_callH h_sum_of_products hr (by decide) rfl (pa_cons (pv 0) (pa_cons (pv 3) (pa_cons (pe_ix ix_tup (pv 1) pe_int (fun _ _ => rfl)) (pa_cons (pv 4) (pa_cons (pe_ix ix_tup (pv 1) pe_int (fun _ _ => rfl)) pa_nil)))))) pa_nil)))) (pss_one (ps_ret (pe_tup (pa_cons (pv 3) (pa_cons (pv 4) (pa_cons (pv 7) (pa_cons (pv 5) (pa_cons (pv 6) (pa_cons (pe_callH h_opposite hr (by decide) rfl (pa_cons (pv 0) (pa_cons (pe_callH h_sum_of_products hr (by decide) rfl (pa_cons (pv 0) (pa_cons (pv 5) (pa_cons (pe_ix ix_tup (pv 1) pe_int (fun _ _ => rfl)) (pa_cons (pv 6) (pa_cons (pe_ix ix_tup (pv 1) pe_int (fun _ _ => rfl)) pa_nil)))))) pa_nil))) pa_nil))))))))))))), ?_⟩
  cases h with
  | mk q m =>
  refine run_set (ed_call (ea2 (ed_var rfl) (ed_call (ea2 (ed_var rfl) (ed_var rfl)) (.mk q m))) (.mk q m.det)) (run_par (ea2 (ed_call (ea3 (ed_var rfl) (ed_op (ed_var rfl) ed_int (rd_ixT rfl)) (ed_var rfl)) (.mk q m.e (F.inv m.det))) (ed_call (ea2 (ed_var rfl) (ed_call (ea3 (ed_var rfl) (ed_op (ed_var rfl) ed_int (rd_ixT rfl)) (ed_var rfl)) (.mk q m.b (F.inv m.det)))) (.mk q _)))
    (run_par (ea2 (ed_call (ea2 (ed_var rfl) (ed_call (ea3 (ed_var rfl) (ed_op (ed_var rfl) ed_int (rd_ixT rfl)) (ed_var rfl)) (.mk q m.d (F.inv m.det)))) (.mk q _)) (ed_call (ea3 (ed_var rfl) (ed_op (ed_var rfl) ed_int (rd_ixT rfl)) (ed_var rfl)) (.mk q m.a (F.inv m.det))))
    (run_set (ed_call (ea2 (ed_var rfl) (ed_call (ea5 (ed_var rfl) (ed_var rfl) (ed_op (ed_var rfl) ed_int (rd_ixT rfl)) (ed_var rfl) (ed_op (ed_var rfl) ed_int (rd_ixT rfl))) (.mk q _ m.c _ m.f))) (.mk q _))
    (run_last (run_ret ((ed_tup (ea6 (ed_var rfl) (ed_var rfl) (ed_var rfl) (ed_var rfl) (ed_var rfl) (ed_call (ea2 (ed_var rfl) (ed_call (ea5 (ed_var rfl) (ed_var rfl) (ed_op (ed_var rfl) ed_int (rd_ixT rfl)) (ed_var rfl) (ed_op (ed_var rfl) ed_int (rd_ixT rfl))) (R_sum_of_products.mk q _ m.c _ m.f))) (R_opposite.mk q _))) (le5 rfl)).to rfl))))))
abbrev N_split_map : List Str := ["q", "m", "r"]
theorem sc_split_map : FnScope N_split_map ["q", "m"] (defScope s_split_map) := ⟨rfl, rfl, rfl, by decide +kernel, rfl, by decide +kernel, by decide +kernel⟩
theorem ok_split_map (T : Top K mg) : Has P w K mg base 5 "split_map" ["q", "m"] (spR K R_split_map) := by
  obtain ⟨f, fd, g, Fd⟩ := T.def_ 37 d_split_map rfl
  have nd := sc_split_map.nd
  have h_straight_then := ok_straight_then (P := P) (w := w) (base := base) T
  have h_straight_back := ok_straight_back (P := P) (w := w) (base := base) T
  have h_turn_map := ok_turn_map (P := P) (w := w) (base := base) T
  have h_times := ok_times (P := P) (w := w) (base := base) T
  have h_inverse := ok_inverse (P := P) (w := w) (base := base) T
  refine has_of g Fd sc_split_map (fun _ _ _ _ _ _ us hl => match us, hl with | [_, _], _ => rfl) (fun _ _ h => by cases h <;> rfl) fun cdv A outer s H E hr ds d h => ?_
  refine ⟨_, (pss_cons (ps_if (pt_cmpR op_eq (pe_ix ix_tup (pv 1) pe_int (fun _ _ => rfl)) pe_int (nomark _)) (pss_one (ps_ret (pe_tup (pa_cons (pe_un un_neg pe_int) (pa_cons (pv 1) pa_nil))))) pss_nil) (pss_cons (ps_set (i := 2) nd rfl (Or.inl rfl) (pe_callH h_times hr (by decide) rfl (pa_cons (pv 0) (pa_cons (pe_ix ix_tup (pv 1) pe_int (fun _ _ => rfl)) (pa_cons (pe_callH h_inverse hr (by decide) rfl (pa_cons (pv 0) (pa_cons (pe_ix ix_tup (pv 1) pe_int (fun _ _ => rfl)) pa_nil))) pa_nil))))) (pss_one (ps_ret (pe_tup (pa_cons (pv 2) (pa_cons (pe_callH h_straight_then hr (by decide) rfl (pa_cons (pv 0) (pa_cons (pe_callH h_straight_back hr (by decide) rfl (pa_cons (pv 0) (pa_cons (pe_callH h_turn_map hr (by decide) rfl (pa_cons (pv 2) pa_nil)) pa_nil))) (pa_cons (pv 1) pa_nil)))) pa_nil))))))), ?_⟩
  cases h with
  | mk q m =>
  refine run_if (b := decide (m.d = 0)) ((et_test (ed_op (ed_op (ed_var rfl) ed_int (rd_ixT (d := nD m.d) rfl)) ed_int rd_eqI)).to dec0) (fun e => ?_) (fun e => ?_)
  · have e := of_decide_eq_true e
    refine (run_ret (ed_tup (ea2 ed_m1 (ed_var rfl)) (le5 rfl))).to ?_
    unfold split
    rw [if_pos e]
    rfl
  · have e := of_decide_eq_false e
    refine run_next (run_set (ed_call (ea3 (ed_var rfl) (ed_op (ed_var rfl) ed_int (rd_ixT rfl)) (ed_call (ea2 (ed_var rfl) (ed_op (ed_var rfl) ed_int (rd_ixT rfl))) (.mk q m.d))) (.mk q m.e _)) (run_last ((run_ret (ed_tup (ea2 (ed_var rfl) (ed_call (ea3 (ed_var rfl) (ed_call (ea2 (ed_var rfl) (ed_call (ea1 (ed_var rfl)) (R_turn_map.mk q _))) (R_straight_back.mk q _)) (ed_var rfl)) (R_straight_then.mk q _ m))) (le5 rfl))).to ?_)))
    unfold split
    rw [if_neg e]
    rfl
abbrev N_bend_through : List Str := ["q", "m", "bend", "a", "b", "c", "d", "e", "f", "whole", "low", "found"]
theorem sc_bend_through : FnScope N_bend_through ["q", "m", "bend"] (defScope s_bend_through) := ⟨rfl, rfl, rfl, by decide +kernel, rfl, by decide +kernel, by decide +kernel⟩
theorem ok_bend_through (T : Top K mg) : Has P w K mg base 4 "bend_through" ["q", "m", "bend"] (spR K R_bend_through) := by
  obtain ⟨f, fd, g, Fd⟩ := T.def_ 38 d_bend_through rfl
  have nd := sc_bend_through.nd
  have h_plus := ok_plus (P := P) (w := w) (base := base) T
  have h_one_scaled := ok_one_scaled (P := P) (w := w) (base := base) T
  have h_inverse := ok_inverse (P := P) (w := w) (base := base) T
  have h_one_put := ok_one_put (P := P) (w := w) (base := base) T
  have h_trimmed := ok_trimmed (P := P) (w := w) (base := base) T
  refine has_of g Fd sc_bend_through (fun _ _ _ _ _ _ us hl => match us, hl with | [_, _, _], _ => rfl) (fun _ _ h => by cases h <;> rfl) fun cdv A outer s H E hr ds d h => ?_
  refine ⟨_, (pss_cons (ps_asg (pv 1) (pg_tup rfl (pgs_cons (pg_name (i := 3) nd rfl (Or.inl rfl)) (pgs_cons (pg_name (i := 4) nd rfl (Or.inl rfl)) (pgs_cons (pg_name (i := 5) nd rfl (Or.inl rfl)) (pgs_cons (pg_name (i := 6) nd rfl (Or.inl rfl)) (pgs_cons (pg_name (i := 7) nd rfl (Or.inl rfl)) (pgs_cons (pg_name (i := 8) nd rfl (Or.inl rfl)) pgs_nil)))))))) (pss_cons (ps_set (i := 9) nd rfl (Or.inl rfl) (pe_callH h_one_put hr (by decide) rfl (pa_cons (pv 0) (pa_cons (pv 2) (pa_cons (pe_callH h_trimmed hr (by decide) rfl (pa_cons (pe_lst (pa_cons (pv 8) (pa_cons (pv 7) pa_nil))) pa_nil)) pa_nil))))) (pss_cons (ps_set (i := 10) nd rfl (Or.inl rfl) (pe_op op_catA (pe_slice sl_tupA (pv 9) po_none (po_some pe_int)) (pe_tup (pa_cons pe_int (pa_cons pe_int pa_nil))))) (pss_cons (ps_set (i := 11) nd rfl (Or.inl rfl) (pe_callH h_one_scaled hr (by decide) rfl (pa_cons (pv 0) (pa_cons (pe_op op_catA (pe_tup (pa_cons pe_int (pa_cons pe_int pa_nil))) (pe_slice sl_tupA (pv 9) (po_some pe_int) po_none)) (pa_cons (pe_callH h_inverse hr (by decide) rfl (pa_cons (pv 0) (pa_cons (pv 3) pa_nil))) pa_nil))))) (pss_one (ps_ret (pe_tup (pa_cons (pv 11) (pa_cons (pe_tup (pa_cons (pv 3) (pa_cons (pe_callH h_plus hr (by decide) rfl (pa_cons (pv 0) (pa_cons (pv 4) (pa_cons (pe_ix ix_tup (pv 10) pe_int (fun _ _ => rfl)) pa_nil)))) (pa_cons (pe_callH h_plus hr (by decide) rfl (pa_cons (pv 0) (pa_cons (pv 5) (pa_cons (pe_ix ix_tup (pv 10) pe_int (fun _ _ => rfl)) pa_nil)))) (pa_cons (pv 6) (pa_cons (pv 7) (pa_cons (pv 8) pa_nil))))))) pa_nil))))))))), ?_⟩
  cases h with
  | mk q m b hb hw hw2 =>
  have e1 : cutD ((thruW m b).map nD) none (some 2) = [nD (co (thruW m b) 0), nD (co (thruW m b) 1)] := by
    have := take_cut (α := PyData) ((thruW m b).map nD) 2 (by rw [len_tD]; omega)
    have e : cutD ((thruW m b).map nD) none (some 2) = ((thruW m b).map nD).take 2 := this
    rw [e]
    match thruW m b, hw with
    | x :: y :: z, _ => rfl
  have e2 : cutD ((thruW m b).map nD) (some 2) none = ((thruW m b).drop 2).map nD := by
    unfold cutD HT.sIx
    simp only [len_tD]
    rw [List.map_drop]
    have : min ((2 : Int)).toNat (thruW m b).length = 2 := by
      show min 2 _ = 2
      omega
    simp only [show ¬ ((2 : Int) < 0) by decide, if_false, this]
    rw [List.take_of_length_le (by rw [List.length_drop, len_tD]; omega)]
  refine run_asg (ed_var rfl) (bd_tup rfl (bds_cons (bds_cons (bds_cons (bds_cons (bds_cons (bds_cons bds_nil))))))) (run_set (ed_call (ea3 (ed_var rfl) (ed_var rfl) (ed_call (ea1 (ed_lst (ds := [m.f, m.e].map nD) (ea2 (ed_var rfl) (ed_var rfl)) (le5 rfl))) (.mk q [m.f, m.e] (Nat.le_of_ble_eq_true rfl)))) (.mk q b _ hb (Nat.le_trans (trim_le _) (Nat.le_of_ble_eq_true rfl))))
    (run_set (ed_op (ed_slT (ed_var rfl) eo_none (eo_some ed_int)) (ed_tup (ea2 ed_int ed_int) (le5 rfl)) (rd_catT ?_)) (run_set (ed_call (ea3 (ed_var rfl) ((ed_op (ed_tup (ea2 ed_int ed_int) (le5 rfl)) (ed_slT (ed_var rfl) (eo_some ed_int) eo_none) (rd_catT ?_)).to (x := tD ([0, 0] ++ (thruW m b).drop 2)) ?_) (ed_call (ea2 (ed_var rfl) (ed_var rfl)) (.mk q m.a))) (.mk q _ _ ?_))
    (run_last (run_ret (ed_tup (ea2 (ed_var rfl) (ed_tup (ea6 (ed_var rfl) (ed_call (ea3 (ed_var rfl) (ed_var rfl) (ed_op (ed_var rfl) ed_int (rd_ixT (d := nD (co (thruW m b) 1)) ?_))) (.mk q m.b _)) (ed_call (ea3 (ed_var rfl) (ed_var rfl) (ed_op (ed_var rfl) ed_int (rd_ixT (d := nD (co (thruW m b) 0)) ?_))) (.mk q m.c _)) (ed_var rfl) (ed_var rfl) (ed_var rfl)) (le5 rfl))) (le5 rfl)))))))
  · show (cutD ((thruW m b).map nD) none (some 2)).length + 2 ≤ _
    rw [e1]
    exact le5 rfl
  · show 2 + (cutD ((thruW m b).map nD) (some 2) none).length ≤ _
    rw [e2, List.length_map, List.length_drop]
    omega
  · show PyData.tuple ([.int 0, .int 0] ++ cutD ((thruW m b).map nD) (some 2) none) = _
    rw [e2]
    show _ = PyData.tuple (nD (0 : F q) :: nD (0 : F q) :: ((thruW m b).drop 2).map nD)
    rw [nD0]
    rfl
  · rw [List.length_append, List.length_drop]
    show 2 + _ ≤ _
    omega
  · show atI (cutD ((thruW m b).map nD) none (some 2) ++ [.int 0, .int 0]) 1 = _
    rw [e1]
    rfl
  · show atI (cutD ((thruW m b).map nD) none (some 2) ++ [.int 0, .int 0]) 0 = _
    rw [e1]
    rfl
abbrev N_turned_map : List Str := ["q", "r", "m"]
theorem sc_turned_map : FnScope N_turned_map ["q", "r", "m"] (defScope s_turned_map) := ⟨rfl, rfl, rfl, by decide +kernel, rfl, by decide +kernel, by decide +kernel⟩
theorem ok_turned_map (T : Top K mg) : Has P w K mg base 4 "turned_map" ["q", "r", "m"] (spR K R_turned_map) := by
  obtain ⟨f, fd, g, Fd⟩ := T.def_ 39 d_turned_map rfl
  have nd := sc_turned_map.nd
  have h_straight_then := ok_straight_then (P := P) (w := w) (base := base) T
  have h_turn_map := ok_turn_map (P := P) (w := w) (base := base) T
  refine has_of g Fd sc_turned_map (fun _ _ _ _ _ _ us hl => match us, hl with | [_, _, _], _ => rfl) (fun _ _ h => by cases h <;> rfl) fun cdv A outer s H E hr ds d h => ?_
  refine ⟨_, (pss_one (ps_ret (pe_ifExp (pt_cmpR op_eq (pv 1) (pe_un un_neg pe_int) (nomark _)) (pv 2) (pe_callH h_straight_then hr (by decide) rfl (pa_cons (pv 0) (pa_cons (pe_callH h_turn_map hr (by decide) rfl (pa_cons (pv 1) pa_nil)) (pa_cons (pv 2) pa_nil))))))), ?_⟩
  cases h with
  | mk q r m =>
  refine run_last (run_ret (ed_if (b := r.isNone) ((et_test (ed_op (ed_var rfl) ed_m1 rd_eqI)).to rdec) (fun e => ?_) (fun e => ?_)))
  · cases r with
    | none => exact ed_var rfl
    | some r => cases e
  · cases r with
    | none => cases e
    | some r => exact ed_call (ea3 (ed_var rfl) (ed_call (ea1 (ed_var rfl)) (.mk q r)) (ed_var rfl)) (.mk q _ m)
abbrev N_with_straight : List Str := ["q", "step", "m"]
theorem sc_with_straight : FnScope N_with_straight ["q", "step", "m"] (defScope s_with_straight) := ⟨rfl, rfl, rfl, by decide +kernel, rfl, by decide +kernel, by decide +kernel⟩
theorem ok_with_straight (T : Top K mg) : Has P w K mg base 4 "with_straight" ["q", "step", "m"] (spR K R_with_straight) := by
  obtain ⟨f, fd, g, Fd⟩ := T.def_ 40 d_with_straight rfl
  have nd := sc_with_straight.nd
  have h_straight_then := ok_straight_then (P := P) (w := w) (base := base) T
  refine has_of g Fd sc_with_straight (fun _ _ _ _ _ _ us hl => match us, hl with | [_, _, _], _ => rfl) (fun _ _ h => by cases h <;> rfl) fun cdv A outer s H E hr ds d h => ?_
  refine ⟨_, (pss_one (ps_ret (pe_op op_catA (pe_slice sl_tupA (pv 1) po_none (po_some pe_int)) (pe_tup (pa_cons (pe_callH h_straight_then hr (by decide) rfl (pa_cons (pv 0) (pa_cons (pe_ix ix_tup (pv 1) pe_int (fun _ _ => rfl)) (pa_cons (pv 2) pa_nil)))) pa_nil))))), ?_⟩
  cases h with
  | mk q s m =>
  exact run_last (run_ret (ed_op (ed_slTe (es := [rD s.start, bD s.bends, tD s.turns]) (ed_var rfl) eo_none (eo_some ed_int) rfl) (ed_tup (ea1 (ed_call (ea3 (ed_var rfl) (ed_op (ed_var rfl) ed_int (rd_ixT (d := mD s.last) rfl)) (ed_var rfl)) (.mk q s.last m))) (le5 rfl)) (rd_catT (le5 rfl))))
end
end K19

/-! TEXT K19W4 -/
set_option Elab.async false
set_option linter.all false
set_option maxRecDepth 100000
set_option maxHeartbeats 4000000
set_option autoImplicit false
/-! The walks, 4: steps. -/
namespace K19
open PySem PySem.Spec PyProof.Rows L2
open Evl (Ex)
/-! ### rules -/
section
variable {X : Cx} {tg e : Expr} {te : TE}
def iSeq (K : PySem.W.Frag) (te : TE) : TI := fun σ H R => iList K te σ H R ∨ iTup K te σ H R
theorem pi_seq (he : PE X e te) : PI X tg e (iSeq X.K te) := ⟨fun pins s σ H R I h => by
  rcases h with h | h
  · exact (pi_list he).run pins s σ H R I h
  · exact (pi_tup he).run pins s σ H R I h⟩
end
section
variable {K : PySem.W.Frag} {ρ : Ro} {xs ys : List PyData} {te tb : TE}
theorem ei_seqL (h : Ed K te ρ (.list xs)) : EdI K (iSeq K te) ρ xs := fun σ D H0 H s sl R q => .inl (ei_lst h σ D H0 H s sl R q)
theorem ei_seqT (h : Ed K te ρ (.tuple xs)) : EdI K (iSeq K te) ρ xs := fun σ D H0 H s sl R q => .inr (ei_tup h σ D H0 H s sl R q)
/-- the list of the def's own and a new one behind it -/
theorem en_catO {i : Nat} {p : Addr} (hi : ρ[i]? = some (.own p (.lst xs))) (h : EdN K tb ρ ys) (hl : xs.length + ys.length ≤ 100000) : EdN K (tOp rCat (tVar i) tb) ρ (xs ++ ys) := fun σ D H0 H s sl Q q => by
  obtain ⟨z1, _, _⟩ := lst_own sl hi
  refine ⟨_, z1, h σ D H0 H s sl _ fun b vs D1 H1 t1 hb p1 => ?_⟩
  have t2 := t1.tr (Stp.tmp (o := .lst vs) t1.s hb)
  obtain ⟨_, _, ws, y3, y4⟩ := lst_own (sl.mono t2) hi
  exact ⟨p, b, ws, vs, rfl, rfl, y3, upd_same, sz100 (by rw [dpA_len y4, dpA_len p1]; exact hl), fun l hl2 => q l _ D1 _ t2 hl2 (dpA_app y4 p1)⟩
/-- the turn's item, as it stands behind the turn -/
def prv (xs : List PyData) : Nat → Sd
  | 0 => .no
  | i + 1 => match xs[i]? with
    | some d => .dat d
    | none => .no
theorem prv_at {i : Nat} {d : PyData} (h : xs[i]? = some d) : prv xs (i + 1) = .dat d := by
  show (match xs[i]? with | some d => Sd.dat d | none => .no) = _
  rw [h]
theorem cut_init (h : 0 < xs.length) : cutD xs none (some (-1)) = xs.dropLast := by
  unfold cutD HT.sIx
  simp only [show ((-1 : Int) < 0) = True from eq_true (by decide), if_true, List.drop_zero, Nat.sub_zero]
  rw [List.dropLast_eq_take]
  congr 1
  omega
end
section
variable {P : Program} {w : World} {K : PySem.W.Frag} {mg : Str → Option Value} {base : Heap}
/-- a def that ends without a return -/
theorem has_ofN {x : Str} {params : Arguments} {body : List Stmt} {scope : Scope} {f : Addr} {fd : FuncData} {N ps : List Str} {k : Nat} {R : List PyData → PyData → Prop} (g : mg x = some (.ref f)) (F : FunD K x x params body scope [] [] f fd) (S : FnScope N ps scope)
    (hb : ∀ (kV doc pm : Value) (an : Option Addr) (cdv ct : Value) (us : List Value), us.length = ps.length → bindArgs (PySem.W.fnOf x x params body scope .none kV doc pm an cdv ct) ⟨us, []⟩ = pure (ps.zip us))
    (hl : ∀ ds d, R ds d → ds.length = ps.length)
    (hbody : ∀ (cdv : Value) (A : Around) (outer : List Env) (s : Shared) (H : Hp) (E : XK), Room k (A.deeper (envOfC x scope s.heap.objs.size f cdv)) → ∀ ds d, R ds d →
      ∃ t, PSs (cxOf CX0 P w K mg base N x scope f cdv A outer s H E).nox body t ∧ d = .none ∧ ∃ ρ, Run K t (startR N ds) (.nx ρ)) : Has P w K mg base (k + 1) x ps (spR K R) := by
  refine ⟨f, fd, g, F.kp, F.bindsN hb, F.ok S (fun vs H Q E h => ?_) fun cdv A outer s H vs Q E hr h => ?_⟩
  · obtain ⟨ds, d, D, h1, _, h3, _⟩ := h
    rw [dpA_len h3]
    exact hl ds d h1
  · obtain ⟨ds, d, D, h1, h2, h3, h4⟩ := h
    obtain ⟨t, p1, rfl, ρ, p2⟩ := hbody cdv A outer s H E hr ds d h1
    exact ⟨t, p1.nox, p2 (L2.start N vs) H D H _ (Stp.rfl' h2) (sl_start h3) fun σ' D' H' t' _ => h4 .non D' H' t' .non⟩
end
/-! ### what a bend makes of a step -/
section
variable {q : Nat} [Fld q]
theorem thruW_len {m : SM q} {b : List (F q)} (h : m.det ≠ 0) (hd : m.d = 0) (hb : Bend b) : (thruW m b).length = b.length := by
  unfold thruW
  rw [trim_two (det_ne h hd).2]
  exact (onePut_len (det_ne h hd).2 hb.ne hb.top).1
namespace ST
theorem wBnd_nil {s : ST q} {b : List (F q)} (h : s.bends = []) : s.wBnd b = ⟨(split s.last).1, [thruB (split s.last).2 b], [], thruM (split s.last).2 b⟩ := by
  unfold wBnd
  simp only
  rw [if_pos h]
theorem wBnd_some {s : ST q} {b : List (F q)} {r : F q} (h : s.bends ≠ []) (hr : (split s.last).1 = some r) : s.wBnd b = ⟨s.start, s.bends ++ [thruB (split s.last).2 b], s.turns ++ [r], thruM (split s.last).2 b⟩ := by
  unfold wBnd
  simp only
  rw [if_neg h, hr]
theorem wBnd_plus {s : ST q} {b : List (F q)} (h : s.bends ≠ []) (hr : (split s.last).1 = none) (hp : onePlus (s.bends.getLastD []) (thruB (split s.last).2 b) ≠ []) : s.wBnd b = ⟨s.start, s.bends.dropLast ++ [onePlus (s.bends.getLastD []) (thruB (split s.last).2 b)], s.turns, thruM (split s.last).2 b⟩ := by
  unfold wBnd
  simp only
  rw [if_neg h, hr]
  simp only
  rw [if_pos hp]
theorem wBnd_one {s : ST q} {b : List (F q)} (h : s.bends.length = 1) (hr : (split s.last).1 = none) (hp : onePlus (s.bends.getLastD []) (thruB (split s.last).2 b) = []) : s.wBnd b = ⟨none, [], [], turned s.start (thruM (split s.last).2 b)⟩ := by
  unfold wBnd
  simp only
  rw [if_neg (fun e => by rw [e] at h; cases h), hr]
  simp only
  rw [if_neg (fun e => e hp), if_pos h]
theorem wBnd_more {s : ST q} {b : List (F q)} (h0 : s.bends ≠ []) (h : s.bends.length ≠ 1) (hr : (split s.last).1 = none) (hp : onePlus (s.bends.getLastD []) (thruB (split s.last).2 b) = []) : s.wBnd b = ⟨s.start, s.bends.dropLast, s.turns.dropLast, turned (some (s.turns.getLastD 0)) (thruM (split s.last).2 b)⟩ := by
  unfold wBnd
  simp only
  rw [if_neg h0, hr]
  simp only
  rw [if_neg (fun e => e hp), if_neg h]
theorem wBnd_le (s : ST q) (b : List (F q)) : (s.wBnd b).bends.length ≤ s.bends.length + 1 := by
  by_cases h : s.bends = []
  · rw [wBnd_nil h]
    show 1 ≤ _
    omega
  · cases hr : (split s.last).1 with
    | some r =>
      rw [wBnd_some h hr]
      show (s.bends ++ [_]).length ≤ _
      rw [List.length_append]
      exact Nat.le_refl _
    | none =>
      by_cases hp : onePlus (s.bends.getLastD []) (thruB (split s.last).2 b) = []
      · by_cases h1 : s.bends.length = 1
        · rw [wBnd_one h1 hr hp]
          show 0 ≤ _
          omega
        · rw [wBnd_more h h1 hr hp]
          show s.bends.dropLast.length ≤ _
          rw [List.length_dropLast]
          omega
      · rw [wBnd_plus h hr hp]
        show (s.bends.dropLast ++ [_]).length ≤ _
        rw [List.length_append, List.length_dropLast]
        show s.bends.length - 1 + 1 ≤ _
        omega
theorem wPcs_le : ∀ (row : List (Pc q)) (s : ST q), (s.wPcs row).bends.length ≤ s.bends.length + row.length
  | [], s => Nat.le_refl _
  | p :: row, s => by
    show ((s.wPc p).wPcs row).bends.length ≤ _
    have h1 := wPcs_le row (s.wPc p)
    have h2 : (s.wPc p).bends.length ≤ s.bends.length + 1 := by
      cases p with
      | str m => exact Nat.le_succ _
      | bnd b => exact wBnd_le s b
    rw [List.length_cons]
    omega
theorem wPcs_snoc (row : List (Pc q)) (p : Pc q) (s : ST q) : s.wPcs (row ++ [p]) = (s.wPcs row).wPc p := by
  unfold wPcs
  rw [List.foldl_append]
  rfl
theorem tail_both : ∀ (bs : List (List (F q))) (ts : List (F q)) (b : List (F q)) (t : F q), bs.length = ts.length → tail (bs ++ [b]) (ts ++ [t]) = tail bs ts ++ [.bnd b, .str (SM.turn t)]
  | [], [], b, t, _ => rfl
  | [], _ :: _, _, _, h => nomatch h
  | _ :: _, [], _, _, h => nomatch h
  | x :: bs, y :: ts, b, t, h => by
    show Pc.bnd x :: Pc.str (SM.turn y) :: tail (bs ++ [b]) (ts ++ [t]) = _
    rw [tail_both bs ts b t (Nat.succ.inj h)]
    rfl
theorem tail_one : ∀ (bs : List (List (F q))) (ts : List (F q)) (b : List (F q)), bs.length = ts.length → tail (bs ++ [b]) ts = tail bs ts ++ [.bnd b]
  | [], [], b, _ => rfl
  | [], _ :: _, _, h => nomatch h
  | _ :: _, [], _, h => nomatch h
  | x :: bs, y :: ts, b, h => by
    show Pc.bnd x :: Pc.str (SM.turn y) :: tail (bs ++ [b]) ts = _
    rw [tail_one bs ts b (Nat.succ.inj h)]
    rfl
end ST
theorem map_snoc {α β : Type} (f : α → β) (xs : List α) (x : α) : xs.map f ++ [f x] = (xs ++ [x]).map f := by rw [List.map_append]; rfl
end
inductive R_with_pieces : List PyData → PyData → Prop
  | tup (q : Nat) [Fld q] (s : ST q) (row : List (Pc q)) (hs : s.Ok) (hr : ∀ p ∈ row, ST.pcOk p) (hl : s.bends.length + row.length ≤ 1000) : R_with_pieces [.int q, sD s, .tuple (row.map pD)] (sD (s.wPcs row))
  | lst (q : Nat) [Fld q] (s : ST q) (row : List (Pc q)) (hs : s.Ok) (hr : ∀ p ∈ row, ST.pcOk p) (hl : s.bends.length + row.length ≤ 1000) : R_with_pieces [.int q, sD s, .list (row.map pD)] (sD (s.wPcs row))
section
variable {P : Program} {w : World} {K : PySem.W.Frag} {mg : Str → Option Value} {base : Heap}
abbrev N_with_bend : List Str := ["q", "step", "bend", "start", "bends", "turns", "last", "r", "rest", "found"]
theorem sc_with_bend : FnScope N_with_bend ["q", "step", "bend"] (defScope s_with_bend) := ⟨rfl, rfl, rfl, by decide +kernel, rfl, by decide +kernel, by decide +kernel⟩
theorem ok_with_bend (T : Top K mg) : Has P w K mg base 6 "with_bend" ["q", "step", "bend"] (spR K R_with_bend) := by
  obtain ⟨f, fd, g, Fd⟩ := T.def_ 41 d_with_bend rfl
  have nd := sc_with_bend.nd
  have h_turned_map := ok_turned_map (P := P) (w := w) (base := base) T
  have h_one_plus := ok_one_plus (P := P) (w := w) (base := base) T
  have h_bend_through := ok_bend_through (P := P) (w := w) (base := base) T
  have h_split_map := ok_split_map (P := P) (w := w) (base := base) T
  refine has_of g Fd sc_with_bend (fun _ _ _ _ _ _ us hl => match us, hl with | [_, _, _], _ => rfl) (fun _ _ h => by cases h <;> rfl) fun cdv A outer s H E hr ds d h => ?_
  refine ⟨_, (pss_cons (ps_asg (pv 1) (pg_tup rfl (pgs_cons (pg_name (i := 3) nd rfl (Or.inl rfl)) (pgs_cons (pg_name (i := 4) nd rfl (Or.inl rfl)) (pgs_cons (pg_name (i := 5) nd rfl (Or.inl rfl)) (pgs_cons (pg_name (i := 6) nd rfl (Or.inl rfl)) pgs_nil)))))) (pss_cons (ps_asg (pe_callH h_split_map hr (by decide) rfl (pa_cons (pv 0) (pa_cons (pv 6) pa_nil))) (pg_tup rfl (pgs_cons (pg_name (i := 7) nd rfl (Or.inl rfl)) (pgs_cons (pg_name (i := 8) nd rfl (Or.inl rfl)) pgs_nil)))) (pss_cons (ps_asg (pe_callH h_bend_through hr (by decide) rfl (pa_cons (pv 0) (pa_cons (pv 8) (pa_cons (pv 2) pa_nil)))) (pg_tup rfl (pgs_cons (pg_name (i := 9) nd rfl (Or.inl rfl)) (pgs_cons (pg_name (i := 8) nd rfl (Or.inl rfl)) pgs_nil)))) (pss_cons (ps_if (pt_cmpR (op_eqD hr.units) (pv 4) (pe_tup pa_nil) (nomark _)) (pss_one (ps_ret (pe_tup (pa_cons (pv 7) (pa_cons (pe_tup (pa_cons (pv 9) pa_nil)) (pa_cons (pe_tup pa_nil) (pa_cons (pv 8) pa_nil))))))) pss_nil) (pss_cons (ps_if (pt_cmpR op_ne (pv 7) (pe_un un_neg pe_int) (nomark _)) (pss_one (ps_ret (pe_tup (pa_cons (pv 3) (pa_cons (pe_op op_catA (pv 4) (pe_tup (pa_cons (pv 9) pa_nil))) (pa_cons (pe_op op_catA (pv 5) (pe_tup (pa_cons (pv 7) pa_nil))) (pa_cons (pv 8) pa_nil))))))) pss_nil) (pss_cons (ps_set (i := 9) nd rfl (Or.inl rfl) (pe_callH h_one_plus hr (by decide) rfl (pa_cons (pv 0) (pa_cons (pe_ix ix_tup (pv 4) (pe_un un_neg pe_int) (fun _ _ => rfl)) (pa_cons (pv 9) pa_nil))))) (pss_cons (ps_if (pt_cmpR (op_neD hr.units) (pv 9) (pe_tup pa_nil) (nomark _)) (pss_one (ps_ret (pe_tup (pa_cons (pv 3) (pa_cons (pe_op op_catA (pe_slice sl_tupA (pv 4) po_none (po_some (pe_un un_neg pe_int))) (pe_tup (pa_cons (pv 9) pa_nil))) (pa_cons (pv 5) (pa_cons (pv 8) pa_nil))))))) pss_nil) (pss_cons (ps_if (pt_cmpR op_eq (pe_callB call_len_seq rfl (T.free 6 _ rfl) boot_len (pa_cons (pv 4) pa_nil)) pe_int (nomark _)) (pss_one (ps_ret (pe_tup (pa_cons (pe_un un_neg pe_int) (pa_cons (pe_tup pa_nil) (pa_cons (pe_tup pa_nil) (pa_cons (pe_callH h_turned_map hr (by decide) rfl (pa_cons (pv 0) (pa_cons (pv 3) (pa_cons (pv 8) pa_nil)))) pa_nil))))))) pss_nil) (pss_one (ps_ret (pe_tup (pa_cons (pv 3) (pa_cons (pe_slice sl_tupA (pv 4) po_none (po_some (pe_un un_neg pe_int))) (pa_cons (pe_slice sl_tupA (pv 5) po_none (po_some (pe_un un_neg pe_int))) (pa_cons (pe_callH h_turned_map hr (by decide) rfl (pa_cons (pv 0) (pa_cons (pe_ix ix_tup (pv 5) (pe_un un_neg pe_int) (fun _ _ => rfl)) (pa_cons (pv 8) pa_nil)))) pa_nil))))))))))))))), ?_⟩
  cases h with
  | mk q s b hs hb hl =>
  have g1 := split_d s.last
  have g2 : (split s.last).2.det ≠ 0 := by
    rw [split_det]
    split
    · exact F.neg_ne hs.det
    · exact hs.det
  have g3 := thruW_len g2 g1 hb
  have g4 := thru_ok g2 g1 hb
  have b1 := hb.lo
  have b2 := hb.hi
  refine run_asg (ed_var rfl) (bd_tup rfl (bds_cons (bds_cons (bds_cons (bds_cons bds_nil))))) (run_asg (ed_call (ea2 (ed_var rfl) (ed_var rfl)) (R_split_map.mk q s.last)) (bd_tup rfl (bds_cons (bds_cons bds_nil))) (run_asg (ed_call (ea3 (ed_var rfl) (ed_var rfl) (ed_var rfl)) (R_bend_through.mk q _ b (by omega) (by omega) (by omega))) (bd_tup rfl (bds_cons (bds_cons bds_nil))) ?_))
  refine run_if (b := s.bends.isEmpty) (et_test (ed_to (ed_op (ed_var rfl) (ed_tup ea_nil (le5 rfl)) (rd_eqD (fl_bD (n := 1)).shaped (fl_nil (n := 1)).shaped)) ?_)) (fun e => ?_) (fun e => run_next ?_)
  · rw [eqv_nil, List.isEmpty_map]
  · have e : s.bends = [] := List.isEmpty_iff.mp e
    rw [ST.wBnd_nil e]
    exact run_ret (ed_tup (ea4 (ed_var rfl) (ed_tup (ea1 (ed_var rfl)) (le5 rfl)) (ed_tup ea_nil (le5 rfl)) (ed_var rfl)) (le5 rfl))
  have e0 : s.bends ≠ [] := fun z => by rw [z] at e; cases e
  have hpos : 0 < s.bends.length := List.length_pos_iff.mpr e0
  have hlen := hs.len
  refine run_if (b := !(split s.last).1.isNone) (et_test (ed_to (ed_op (ed_var rfl) ed_m1 rd_neI) (by rw [rdec]))) (fun e => ?_) (fun e => run_next ?_)
  · cases hr : (split s.last).1 with
    | none =>
      rw [hr] at e
      cases e
    | some r =>
      rw [ST.wBnd_some e0 hr]
      refine run_ret (ed_to (ed_tup (ea4 (ed_var rfl) (ed_op (ed_var rfl) (ed_tup (ea1 (ed_var rfl)) (le5 rfl)) (rd_catT ?_)) (ed_op (ed_var rfl) (ed_tup (ea1 (ed_var rfl)) (le5 rfl)) (rd_catT ?_)) (ed_var rfl)) (le5 rfl)) ?_)
      · rw [List.length_map]
        show s.bends.length + 1 ≤ _
        omega
      · rw [List.length_map]
        show s.turns.length + 1 ≤ _
        omega
      · show PyData.tuple [_, .tuple (s.bends.map tD ++ [tD _]), .tuple (s.turns.map nD ++ [nD r]), _] = PyData.tuple [_, .tuple ((s.bends ++ [_]).map tD), .tuple ((s.turns ++ [r]).map nD), _]
        rw [List.map_append, List.map_append]
        rfl
  have hr : (split s.last).1 = none := by
    cases hr : (split s.last).1 with
    | none => rfl
    | some r =>
      rw [hr] at e
      cases e
  have elast : atI (s.bends.map tD) (-1) = some (tD (s.bends.getLastD [])) := by
    refine atI_last ?_ (by rw [List.length_map]; exact hpos)
    rw [List.length_map, List.getElem?_map, List.getLastD_eq_getLast?, List.getLast?_eq_getElem?, List.getElem?_eq_getElem (by omega)]
    rfl
  have bl : Bend (s.bends.getLastD []) := hs.bend _ (ST.lastD_mem e0)
  have c1 := bl.hi
  have c2 := g4.1.hi
  refine run_set (ed_call (ea3 (ed_var rfl) (ed_op (ed_var rfl) ed_m1 (rd_ixT elast)) (ed_var rfl)) (R_one_plus.mk q _ _ (by omega) (by omega))) ?_
  have d1 : cutD (s.bends.map tD) none (some (-1)) = s.bends.dropLast.map tD := by
    rw [cut_init (by rw [List.length_map]; exact hpos), List.map_dropLast]
  refine run_if (b := !(onePlus (s.bends.getLastD []) (thruB (split s.last).2 b)).isEmpty) (et_test (ed_to (ed_op (ed_var rfl) (ed_tup ea_nil (le5 rfl)) (rd_neD (fl_tD (n := 1)).shaped (fl_nil (n := 1)).shaped)) ?_)) (fun e => ?_) (fun e => run_next ?_)
  · rw [eqv_nil, List.isEmpty_map]
  · have hp : onePlus (s.bends.getLastD []) (thruB (split s.last).2 b) ≠ [] := fun z => by rw [z] at e; cases e
    rw [ST.wBnd_plus e0 hr hp]
    refine run_ret (ed_to (ed_tup (ea4 (ed_var rfl) (ed_op (ed_slTe (ed_var rfl) eo_none (eo_some ed_m1) d1) (ed_tup (ea1 (ed_var rfl)) (le5 rfl)) (rd_catT ?_)) (ed_var rfl) (ed_var rfl)) (le5 rfl)) ?_)
    · rw [List.length_map, List.length_dropLast]
      show s.bends.length - 1 + 1 ≤ _
      omega
    · show PyData.tuple [_, .tuple (s.bends.dropLast.map tD ++ [tD _]), _, _] = PyData.tuple [_, .tuple ((s.bends.dropLast ++ [_]).map tD), _, _]
      rw [List.map_append]
      rfl
  have hp : onePlus (s.bends.getLastD []) (thruB (split s.last).2 b) = [] := by
    cases z : onePlus (s.bends.getLastD []) (thruB (split s.last).2 b) with
    | nil => rfl
    | cons x y =>
      rw [z] at e
      cases e
  refine run_if (b := decide (s.bends.length = 1)) (et_test (ed_to (ed_op (ed_cb (ea1 (ed_var rfl)) rc_lenT) ed_int rd_eqI) ?_)) (fun e => ?_) (fun e => run_next ?_)
  · rw [List.length_map]
    congr 1
    exact decide_eq_decide.mpr ⟨fun h => by omega, fun h => by omega⟩
  · rw [ST.wBnd_one (of_decide_eq_true e) hr hp]
    exact run_ret (ed_tup (ea4 ed_m1 (ed_tup ea_nil (le5 rfl)) (ed_tup ea_nil (le5 rfl)) (ed_call (ea3 (ed_var rfl) (ed_var rfl) (ed_var rfl)) (R_turned_map.mk q s.start _))) (le5 rfl))
  · have h1 := of_decide_eq_false e
    rw [ST.wBnd_more e0 h1 hr hp]
    have tpos : 0 < s.turns.length := by omega
    have tlast : atI (s.turns.map nD) (-1) = some (nD (s.turns.getLastD 0)) := by
      refine atI_last ?_ (by rw [List.length_map]; exact tpos)
      rw [List.length_map, List.getElem?_map, List.getLastD_eq_getLast?, List.getLast?_eq_getElem?, List.getElem?_eq_getElem (by omega)]
      rfl
    have d2 : cutD (s.turns.map nD) none (some (-1)) = s.turns.dropLast.map nD := by
      rw [cut_init (by rw [List.length_map]; exact tpos), List.map_dropLast]
    exact run_last (run_ret (ed_tup (ea4 (ed_var rfl) (ed_slTe (ed_var rfl) eo_none (eo_some ed_m1) d1) (ed_slTe (ed_var rfl) eo_none (eo_some ed_m1) d2) (ed_call (ea3 (ed_var rfl) (ed_op (ed_var rfl) ed_m1 (rd_ixT tlast)) (ed_var rfl)) (R_turned_map.mk q (some _) _))) (le5 rfl)))
end
end K19

/-! TEXT K19W5 -/
set_option Elab.async false
set_option linter.all false
set_option maxRecDepth 100000
set_option maxHeartbeats 4000000
set_option autoImplicit false
/-! The walks, 5: steps. -/
namespace K19
open PySem PySem.Spec PyProof.Rows L2
open Evl (Ex)
inductive R_pieces_of : List PyData → PyData → Prop
  | mk (q : Nat) [Fld q] (s : ST q) (hs : s.Ok) (hl : s.bends.length ≤ 400) : R_pieces_of [sD s] (.tuple (s.pieces.map pD))
inductive R_then : List PyData → PyData → Prop
  | mk (q : Nat) [Fld q] (x y : ST q) (hx : x.Ok) (hy : y.Ok) (h1 : x.bends.length ≤ 100) (h2 : y.bends.length ≤ 100) : R_then [.int q, sD x, sD y] (sD (x.thn y))
inductive R_back : List PyData → PyData → Prop
  | mk (q : Nat) [Fld q] (s : ST q) (hs : s.Ok) (hl : s.bends.length ≤ 100) : R_back [.int q, sD s] (sD s.back)
inductive R_are_bends : List PyData → PyData → Prop
  | mk (q : Nat) [Fld q] (bs : List (List (F q))) (h : ∀ b ∈ bs, Bend b) (hl : bs.length ≤ 1000) : R_are_bends [.int q, bD bs] (.bool true)
inductive R_are_turns : List PyData → PyData → Prop
  | mk (q : Nat) [Fld q] (ts : List (F q)) (n : Int) (h : n = ts.length) (hl : ts.length ≤ 1000) : R_are_turns [.int q, tD ts, .int n] (.bool true)
inductive R_is_start : List PyData → PyData → Prop
  | mk (q : Nat) [Fld q] (r : Option (F q)) : R_is_start [.int q, rD r] (.bool true)
inductive R_is_step_value : List PyData → PyData → Prop
  | mk (q : Nat) [Fld q] (s : ST q) (hs : s.Ok) (hl : s.bends.length ≤ 1000) : R_is_step_value [.int q, sD s] (.bool true)
inductive R_check_step : List PyData → PyData → Prop
  | mk (q : Nat) [Fld q] (s : ST q) (hs : s.Ok) (hl : s.bends.length ≤ 1000) : R_check_step [.int q, sD s] .none
inductive R_product : List PyData → PyData → Prop
  | mk (q : Nat) [Fld q] (x y : ST q) (hx : x.Ok) (hy : y.Ok) (h1 : x.bends.length ≤ 100) (h2 : y.bends.length ≤ 100) : R_product [.int q, sD x, sD y] (sD (x.thn y))
inductive R_undoing : List PyData → PyData → Prop
  | mk (q : Nat) [Fld q] (s : ST q) (hs : s.Ok) (hl : s.bends.length ≤ 100) : R_undoing [.int q, sD s] (sD s.back)
/-- the degrees of a step -/
def degD {q : Nat} (s : ST q) : PyData := .tuple (s.bends.map fun b => .int ((b.length : Int) - 1))
inductive R_bend_degrees : List PyData → PyData → Prop
  | mk (q : Nat) [Fld q] (s : ST q) (hl : s.bends.length ≤ 1000) : R_bend_degrees [sD s] (degD s)
inductive R_degrees_of : List PyData → PyData → Prop
  | mk (q : Nat) [Fld q] (s : ST q) (hs : s.Ok) (hl : s.bends.length ≤ 1000) : R_degrees_of [.int q, sD s] (degD s)
inductive R_step_determinant : List PyData → PyData → Prop
  | mk (q : Nat) [Fld q] (s : ST q) : R_step_determinant [.int q, sD s] (nD s.det)
inductive R_determinant_of : List PyData → PyData → Prop
  | mk (q : Nat) [Fld q] (s : ST q) (hs : s.Ok) (hl : s.bends.length ≤ 1000) : R_determinant_of [.int q, sD s] (nD s.det)
def pcN : PyData → PyData
  | .tuple [x, _] => x
  | _ => .none
def pcV : PyData → PyData
  | .tuple [_, x] => x
  | _ => .none
theorem map_at {α : Type} {f : α → PyData} {xs : List α} {i : Nat} {x : PyData} (h : (xs.map f)[i]? = some x) : ∃ a, xs[i]? = some a ∧ x = f a := by
  rw [List.getElem?_map] at h
  cases c : xs[i]? with
  | none => rw [c] at h; cases h
  | some a =>
    rw [c] at h
    exact ⟨a, rfl, (Option.some.inj h).symm⟩
theorem EdL.mk {K : PySem.W.Frag} {te : TE} {ρ : Ro} {ds es : List PyData} (h : Ed K te ρ (.list ds)) (e : ds = es) : Ed K te ρ (.list es) := e ▸ h
theorem dp_dec {K : PySem.W.Frag} {D : Hp} {p : Prop} [Decidable p] (h : p) : Dp K D (.bl (decide p)) (.bool true) := by
  rw [decide_eq_true h]
  exact .bl true
section
variable {q : Nat} [Fld q]
namespace ST
theorem tail_le : ∀ (bs : List (List (F q))) (ts : List (F q)), (tail bs ts).length ≤ 2 * bs.length
  | [], _ => Nat.zero_le _
  | b :: bs, [] => by
    show (tail bs []).length + 1 ≤ 2 * (bs.length + 1)
    have := tail_le bs []
    omega
  | b :: bs, t :: ts => by
    show (tail bs ts).length + 1 + 1 ≤ 2 * (bs.length + 1)
    have := tail_le bs ts
    omega
theorem pieces_le (s : ST q) : s.pieces.length ≤ 2 + 2 * s.bends.length := by
  unfold pieces
  have h1 : (head s.start).length ≤ 1 := by cases s.start <;> simp [head]
  have h2 := tail_le s.bends s.turns
  rw [List.length_append, List.length_append]
  show _ + 1 ≤ _
  omega
end ST
end
section
variable {P : Program} {w : World} {K : PySem.W.Frag} {mg : Str → Option Value} {base : Heap}
/-- the loop of with_pieces -/
theorem wp_loop {q : Nat} [Fld q] {s : ST q} {row : List (Pc q)} {rw_ : PyData} (hs : s.Ok) (hr : ∀ p ∈ row, ST.pcOk p) (hl : s.bends.length + row.length ≤ 1000) {ts : TS} {t2 : TS}
    (hb : ∀ (x : ST q) (p : Pc q) (z : Sd), x.Ok → ST.pcOk p → x.bends.length ≤ 1000 → Run K ts [.dat (.int q), .dat (sD x), .dat rw_, .dat (pD p)] (.nx [.dat (.int q), .dat (sD (x.wPc p)), .dat rw_, .dat (pD p)]))
    (hw : EdI K (iSeq K (tVar 2)) [.dat (.int q), .dat (sD s), .dat rw_, .no] (row.map pD)) (hn : Run K t2 [.dat (.int q), .dat (sD (s.wPcs row)), .dat rw_, prv (row.map pD) row.length] (.rt (sD (s.wPcs row)))) :
    Run K (tSeq (tFor (iSeq K (tVar 2)) (gName 3) ts) t2) [.dat (.int q), .dat (sD s), .dat rw_, .no] (.rt (sD (s.wPcs row))) := by
  refine run_for (fun i => [.dat (.int q), .dat (sD (s.wPcs (row.take i))), .dat rw_, prv (row.map pD) i]) hw rfl (fun i x hx => ?_) ?_
  · have hi : i < row.length := by
      have := (List.getElem?_eq_some_iff.mp hx).1
      rwa [List.length_map] at this
    have hx2 := hx
    rw [List.getElem?_map, List.getElem?_eq_getElem hi] at hx2
    cases hx2
    have hp := hr row[i] (List.getElem_mem hi)
    have hok := ST.wPcs_ok hs (row := row.take i) fun p hp => hr p (List.mem_of_mem_take hp)
    have hle := ST.wPcs_le (row.take i) s
    rw [List.length_take] at hle
    refine ⟨_, _, bd_name, (hb (s.wPcs (row.take i)) row[i] .no hok.1 hp (by omega)).to ?_⟩
    rw [prv_at hx]
    have e : row.take (i + 1) = row.take i ++ [row[i]] := by
      rw [List.take_add_one, List.getElem?_eq_getElem hi]
      rfl
    rw [e, ST.wPcs_snoc]
  · rw [List.length_map, List.take_length]
    exact hn
abbrev N_with_pieces : List Str := ["q", "step", "row", "piece"]
theorem sc_with_pieces : FnScope N_with_pieces ["q", "step", "row"] (defScope s_with_pieces) := ⟨rfl, rfl, rfl, by decide +kernel, rfl, by decide +kernel, by decide +kernel⟩
theorem ok_with_pieces (T : Top K mg) : Has P w K mg base 7 "with_pieces" ["q", "step", "row"] (spR K R_with_pieces) := by
  obtain ⟨f, fd, g, Fd⟩ := T.def_ 42 d_with_pieces rfl
  have nd := sc_with_pieces.nd
  have h_with_straight := ok_with_straight (P := P) (w := w) (base := base) T
  have h_with_bend := ok_with_bend (P := P) (w := w) (base := base) T
  refine has_of g Fd sc_with_pieces (fun _ _ _ _ _ _ us hl => match us, hl with | [_, _, _], _ => rfl) (fun _ _ h => by cases h <;> rfl) fun cdv A outer s H E hr ds d h => ?_
  refine ⟨_, (pss_cons (ps_for PassesOwn.never rfl (pi_seq (pv 2)) (pg_name (i := 3) nd rfl (Or.inl rfl)) (pss_one (ps_if (pt_cmpR op_eq (pe_ix ix_tup (pv 3) pe_int (fun _ _ => rfl)) pe_str (nomark _)) (pss_one (ps_set (i := 1) nd rfl (Or.inl rfl) (pe_callH h_with_straight hr (by decide) rfl (pa_cons (pv 0) (pa_cons (pv 1) (pa_cons (pe_ix ix_tup (pv 3) pe_int (fun _ _ => rfl)) pa_nil)))))) (pss_one (ps_set (i := 1) nd rfl (Or.inl rfl) (pe_callH h_with_bend hr (by decide) rfl (pa_cons (pv 0) (pa_cons (pv 1) (pa_cons (pe_ix ix_tup (pv 3) pe_int (fun _ _ => rfl)) pa_nil))))))))) (pss_one (ps_ret (pv 1)))), ?_⟩
  have body : ∀ {q : Nat} [Fld q] {rw_ : PyData} (x : ST q) (p : Pc q) (z : Sd), x.Ok → ST.pcOk p → x.bends.length ≤ 1000 → Run K (tIfS (tTest (tOp rEq (tOp (rIxT K) (tVar 3) (tC (V.int 0))) (tC (V.str "straight")))) (tAsg (tCall (spR K R_with_straight) [] E0 (tCons (tVar 0) (tCons (tVar 1) (tCons (tOp (rIxT K) (tVar 3) (tC (V.int 1))) tNil)))) (gName 1)) (tAsg (tCall (spR K R_with_bend) [] E0 (tCons (tVar 0) (tCons (tVar 1) (tCons (tOp (rIxT K) (tVar 3) (tC (V.int 1))) tNil)))) (gName 1))) [.dat (.int q), .dat (sD x), .dat rw_, .dat (pD p)] (.nx [.dat (.int q), .dat (sD (x.wPc p)), .dat rw_, .dat (pD p)]) := by
    intro q _ rw_ x p z hx hp hl
    cases p with
    | str m =>
      exact run_last (run_yes ((et_test (ed_op (ed_op (ed_var rfl) ed_int (rd_ixT (d := .str "straight") rfl)) ed_str rd_eqS)).to (decide_eq_true rfl)) (run_set (ed_call (ea3 (ed_var rfl) (ed_var rfl) (ed_op (ed_var rfl) ed_int (rd_ixT (d := mD m) rfl))) (R_with_straight.mk q x m)) run_end))
    | bnd b =>
      exact run_last (run_if (b := false) ((et_test (ed_op (ed_op (ed_var rfl) ed_int (rd_ixT (d := .str "bend") rfl)) ed_str rd_eqS)).to (by decide +kernel)) (fun e => nomatch e) fun _ => run_set (ed_call (ea3 (ed_var rfl) (ed_var rfl) (ed_op (ed_var rfl) ed_int (rd_ixT (d := tD b) rfl))) (R_with_bend.mk q x b hx hp hl)) run_end)
  cases h with
  | tup q s row hs hr hl => exact wp_loop hs hr hl body (ei_seqT (ed_var rfl)) (run_last (run_ret (ed_var rfl)))
  | lst q s row hs hr hl => exact wp_loop hs hr hl body (ei_seqL (ed_var rfl)) (run_last (run_ret (ed_var rfl)))
abbrev N_pieces_of : List Str := ["step", "start", "bends", "turns", "last", "found", "place", "bend"]
theorem sc_pieces_of : FnScope N_pieces_of ["step"] (defScope s_pieces_of) := ⟨rfl, rfl, rfl, by decide +kernel, rfl, by decide +kernel, by decide +kernel⟩
theorem ok_pieces_of (T : Top K mg) : Has P w K mg base 2 "pieces_of" ["step"] (spR K R_pieces_of) := by
  obtain ⟨f, fd, g, Fd⟩ := T.def_ 43 d_pieces_of rfl
  have nd := sc_pieces_of.nd
  have h_turn_map := ok_turn_map (P := P) (w := w) (base := base) T
  refine has_of g Fd sc_pieces_of (fun _ _ _ _ _ _ us hl => match us, hl with | [_], _ => rfl) (fun _ _ h => by cases h <;> rfl) fun cdv A outer s H E hr ds d h => ?_
  refine ⟨_, (pss_cons (ps_asg (pv 0) (pg_tup rfl (pgs_cons (pg_name (i := 1) nd rfl (Or.inl rfl)) (pgs_cons (pg_name (i := 2) nd rfl (Or.inl rfl)) (pgs_cons (pg_name (i := 3) nd rfl (Or.inl rfl)) (pgs_cons (pg_name (i := 4) nd rfl (Or.inl rfl)) pgs_nil)))))) (pss_cons (ps_set (i := 5) nd rfl (Or.inl rfl) (pe_ifExp (pt_cmpR op_eq (pv 1) (pe_un un_neg pe_int) (nomark _)) (pe_lst pa_nil) (pe_lst (pa_cons (pe_tup (pa_cons pe_str (pa_cons (pe_callH h_turn_map hr (by decide) rfl (pa_cons (pv 1) pa_nil)) pa_nil))) pa_nil)))) (pss_cons (ps_for PassesOwn.never rfl (pi_enumT rfl (T.free 3 _ rfl) (pa_cons (pv 2) pa_nil)) (pg_tup rfl (pgs_cons (pg_name (i := 6) nd rfl (Or.inl rfl)) (pgs_cons (pg_name (i := 7) nd rfl (Or.inl rfl)) pgs_nil))) (pss_cons (ps_expr (pe_bm PySem.F.plainAttrs_list PySem.F.slot_list_append PySem.F.type_list_append mt_append (pv 5) (pa_cons (pe_tup (pa_cons pe_str (pa_cons (pv 7) pa_nil))) pa_nil))) (pss_one (ps_if (pt_cmpR op_lt (pv 6) (pe_callB call_len_seq rfl (T.free 6 _ rfl) boot_len (pa_cons (pv 3) pa_nil)) (nomark _)) (pss_one (ps_expr (pe_bm PySem.F.plainAttrs_list PySem.F.slot_list_append PySem.F.type_list_append mt_append (pv 5) (pa_cons (pe_tup (pa_cons pe_str (pa_cons (pe_callH h_turn_map hr (by decide) rfl (pa_cons (pe_ix ix_tup (pv 3) (pv 6) (fun _ _ => rfl)) pa_nil)) pa_nil))) pa_nil)))) pss_nil)))) (pss_one (ps_ret (pe_callTy call_tuple_of rfl (T.free 13 _ rfl) boot_tuple (pa_cons (pe_op op_cat (pv 5) (pe_lst (pa_cons (pe_tup (pa_cons pe_str (pa_cons (pv 4) pa_nil))) pa_nil))) pa_nil))))))), ?_⟩
  cases h with
  | mk q s hs hl =>
  have hlen := hs.len
  refine run_asg (ed_var rfl) (bd_tup rfl (bds_cons (bds_cons (bds_cons (bds_cons bds_nil))))) (run_new (xs := (ST.head s.start).map pD) (en_if (b := s.start.isNone) ((et_test (ed_op (ed_var rfl) ed_m1 rd_eqI)).to rdec) (fun e => ?_) (fun e => ?_)) fun p => ?_)
  · cases hst : s.start with
    | none => exact en_lst ea_nil (le5 rfl)
    | some r =>
      rw [hst] at e
      cases e
  · cases hst : s.start with
    | none =>
      rw [hst] at e
      cases e
    | some r => exact en_lst (ea1 (ed_tup (ea2 ed_str (ed_call (ea1 (ed_var rfl)) (R_turn_map.mk q r))) (le5 rfl))) (le5 rfl)
  have bl : (enD (s.bends.map tD)).length = s.bends.length := by rw [enD_len, List.length_map]
  have tls : ∀ i, (ST.head s.start ++ ST.tail (s.bends.take i) (s.turns.take i)).length ≤ 1 + 2 * i := fun i => by
    have h1 : (ST.head s.start).length ≤ 1 := by cases s.start <;> simp [ST.head]
    have h2 : ∀ (bs : List (List (F q))) (ts : List (F q)), (ST.tail bs ts).length ≤ 2 * bs.length := fun bs => by
      induction bs with
      | nil =>
        intro ts
        exact Nat.zero_le _
      | cons b bs ih =>
        intro ts
        cases ts with
        | nil =>
          show (ST.tail bs []).length + 1 ≤ 2 * (bs.length + 1)
          have := ih []
          omega
        | cons t ts =>
          show (ST.tail bs ts).length + 1 + 1 ≤ 2 * (bs.length + 1)
          have := ih ts
          omega
    have h3 := h2 (s.bends.take i) (s.turns.take i)
    rw [List.length_take] at h3
    rw [List.length_append]
    omega
  refine run_for (fun i => [.dat (sD s), .dat (rD s.start), .dat (bD s.bends), .dat (tD s.turns), .dat (mD s.last), .own p (.lst ((ST.head s.start ++ ST.tail (s.bends.take i) (s.turns.take i)).map pD)), (if i = 0 then .no else .dat (.int ((i - 1 : Nat) : Int))), prv (s.bends.map tD) i]) (ei_enumT (ea1 (ed_var rfl))) ?_ (fun i x hx => ?_) ?_
  · have : ST.tail (s.bends.take 0) (s.turns.take 0) = [] := rfl
    simp only [this, List.append_nil]
    rfl
  · have hi : i < s.bends.length := by
      have := (List.getElem?_eq_some_iff.mp hx).1
      omega
    obtain ⟨y, hy, rfl⟩ := enD_at hx
    have hy2 := hy
    rw [List.getElem?_map, List.getElem?_eq_getElem hi] at hy2
    cases hy2
    have ht := tls i
    have hb1 : s.bends.take (i + 1) = s.bends.take i ++ [s.bends[i]] := by
      rw [List.take_add_one, List.getElem?_eq_getElem hi]
      rfl
    refine ⟨_, _, bd_tup rfl (bds_cons (bds_cons bds_nil)), run_append (i := 5) rfl (ed_tup (ea2 ed_str (ed_var rfl)) (le5 rfl)) (by rw [List.length_map]; omega) (run_last (run_if (b := decide (i < s.turns.length)) ((et_test (ed_op (ed_var rfl) (ed_cb (ea1 (ed_var rfl)) rc_lenT) (rd_I0 fun _ => .bl _))).to ?_) (fun e => ?_) (fun e => ?_)))⟩
    · rw [len_tD]
      exact decide_eq_decide.mpr ⟨fun h => by omega, fun h => by omega⟩
    · have e := of_decide_eq_true e
      refine run_append (i := 5) rfl (ed_tup (ea2 ed_str (ed_call (ea1 (ed_op (ed_var rfl) (ed_var rfl) (rd_ixT (atI_nD e)))) (R_turn_map.mk q _))) (le5 rfl)) (by rw [List.length_append, List.length_map]; show _ + 1 < _; omega) (run_end.to ?_)
      have ht1 : s.turns.take (i + 1) = s.turns.take i ++ [co s.turns i] := by
        rw [List.take_add_one, co_some e]
        rfl
      show Rs.nx [_, _, _, _, _, Sd.own p (.lst ((List.map pD (ST.head s.start ++ ST.tail (s.bends.take i) (s.turns.take i)) ++ [pD (.bnd s.bends[i])]) ++ [pD (.str (SM.turn (co s.turns i)))])), _, _] = _
      rw [prv_at hy, if_neg (Nat.succ_ne_zero i), hb1, ht1, ST.tail_both _ _ _ _ (by rw [List.length_take, List.length_take]; omega), map_snoc, map_snoc, List.append_assoc, List.append_assoc]
      rfl
    · have e := of_decide_eq_false e
      refine run_end.to ?_
      have ht1 : s.turns.take (i + 1) = s.turns.take i := by rw [List.take_of_length_le (by omega), List.take_of_length_le (by omega)]
      show Rs.nx [_, _, _, _, _, Sd.own p (.lst (List.map pD (ST.head s.start ++ ST.tail (s.bends.take i) (s.turns.take i)) ++ [pD (.bnd s.bends[i])])), _, _] = _
      rw [prv_at hy, if_neg (Nat.succ_ne_zero i), hb1, ht1, ST.tail_one _ _ _ (by rw [List.length_take, List.length_take]; omega), map_snoc, List.append_assoc]
      rfl
  · have hb1 : s.bends.take s.bends.length = s.bends := List.take_length
    have ht1 : s.turns.take s.bends.length = s.turns := List.take_of_length_le (by omega)
    have ht := tls s.bends.length
    rw [bl]
    rw [hb1, ht1] at ht ⊢
    refine run_last (run_ret (ed_to (ed_cb (ea1 (EdN.ed (en_catO (i := 5) rfl (en_lst (ea1 (ed_tup (ea2 ed_str (ed_var rfl)) (le5 rfl))) (le5 rfl)) (by rw [List.length_map]; show _ + 1 ≤ _; omega)))) rc_tupL) ?_))
    show PyData.tuple (List.map pD (ST.head s.start ++ ST.tail s.bends s.turns) ++ [pD (.str s.last)]) = .tuple (List.map pD (ST.head s.start ++ ST.tail s.bends s.turns ++ [.str s.last]))
    rw [map_snoc]
abbrev N_then : List Str := ["q", "one", "other"]
theorem sc_then : FnScope N_then ["q", "one", "other"] (defScope s_then) := ⟨rfl, rfl, rfl, by decide +kernel, rfl, by decide +kernel, by decide +kernel⟩
theorem ok_then (T : Top K mg) : Has P w K mg base 8 "then" ["q", "one", "other"] (spR K R_then) := by
  obtain ⟨f, fd, g, Fd⟩ := T.def_ 44 d_then rfl
  have nd := sc_then.nd
  have h_with_pieces := ok_with_pieces (P := P) (w := w) (base := base) T
  have h_pieces_of := ok_pieces_of (P := P) (w := w) (base := base) T
  refine has_of g Fd sc_then (fun _ _ _ _ _ _ us hl => match us, hl with | [_, _, _], _ => rfl) (fun _ _ h => by cases h <;> rfl) fun cdv A outer s H E hr ds d h => ?_
  refine ⟨_, (pss_one (ps_ret (pe_callH h_with_pieces hr (by decide) rfl (pa_cons (pv 0) (pa_cons (pv 1) (pa_cons (pe_callH h_pieces_of hr (by decide) rfl (pa_cons (pv 2) pa_nil)) pa_nil)))))), ?_⟩
  cases h with
  | mk q x y hx hy h1 h2 =>
  have hp := ST.pieces_ok hy
  exact run_last (run_ret (ed_call (ea3 (ed_var rfl) (ed_var rfl) (ed_call (ea1 (ed_var rfl)) (R_pieces_of.mk q y hy (by omega)))) (R_with_pieces.tup q x y.pieces hx hp.1 (by have := ST.pieces_le y; have := hy.len; omega))))
abbrev N_back : List Str := ["q", "step", "row", "sort", "part"]
theorem sc_back : FnScope N_back ["q", "step"] (defScope s_back) := ⟨rfl, rfl, rfl, by decide +kernel, rfl, by decide +kernel, by decide +kernel⟩
theorem ok_back (T : Top K mg) : Has P w K mg base 8 "back" ["q", "step"] (spR K R_back) := by
  obtain ⟨f, fd, g, Fd⟩ := T.def_ 45 d_back rfl
  have nd := sc_back.nd
  obtain ⟨aN, gN, hN⟩ := T.nth
  have h_with_pieces := ok_with_pieces (P := P) (w := w) (base := base) T
  have h_pieces_of := ok_pieces_of (P := P) (w := w) (base := base) T
  have h_straight_back := ok_straight_back (P := P) (w := w) (base := base) T
  have h_one_opposite := ok_one_opposite (P := P) (w := w) (base := base) T
  refine has_of g Fd sc_back (fun _ _ _ _ _ _ us hl => match us, hl with | [_, _], _ => rfl) (fun _ _ h => by cases h <;> rfl) fun cdv A outer s H E hr ds d h => ?_
  refine ⟨_, (pss_cons (ps_set (i := 2) nd rfl (Or.inl rfl) (pe_lst pa_nil)) (pss_cons (ps_for PassesOwn.never rfl (pi_tup (pe_revT (pe_callH h_pieces_of hr (by decide) rfl (pa_cons (pv 1) pa_nil)))) (pg_tup rfl (pgs_cons (pg_name (i := 3) nd rfl (Or.inl rfl)) (pgs_cons (pg_name (i := 4) nd rfl (Or.inl rfl)) pgs_nil))) (pss_one (ps_expr (pe_bm PySem.F.plainAttrs_list PySem.F.slot_list_append PySem.F.type_list_append mt_append (pv 2) (pa_cons (pe_tup (pa_cons (pv 3) (pa_cons (pe_ifExp (pt_cmpR op_eq (pv 3) pe_str (nomark _)) (pe_callH h_straight_back hr (by decide) rfl (pa_cons (pv 0) (pa_cons (pv 4) pa_nil))) (pe_callH h_one_opposite hr (by decide) rfl (pa_cons (pv 0) (pa_cons (pv 4) pa_nil)))) pa_nil))) pa_nil))))) (pss_one (ps_ret (pe_callH h_with_pieces hr (by decide) rfl (pa_cons (pv 0) (pa_cons (pe_glob (v := V.ref aN) rfl gN rfl) (pa_cons (pv 2) pa_nil)))))))), ?_⟩
  cases h with
  | mk q s hs hl =>
  have hp := ST.pieces_ok hs
  have hle := ST.pieces_le s
  have hlen := hs.len
  have plen : (s.pieces.map pD).reverse.length = s.pieces.length := by rw [List.length_reverse, List.length_map]
  have hn0 : (ST.none_ : ST q).bends.length = 0 := rfl
  refine run_new (xs := []) (en_lst ea_nil (le5 rfl)) fun p => ?_
  refine run_for (fun i => [.dat (.int q), .dat (sD s), .own p (.lst (((s.pieces.reverse.take i).map ST.bk).map pD)), prv ((s.pieces.map pD).reverse.map pcN) i, prv ((s.pieces.map pD).reverse.map pcV) i]) (ei_tup (ed_revT (ed_call (ea1 (ed_var rfl)) (R_pieces_of.mk q s hs (by omega))))) rfl (fun i x hx => ?_) ?_
  · have hi : i < s.pieces.reverse.length := by
      have := (List.getElem?_eq_some_iff.mp hx).1
      rw [plen] at this
      rwa [List.length_reverse]
    have hx2 := hx
    rw [← List.map_reverse, List.getElem?_map, List.getElem?_eq_getElem hi] at hx2
    have hpo := hp.1 s.pieces.reverse[i] (List.mem_reverse.mp (List.getElem_mem hi))
    have e1 : s.pieces.reverse.take (i + 1) = s.pieces.reverse.take i ++ [s.pieces.reverse[i]] := by
      rw [List.take_add_one, List.getElem?_eq_getElem hi]
      rfl
    have c1 : prv ((s.pieces.map pD).reverse.map pcN) (i + 1) = .dat (pcN x) := prv_at (by rw [List.getElem?_map, hx]; rfl)
    have c2 : prv ((s.pieces.map pD).reverse.map pcV) (i + 1) = .dat (pcV x) := prv_at (by rw [List.getElem?_map, hx]; rfl)
    rw [c1, c2, e1, List.map_append, List.map_append]
    have hl2 : (((s.pieces.reverse.take i).map ST.bk).map pD).length < 100000 := by
      rw [List.length_map, List.length_map, List.length_take, List.length_reverse]
      omega
    cases hx2
    cases hpc : s.pieces.reverse[i] with
    | str m =>
      refine ⟨_, _, bd_tup rfl (bds_cons (bds_cons bds_nil)), run_last (run_append (i := 2) rfl (ed_tup (ea2 (ed_var rfl) (ed_if (b := true) ((et_test (ed_op (ed_var rfl) ed_str rd_eqS)).to (decide_eq_true rfl)) (fun _ => ed_call (ea2 (ed_var rfl) (ed_var rfl)) (R_straight_back.mk q m)) fun e => nomatch e)) (le5 rfl)) hl2 (run_end.to rfl))⟩
    | bnd b =>
      rw [hpc] at hpo
      have hb : Bend b := hpo
      have := hb.hi
      refine ⟨_, _, bd_tup rfl (bds_cons (bds_cons bds_nil)), run_last (run_append (i := 2) rfl (ed_tup (ea2 (ed_var rfl) (ed_if (b := false) ((et_test (ed_op (ed_var rfl) ed_str rd_eqS)).to (by decide +kernel)) (fun e => nomatch e) fun _ => ed_call (ea2 (ed_var rfl) (ed_var rfl)) (R_one_opposite.mk q b (by omega)))) (le5 rfl)) hl2 (run_end.to rfl))⟩
  · rw [plen]
    have e2 : s.pieces.reverse.take s.pieces.length = s.pieces.reverse := List.take_of_length_le (by rw [List.length_reverse]; exact Nat.le_refl _)
    rw [e2]
    have hok : ∀ p ∈ s.pieces.reverse.map ST.bk, ST.pcOk p := fun p hp' => by
      obtain ⟨x, hx, rfl⟩ := List.mem_map.mp hp'
      exact ST.bk_ok (hp.1 x (List.mem_reverse.mp hx))
    refine run_fz (i := 2) rfl (run_last (run_ret (ed_call (ea3 (ed_var rfl) (ed_to (ed_c hN) ?_) (ed_var rfl)) (R_with_pieces.lst q ST.none_ (s.pieces.reverse.map ST.bk) ST.none_ok hok ?_))))
    · show _ = PyData.tuple [.int (-1), .tuple [], .tuple [], .tuple [nD (1 : F q), nD (0 : F q), nD (0 : F q), nD (0 : F q), nD (1 : F q), nD (0 : F q)]]
      rw [nD0, nD1]
    · rw [List.length_map, List.length_reverse, hn0]
      omega
abbrev N_are_bends : List Str := ["q", "thing", "part"]
theorem sc_are_bends : FnScope N_are_bends ["q", "thing"] (defScope s_are_bends) := ⟨rfl, rfl, rfl, by decide +kernel, rfl, by decide +kernel, by decide +kernel⟩
theorem ok_are_bends (T : Top K mg) : Has P w K mg base 6 "are_bends" ["q", "thing"] (spR K R_are_bends) := by
  obtain ⟨f, fd, g, Fd⟩ := T.def_ 46 d_are_bends rfl
  have nd := sc_are_bends.nd
  have h_is_bend := ok_is_bend (P := P) (w := w) (base := base) T
  refine has_of g Fd sc_are_bends (fun _ _ _ _ _ _ us hl => match us, hl with | [_, _], _ => rfl) (fun _ _ h => by cases h <;> rfl) fun cdv A outer s H E hr ds d h => ?_
  refine ⟨_, (pss_one (ps_ret (pe_and (pe_callB call_isi rfl (T.free 5 _ rfl) boot_isinstance (pa_cons (pv 1) (pa_cons (pe_bltn (v := .ty "tuple") rfl (T.free 13 _ rfl) boot_tuple rfl) pa_nil))) (pe_one (pe_callB (cr_all rfl) rfl (T.free 0 _ rfl) (by decide +kernel) (pa_cons (pe_lc (own := [("part", 2)]) rfl nd (pi_tup (pv 1)) (blkOk_by (own := [("part", 2)]) (N := N_are_bends) (sc := defScope s_are_bends) (by decide +kernel)) (fun _ _ _ _ _ => (pg_name (i := 2) nd rfl (Or.inl rfl))) (fun _ _ _ _ _ => pts_nil) (fun _ _ _ _ _ => (pe_callH h_is_bend hr (by decide) rfl (pa_cons (pv 0) (pa_cons (pv 2) pa_nil))))) pa_nil)))))), ?_⟩
  cases h with
  | mk q bs hb hl =>
  refine run_last (run_ret (ed_and (b := true) (ed_isTT (ed_var rfl)) fun _ => ed_to (ed_cb (ea1 (EdL.mk (es := (bs.map fun _ => true).map PyData.bool) (ed_lcm (fun _ => .bool true) (ei_tup (ed_var rfl)) (by rw [List.length_map]; omega) fun i x hx => ?_) ?_)) rc_all) ?_))
  · obtain ⟨b, hb2, rfl⟩ := map_at hx
    exact ⟨_, _, bd_name, fun j hj => hj, ed_call (ea2 (ed_var rfl) (ed_var rfl)) (R_is_bend.mk q b (hb b (List.mem_of_getElem? hb2)))⟩
  · rw [List.map_map, List.map_map]
    rfl
  · simp
abbrev N_are_turns : List Str := ["q", "thing", "many", "part"]
theorem sc_are_turns : FnScope N_are_turns ["q", "thing", "many"] (defScope s_are_turns) := ⟨rfl, rfl, rfl, by decide +kernel, rfl, by decide +kernel, by decide +kernel⟩
theorem ok_are_turns (T : Top K mg) : Has P w K mg base 2 "are_turns" ["q", "thing", "many"] (spR K R_are_turns) := by
  obtain ⟨f, fd, g, Fd⟩ := T.def_ 47 d_are_turns rfl
  have nd := sc_are_turns.nd
  have h_is_integer := ok_is_integer (P := P) (w := w) (base := base) T
  refine has_of g Fd sc_are_turns (fun _ _ _ _ _ _ us hl => match us, hl with | [_, _, _], _ => rfl) (fun _ _ h => by cases h <;> rfl) fun cdv A outer s H E hr ds d h => ?_
  refine ⟨_, (pss_cons (ps_if (PW.pt (pw_or (pt_not (pt_val (pe_callB call_isi rfl (T.free 5 _ rfl) boot_isinstance (pa_cons (pv 1) (pa_cons (pe_bltn (v := .ty "tuple") rfl (T.free 13 _ rfl) boot_tuple rfl) pa_nil))))) (pw_or1 (pt_cmpR op_ne (pe_callB call_len_seq rfl (T.free 6 _ rfl) boot_len (pa_cons (pv 1) pa_nil)) (pv 2) (nomark _))))) (pss_one (ps_ret pe_bl)) pss_nil) (pss_one (ps_ret (pe_callB (cr_all rfl) rfl (T.free 0 _ rfl) (by decide +kernel) (pa_cons (pe_lc (own := [("part", 3)]) rfl nd (pi_tup (pv 1)) (blkOk_by (own := [("part", 3)]) (N := N_are_turns) (sc := defScope s_are_turns) (by decide +kernel)) (fun _ _ _ _ _ => (pg_name (i := 3) nd rfl (Or.inl rfl))) (fun _ _ _ _ _ => pts_nil) (fun _ _ _ _ _ => (pe_and (pe_callH h_is_integer hr (by decide) rfl (pa_cons (pv 3) pa_nil)) (pe_one (pe_chain op_le op_lt pe_int (pv 3) (pv 0)))))) pa_nil))))), ?_⟩
  cases h with
  | mk q ts n hn hl =>
  have hq := q_bd (q := q)
  refine run_no ((et_or (a := false) (b := false) ((et_not (et_val (ed_isTT (ed_var rfl)))).to rfl) fun _ => (et_test (ed_op (ed_cb (ea1 (ed_var rfl)) rc_lenT) (ed_var rfl) rd_neI)).to ?_).to rfl) (run_last (run_ret (ed_to (ed_cb (ea1 (EdL.mk (es := (ts.map fun _ => true).map PyData.bool) (ed_lcm (fun _ => .bool true) (ei_tup (ed_var rfl)) (by rw [len_tD]; omega) fun i x hx => ?_) ?_)) rc_all) ?_)))
  · rw [len_tD, decide_eq_true hn.symm]
    rfl
  · obtain ⟨a, _, rfl⟩ := map_nD hx
    have ha := a.h
    exact ⟨_, _, bd_name, fun j hj => hj, ed_and (a := true) (b := true) (ed_call (ea1 (ed_var rfl)) (R_is_integer.mk _)) fun _ => ed_to (ed_chain (a := true) (b := true) ed_int (ed_var rfl) (rd_I0 fun _ => dp_dec (by omega)) (fun _ => ed_var rfl) fun _ => rd_I0 fun _ => dp_dec (by omega)) rfl⟩
  · rw [List.map_map, List.map_map]
    rfl
  · simp
abbrev N_is_start : List Str := ["q", "thing"]
theorem sc_is_start : FnScope N_is_start ["q", "thing"] (defScope s_is_start) := ⟨rfl, rfl, rfl, by decide +kernel, rfl, by decide +kernel, by decide +kernel⟩
theorem ok_is_start (T : Top K mg) : Has P w K mg base 2 "is_start" ["q", "thing"] (spR K R_is_start) := by
  obtain ⟨f, fd, g, Fd⟩ := T.def_ 48 d_is_start rfl
  have nd := sc_is_start.nd
  have h_is_integer := ok_is_integer (P := P) (w := w) (base := base) T
  refine has_of g Fd sc_is_start (fun _ _ _ _ _ _ us hl => match us, hl with | [_, _], _ => rfl) (fun _ _ h => by cases h <;> rfl) fun cdv A outer s H E hr ds d h => ?_
  refine ⟨_, (pss_one (ps_ret (pe_and (pe_callH h_is_integer hr (by decide) rfl (pa_cons (pv 1) pa_nil)) (pe_one (pe_chain op_le op_lt (pe_un un_neg pe_int) (pv 1) (pv 0)))))), ?_⟩
  cases h with
  | mk q r =>
  have h1 : -1 ≤ oI r := by
    cases r with
    | none => exact Int.le_refl _
    | some r => show -1 ≤ ((r.v : Nat) : Int); omega
  have h2 : oI r < q := by
    cases r with
    | none => show (-1 : Int) < q; omega
    | some r => have := r.h; show ((r.v : Nat) : Int) < q; omega
  exact run_last (run_ret (ed_and (a := true) (b := true) (ed_call (ea1 (ed_var rfl)) (R_is_integer.mk _)) fun _ => ed_to (ed_chain (a := true) (b := true) ed_m1 (ed_var rfl) (rd_I0 fun _ => dp_dec h1) (fun _ => ed_var rfl) fun _ => rd_I0 fun _ => dp_dec h2) rfl))
abbrev N_is_step_value : List Str := ["q", "thing"]
theorem sc_is_step_value : FnScope N_is_step_value ["q", "thing"] (defScope s_is_step_value) := ⟨rfl, rfl, rfl, by decide +kernel, rfl, by decide +kernel, by decide +kernel⟩
theorem ok_is_step_value (T : Top K mg) : Has P w K mg base 7 "is_step_value" ["q", "thing"] (spR K R_is_step_value) := by
  obtain ⟨f, fd, g, Fd⟩ := T.def_ 49 d_is_step_value rfl
  have nd := sc_is_step_value.nd
  have h_are_turns := ok_are_turns (P := P) (w := w) (base := base) T
  have h_is_start := ok_is_start (P := P) (w := w) (base := base) T
  have h_are_bends := ok_are_bends (P := P) (w := w) (base := base) T
  have h_is_straight := ok_is_straight (P := P) (w := w) (base := base) T
  refine has_of g Fd sc_is_step_value (fun _ _ _ _ _ _ us hl => match us, hl with | [_, _], _ => rfl) (fun _ _ h => by cases h <;> rfl) fun cdv A outer s H E hr ds d h => ?_
  refine ⟨_, (pss_cons (ps_if (PW.pt (pw_or (pt_not (pt_val (pe_callB call_isi rfl (T.free 5 _ rfl) boot_isinstance (pa_cons (pv 1) (pa_cons (pe_bltn (v := .ty "tuple") rfl (T.free 13 _ rfl) boot_tuple rfl) pa_nil))))) (pw_or1 (pt_cmpR op_ne (pe_callB call_len_seq rfl (T.free 6 _ rfl) boot_len (pa_cons (pv 1) pa_nil)) pe_int (nomark _))))) (pss_one (ps_ret pe_bl)) pss_nil) (pss_cons (ps_if (PW.pt (pw_or (pt_not (pt_val (pe_callH h_is_start hr (by decide) rfl (pa_cons (pv 0) (pa_cons (pe_ix ix_tup (pv 1) pe_int (fun _ _ => rfl)) pa_nil))))) (pw_or (pt_not (pt_val (pe_callH h_are_bends hr (by decide) rfl (pa_cons (pv 0) (pa_cons (pe_ix ix_tup (pv 1) pe_int (fun _ _ => rfl)) pa_nil))))) (pw_or1 (pt_not (pt_val (pe_callH h_is_straight hr (by decide) rfl (pa_cons (pv 0) (pa_cons (pe_ix ix_tup (pv 1) pe_int (fun _ _ => rfl)) pa_nil))))))))) (pss_one (ps_ret pe_bl)) pss_nil) (pss_cons (ps_if (PW.pt (pw_and (pt_cmpR (op_eqD hr.units) (pe_ix ix_tup (pv 1) pe_int (fun _ _ => rfl)) (pe_tup pa_nil) (nomark _)) (pw_and1 (pt_cmpR op_ne (pe_ix ix_tup (pv 1) pe_int (fun _ _ => rfl)) (pe_un un_neg pe_int) (nomark _))))) (pss_one (ps_ret pe_bl)) pss_nil) (pss_one (ps_ret (pe_callH h_are_turns hr (by decide) rfl (pa_cons (pv 0) (pa_cons (pe_ix ix_tup (pv 1) pe_int (fun _ _ => rfl)) (pa_cons (pe_callB (call_max2 rfl) rfl (T.free 8 _ rfl) (by decide +kernel) (pa_cons pe_int (pa_cons (pe_op op_sub (pe_callB call_len_seq rfl (T.free 6 _ rfl) boot_len (pa_cons (pe_ix ix_tup (pv 1) pe_int (fun _ _ => rfl)) pa_nil)) pe_int) pa_nil))) pa_nil))))))))), ?_⟩
  cases h with
  | mk q s hs hl =>
  have hlen := hs.len
  refine run_no ((et_or (a := false) (b := false) ((et_not (et_val (ed_isTT (ed_var rfl)))).to rfl) fun _ => (et_test (ed_op (ed_cb (ea1 (ed_var rfl)) rc_lenT) ed_int rd_neI)).to rfl).to rfl) ?_
  refine run_no ((et_or (a := false) (b := false) ((et_not (et_val (ed_call (ea2 (ed_var rfl) (ed_op (ed_var rfl) ed_int (rd_ixT rfl))) (R_is_start.mk q s.start)))).to rfl) fun _ => (et_or (a := false) (b := false) ((et_not (et_val (ed_call (ea2 (ed_var rfl) (ed_op (ed_var rfl) ed_int (rd_ixT rfl))) (R_are_bends.mk q s.bends hs.bend hl)))).to rfl) fun _ => (et_not (et_val (ed_call (ea2 (ed_var rfl) (ed_op (ed_var rfl) ed_int (rd_ixT rfl))) (R_is_straight.mk q s.last hs.det)))).to rfl).to rfl).to rfl) ?_
  refine run_no (EdT.to (et_and (a := s.bends.isEmpty) (b := !s.start.isNone) (et_test (ed_to (ed_op (ed_op (ed_var rfl) ed_int (rd_ixT (d := bD s.bends) rfl)) (ed_tup ea_nil (le5 rfl)) (rd_eqD (fl_bD (n := 1)).shaped (fl_nil (n := 1)).shaped)) ?_)) fun _ => et_test (ed_to (ed_op (ed_op (ed_var rfl) ed_int (rd_ixT (d := rD s.start) rfl)) ed_m1 rd_neI) (by rw [rdec]))) ?_) (run_last (run_ret (ed_call (ea3 (ed_var rfl) (ed_op (ed_var rfl) ed_int (rd_ixT rfl)) (ed_cb (ea2 ed_int (ed_op (ed_cb (ea1 (ed_op (ed_var rfl) ed_int (rd_ixT (d := bD s.bends) rfl))) rc_lenT) ed_int (rd_I0 fun _ => .int _))) rc_max2)) (R_are_turns.mk q s.turns _ ?_ (by omega)))))
  · rw [eqv_nil, List.isEmpty_map]
  · cases hb : s.bends with
    | nil =>
      rw [hs.nil hb]
      rfl
    | cons b bs => rfl
  · rw [List.length_map]
    split <;> omega
abbrev N_check_step : List Str := ["q", "thing"]
theorem sc_check_step : FnScope N_check_step ["q", "thing"] (defScope s_check_step) := ⟨rfl, rfl, rfl, by decide +kernel, rfl, by decide +kernel, by decide +kernel⟩
theorem ok_check_step (T : Top K mg) : Has P w K mg base 8 "check_step" ["q", "thing"] (spR K R_check_step) := by
  obtain ⟨f, fd, g, Fd⟩ := T.def_ 50 d_check_step rfl
  have nd := sc_check_step.nd
  have h_is_step_value := ok_is_step_value (P := P) (w := w) (base := base) T
  refine has_ofN g Fd sc_check_step (fun _ _ _ _ _ _ us hl => match us, hl with | [_, _], _ => rfl) (fun _ _ h => by cases h <;> rfl) fun cdv A outer s H E hr ds d h => ?_
  refine ⟨_, (pss_one (ps_if (pt_not (pt_val (pe_callH h_is_step_value hr (by decide) rfl (pa_cons (pv 0) (pa_cons (pv 1) pa_nil))))) (pss_one ps_never) pss_nil)), ?_⟩
  cases h with
  | mk q s hs hl =>
  exact ⟨rfl, _, run_last (run_no ((et_not (et_val (ed_call (ea2 (ed_var rfl) (ed_var rfl)) (R_is_step_value.mk q s hs hl)))).to rfl) run_end)⟩
abbrev N_product : List Str := ["q", "one", "other"]
theorem sc_product : FnScope N_product ["q", "one", "other"] (defScope s_product) := ⟨rfl, rfl, rfl, by decide +kernel, rfl, by decide +kernel, by decide +kernel⟩
theorem ok_product (T : Top K mg) : Has P w K mg base 9 "product" ["q", "one", "other"] (spR K R_product) := by
  obtain ⟨f, fd, g, Fd⟩ := T.def_ 60 d_product rfl
  have nd := sc_product.nd
  have h_then := ok_then (P := P) (w := w) (base := base) T
  have h_check_step := ok_check_step (P := P) (w := w) (base := base) T
  refine has_of g Fd sc_product (fun _ _ _ _ _ _ us hl => match us, hl with | [_, _, _], _ => rfl) (fun _ _ h => by cases h <;> rfl) fun cdv A outer s H E hr ds d h => ?_
  refine ⟨_, (pss_cons (ps_expr (pe_callH h_check_step hr (by decide) rfl (pa_cons (pv 0) (pa_cons (pv 1) pa_nil)))) (pss_cons (ps_expr (pe_callH h_check_step hr (by decide) rfl (pa_cons (pv 0) (pa_cons (pv 2) pa_nil)))) (pss_one (ps_ret (pe_callH h_then hr (by decide) rfl (pa_cons (pv 0) (pa_cons (pv 1) (pa_cons (pv 2) pa_nil)))))))), ?_⟩
  cases h with
  | mk q x y hx hy h1 h2 =>
  exact run_drop (ed_call (ea2 (ed_var rfl) (ed_var rfl)) (R_check_step.mk q x hx (by omega))) (run_drop (ed_call (ea2 (ed_var rfl) (ed_var rfl)) (R_check_step.mk q y hy (by omega))) (run_last (run_ret (ed_call (ea3 (ed_var rfl) (ed_var rfl) (ed_var rfl)) (R_then.mk q x y hx hy h1 h2)))))
abbrev N_undoing : List Str := ["q", "step"]
theorem sc_undoing : FnScope N_undoing ["q", "step"] (defScope s_undoing) := ⟨rfl, rfl, rfl, by decide +kernel, rfl, by decide +kernel, by decide +kernel⟩
theorem ok_undoing (T : Top K mg) : Has P w K mg base 9 "undoing" ["q", "step"] (spR K R_undoing) := by
  obtain ⟨f, fd, g, Fd⟩ := T.def_ 61 d_undoing rfl
  have nd := sc_undoing.nd
  have h_back := ok_back (P := P) (w := w) (base := base) T
  have h_check_step := ok_check_step (P := P) (w := w) (base := base) T
  refine has_of g Fd sc_undoing (fun _ _ _ _ _ _ us hl => match us, hl with | [_, _], _ => rfl) (fun _ _ h => by cases h <;> rfl) fun cdv A outer s H E hr ds d h => ?_
  refine ⟨_, (pss_cons (ps_expr (pe_callH h_check_step hr (by decide) rfl (pa_cons (pv 0) (pa_cons (pv 1) pa_nil)))) (pss_one (ps_ret (pe_callH h_back hr (by decide) rfl (pa_cons (pv 0) (pa_cons (pv 1) pa_nil)))))), ?_⟩
  cases h with
  | mk q s hs hl =>
  exact run_drop (ed_call (ea2 (ed_var rfl) (ed_var rfl)) (R_check_step.mk q s hs (by omega))) (run_last (run_ret (ed_call (ea2 (ed_var rfl) (ed_var rfl)) (R_back.mk q s hs hl))))
abbrev N_bend_degrees : List Str := ["step", "bend"]
theorem sc_bend_degrees : FnScope N_bend_degrees ["step"] (defScope s_bend_degrees) := ⟨rfl, rfl, rfl, by decide +kernel, rfl, by decide +kernel, by decide +kernel⟩
theorem ok_bend_degrees (T : Top K mg) : Has P w K mg base 1 "bend_degrees" ["step"] (spR K R_bend_degrees) := by
  obtain ⟨f, fd, g, Fd⟩ := T.def_ 62 d_bend_degrees rfl
  have nd := sc_bend_degrees.nd
  refine has_of g Fd sc_bend_degrees (fun _ _ _ _ _ _ us hl => match us, hl with | [_], _ => rfl) (fun _ _ h => by cases h <;> rfl) fun cdv A outer s H E hr ds d h => ?_
  refine ⟨_, (pss_one (ps_ret (pe_callTy call_tuple_of rfl (T.free 13 _ rfl) boot_tuple (pa_cons (pe_lc (own := [("bend", 1)]) rfl nd (pi_tup (pe_ix ix_tup (pv 0) pe_int (fun _ _ => rfl))) (blkOk_by (own := [("bend", 1)]) (N := N_bend_degrees) (sc := defScope s_bend_degrees) (by decide +kernel)) (fun _ _ _ _ _ => (pg_name (i := 1) nd rfl (Or.inl rfl))) (fun _ _ _ _ _ => pts_nil) (fun _ _ _ _ _ => (pe_op op_sub (pe_callB (call_len_seqK (K := K) rfl) rfl (T.free 6 _ rfl) boot_len (pa_cons (pv 1) pa_nil)) pe_int))) pa_nil)))), ?_⟩
  cases h with
  | mk q s hl =>
  refine run_last (run_ret (ed_to (ed_cb (ea1 (ed_lcm (fun d => match d with | .tuple xs => .int ((xs.length : Int) - 1) | _ => .none) (ei_tup (ed_op (ed_var rfl) ed_int (rd_ixT (d := bD s.bends) rfl))) (by rw [List.length_map]; omega) fun i x hx => ?_)) rc_tupL) ?_))
  · obtain ⟨b, _, rfl⟩ := map_at hx
    exact ⟨_, _, bd_name, fun j hj => hj, ed_op (ed_cb (ea1 (ed_var rfl)) rc_lenT) ed_int (rd_I0 fun _ => .int _)⟩
  · unfold degD
    rw [List.map_map]
    congr 1
    refine List.map_congr_left fun b _ => ?_
    show PyData.int (((b.map nD).length : Int) - 1) = _
    rw [len_tD]
abbrev N_degrees_of : List Str := ["q", "step"]
theorem sc_degrees_of : FnScope N_degrees_of ["q", "step"] (defScope s_degrees_of) := ⟨rfl, rfl, rfl, by decide +kernel, rfl, by decide +kernel, by decide +kernel⟩
theorem ok_degrees_of (T : Top K mg) : Has P w K mg base 9 "degrees_of" ["q", "step"] (spR K R_degrees_of) := by
  obtain ⟨f, fd, g, Fd⟩ := T.def_ 63 d_degrees_of rfl
  have nd := sc_degrees_of.nd
  have h_bend_degrees := ok_bend_degrees (P := P) (w := w) (base := base) T
  have h_check_step := ok_check_step (P := P) (w := w) (base := base) T
  refine has_of g Fd sc_degrees_of (fun _ _ _ _ _ _ us hl => match us, hl with | [_, _], _ => rfl) (fun _ _ h => by cases h <;> rfl) fun cdv A outer s H E hr ds d h => ?_
  refine ⟨_, (pss_cons (ps_expr (pe_callH h_check_step hr (by decide) rfl (pa_cons (pv 0) (pa_cons (pv 1) pa_nil)))) (pss_one (ps_ret (pe_callH h_bend_degrees hr (by decide) rfl (pa_cons (pv 1) pa_nil))))), ?_⟩
  cases h with
  | mk q s hs hl =>
  exact run_drop (ed_call (ea2 (ed_var rfl) (ed_var rfl)) (R_check_step.mk q s hs (by omega))) (run_last (run_ret (ed_call (ea1 (ed_var rfl)) (R_bend_degrees.mk q s hl))))
abbrev N_step_determinant : List Str := ["q", "step", "found", "turned"]
theorem sc_step_determinant : FnScope N_step_determinant ["q", "step"] (defScope s_step_determinant) := ⟨rfl, rfl, rfl, by decide +kernel, rfl, by decide +kernel, by decide +kernel⟩
theorem ok_step_determinant (T : Top K mg) : Has P w K mg base 4 "step_determinant" ["q", "step"] (spR K R_step_determinant) := by
  obtain ⟨f, fd, g, Fd⟩ := T.def_ 64 d_step_determinant rfl
  have nd := sc_step_determinant.nd
  have h_opposite := ok_opposite (P := P) (w := w) (base := base) T
  have h_map_determinant := ok_map_determinant (P := P) (w := w) (base := base) T
  refine has_of g Fd sc_step_determinant (fun _ _ _ _ _ _ us hl => match us, hl with | [_, _], _ => rfl) (fun _ _ h => by cases h <;> rfl) fun cdv A outer s H E hr ds d h => ?_
  refine ⟨_, (pss_cons (ps_set (i := 2) nd rfl (Or.inl rfl) (pe_callH h_map_determinant hr (by decide) rfl (pa_cons (pv 0) (pa_cons (pe_ix ix_tup (pv 1) pe_int (fun _ _ => rfl)) pa_nil)))) (pss_cons (ps_set (i := 3) nd rfl (Or.inl rfl) (pe_op op_add (pe_callB call_len_seq rfl (T.free 6 _ rfl) boot_len (pa_cons (pe_ix ix_tup (pv 1) pe_int (fun _ _ => rfl)) pa_nil)) (pe_ifExp (pt_cmpR op_eq (pe_ix ix_tup (pv 1) pe_int (fun _ _ => rfl)) (pe_un un_neg pe_int) (nomark _)) pe_int pe_int))) (pss_one (ps_ret (pe_ifExp (pt_cmpR op_eq (pe_op op_mod (pv 3) pe_int) pe_int (nomark _)) (pe_callH h_opposite hr (by decide) rfl (pa_cons (pv 0) (pa_cons (pv 2) pa_nil))) (pv 2)))))), ?_⟩
  cases h with
  | mk q s =>
  refine run_set (ed_call (ea2 (ed_var rfl) (ed_op (ed_var rfl) ed_int (rd_ixT rfl))) (R_map_determinant.mk q s.last)) (run_set (d := .int (s.flips : Nat)) (ed_to (ed_op (ed_cb (ea1 (ed_op (ed_var rfl) ed_int (rd_ixT (d := tD s.turns) rfl))) rc_lenT) (ed_if (b := s.start.isNone) (d := .int (if s.start.isSome then 1 else 0)) (et_test (ed_to (ed_op (ed_op (ed_var rfl) ed_int (rd_ixT (d := rD s.start) rfl)) ed_m1 rd_eqI) (by rw [rdec]))) (fun e => ?_) fun e => ?_) (rd_I0 fun _ => .int _)) ?_) ?_)
  · cases hst : s.start with
    | none => exact ed_int
    | some r => rw [hst] at e; cases e
  · cases hst : s.start with
    | none => rw [hst] at e; cases e
    | some r => exact ed_int
  · rw [len_tD]
    unfold ST.flips
    cases s.start with
    | none => rfl
    | some r => rfl
  · refine run_last (run_ret (ed_if (b := decide (s.flips % 2 = 1)) (et_test (ed_to (ed_op (ed_op (ed_var rfl) ed_int (rd_I (by decide) fun _ => .int _)) ed_int rd_eqI) ?_)) (fun e => ?_) (fun e => ?_)))
    · congr 1
      exact decide_eq_decide.mpr ⟨fun h => by omega, fun h => by omega⟩
    · have e := of_decide_eq_true e
      refine ed_to (ed_call (ea2 (ed_var rfl) (ed_var rfl)) (R_opposite.mk q s.last.det)) ?_
      show nD (-s.last.det) = nD (ST.sgn s.flips s.last.det)
      unfold ST.sgn
      rw [if_pos e]
    · have e := of_decide_eq_false e
      refine ed_to (ed_var rfl) ?_
      show nD s.last.det = nD (ST.sgn s.flips s.last.det)
      unfold ST.sgn
      rw [if_neg e]
abbrev N_determinant_of : List Str := ["q", "step"]
theorem sc_determinant_of : FnScope N_determinant_of ["q", "step"] (defScope s_determinant_of) := ⟨rfl, rfl, rfl, by decide +kernel, rfl, by decide +kernel, by decide +kernel⟩
theorem ok_determinant_of (T : Top K mg) : Has P w K mg base 9 "determinant_of" ["q", "step"] (spR K R_determinant_of) := by
  obtain ⟨f, fd, g, Fd⟩ := T.def_ 65 d_determinant_of rfl
  have nd := sc_determinant_of.nd
  have h_step_determinant := ok_step_determinant (P := P) (w := w) (base := base) T
  have h_check_step := ok_check_step (P := P) (w := w) (base := base) T
  refine has_of g Fd sc_determinant_of (fun _ _ _ _ _ _ us hl => match us, hl with | [_, _], _ => rfl) (fun _ _ h => by cases h <;> rfl) fun cdv A outer s H E hr ds d h => ?_
  refine ⟨_, (pss_cons (ps_expr (pe_callH h_check_step hr (by decide) rfl (pa_cons (pv 0) (pa_cons (pv 1) pa_nil)))) (pss_one (ps_ret (pe_callH h_step_determinant hr (by decide) rfl (pa_cons (pv 0) (pa_cons (pv 1) pa_nil)))))), ?_⟩
  cases h with
  | mk q s hs hl =>
  exact run_drop (ed_call (ea2 (ed_var rfl) (ed_var rfl)) (R_check_step.mk q s hs (by omega))) (run_last (run_ret (ed_call (ea2 (ed_var rfl) (ed_var rfl)) (R_step_determinant.mk q s))))
end
end K19

/-! TEXT K19G -/
set_option Elab.async false
set_option linter.all false
set_option maxRecDepth 100000
set_option maxHeartbeats 4000000
set_option autoImplicit false
/-! DEFS THAT SHOW: repr wants to know that no repr is under way (the guards); so a promise of its own kind, and repr of data. -/
namespace K19
open PySem PySem.Spec PyProof.Rows L2
open Evl (Ex)

/-! ### the length of what is shown -/
structure Sh (n : Nat) (d : PyData) : Prop where
  say : d.showable = true
  nod : d.hasDict = false
  len : d.shown.length ≤ n
theorem Sh.mono {m n : Nat} {d : PyData} (h : Sh m d) (e : m ≤ n) : Sh n d := ⟨h.say, h.nod, Nat.le_trans h.len e⟩
theorem sh_int {i : Int} (h : i.natAbs.log2 < 1920) : Sh 2000 (.int i) := by
  refine ⟨by simp only [PyData.showable, decide_eq_true_eq]; exact h, by simp only [PyData.hasDict], ?_⟩
  have e := int_text_length_le (k := 1920) (by decide) h
  simp only [PyData.shown]
  rw [PySem.ofString_length]
  omega
theorem sh_small {n : Nat} (h : n < 2 ^ 1000) : Sh 2000 (.int (n : Nat)) := sh_int (by
  show n.log2 < 1920
  by_cases z : n = 0
  · subst z
    decide
  · exact Nat.lt_trans ((Nat.log2_lt z).mpr h) (by decide))
theorem sh_all {n : Nat} : ∀ {ds : List PyData}, (∀ d ∈ ds, Sh n d) → PyData.showableAll ds = true ∧ PyData.hasDictAll ds = false ∧ piled (PyData.shownAll ds) ≤ ds.length * (n + 2) ∧ (PyData.shownAll ds).length = ds.length
  | [], _ => ⟨by simp only [PyData.showableAll], by simp only [PyData.hasDictAll], by simp [PyData.shownAll, piled], by simp [PyData.shownAll]⟩
  | d :: ds, h => by
    obtain ⟨h1, h2, h3, h4⟩ := sh_all fun e he => h e (List.mem_cons_of_mem _ he)
    have k := h d List.mem_cons_self
    refine ⟨by simp only [PyData.showableAll, k.say, h1, Bool.and_self], by simp only [PyData.hasDictAll, k.nod, h2, Bool.or_self], ?_, by simp only [PyData.shownAll, List.length_cons, h4]⟩
    have := k.len
    simp only [PyData.shownAll, piled_cons, List.length_cons]
    rw [Nat.add_mul]
    omega
theorem text_len : ∀ ts : List Str, (listText ts).length ≤ piled ts + 2
  | [] => by decide
  | t :: r => by
    have h := textFrom_length_pos r 1 (("[" : Str) ++ (if (0 : Nat) > 0 then ", " else "" : String) ++ t) (Nat.succ_pos 0)
    have e1 : (listText (t :: r)).length = (textFrom 1 (("[" : Str) ++ (if (0 : Nat) > 0 then ", " else "" : String) ++ t) r).length + 1 := by
      show (textFrom 0 "[" (t :: r) ++ "]").length = _
      rw [Str.length_append]
      rfl
    have e2 : (("[" : Str) ++ (if (0 : Nat) > 0 then ", " else "" : String) ++ t).length = 1 + t.length := by
      rw [Str.length_append]
      rfl
    rw [e1, h, e2, piled_cons]
    omega
theorem tup_len (ts : List Str) : (tupleText ts).length ≤ piled ts + 3 := by
  have e : (tupleText ts).length ≤ (Str.join ", " ts).length + 3 := by
    unfold tupleText
    rw [Str.length_append, Str.length_append]
    have : (if ts.length == 1 then ",)" else ")" : String).length ≤ 2 := by split <;> decide
    have l1 : (Str.ofString "(").length = 1 := rfl
    have l2 : (Str.ofString (if ts.length == 1 then ",)" else ")" : String)).length ≤ 2 := by rw [PySem.ofString_length]; exact this
    show (Str.ofString "(").length + _ + (Str.ofString _).length ≤ _
    omega
  cases ts with
  | nil => exact Nat.le_trans e (by decide)
  | cons t r =>
    have := join_length_add (t :: r) (fun z => nomatch z)
    omega
theorem sh_lst {n : Nat} {ds : List PyData} (h : ∀ d ∈ ds, Sh n d) : Sh (ds.length * (n + 2) + 3) (.list ds) := by
  obtain ⟨h1, h2, h3, _⟩ := sh_all h
  refine ⟨by simp only [PyData.showable]; exact h1, by simp only [PyData.hasDict]; exact h2, ?_⟩
  have := text_len (PyData.shownAll ds)
  simp only [PyData.shown]
  omega
theorem sh_tup {n : Nat} {ds : List PyData} (h : ∀ d ∈ ds, Sh n d) : Sh (ds.length * (n + 2) + 3) (.tuple ds) := by
  obtain ⟨h1, h2, h3, _⟩ := sh_all h
  refine ⟨by simp only [PyData.showable]; exact h1, by simp only [PyData.hasDict]; exact h2, ?_⟩
  have := tup_len (PyData.shownAll ds)
  simp only [PyData.shown]
  omega
/-- data that repr takes -/
structure Say (d : PyData) : Prop where
  say : d.showable = true
  nod : d.hasDict = false
  len : d.shown.length ≤ sizeLine
  dep : d.depth ≤ 50
  cls : isDisplay d = true ∨ ∃ i, d = .int i
theorem Sh.lst {n : Nat} {ds : List PyData} (h : Sh n (.list ds)) (hn : n ≤ 16000000) (f : Fl 50 (.list ds)) : Say (.list ds) := ⟨h.say, h.nod, Nat.le_trans h.len (by rw [sizeLine_eq]; omega), f.dep, .inl rfl⟩
theorem Sh.tup {n : Nat} {ds : List PyData} (h : Sh n (.tuple ds)) (hn : n ≤ 16000000) (f : Fl 50 (.tuple ds)) : Say (.tuple ds) := ⟨h.say, h.nod, Nat.le_trans h.len (by rw [sizeLine_eq]; omega), f.dep, .inl rfl⟩
theorem Sh.int {n : Nat} {i : Int} (h : Sh n (.int i)) (hn : n ≤ 16000000) : Say (.int i) := ⟨h.say, h.nod, Nat.le_trans h.len (by rw [sizeLine_eq]; omega), (fl_int (n := 50)).dep, .inr ⟨i, rfl⟩⟩

/-! ### repr -/
def rRepr (K : PySem.W.Frag) : List V → Hp → VK → Prop := fun xs H Q => ∃ v d, xs = [v] ∧ Dp K H v d ∧ Say d ∧ Q (.str d.shown) H
theorem cr_repr {X : Cx} (hg : X.A.guards = some []) (hu : X.A.units + 64 < cLine) : CallR X (.builtin "repr") (rRepr X.K) := by
  intro pins s σ H xs us Q I r h
  obtain ⟨v, d, rfl, hd, hs, q⟩ := h
  obtain ⟨u, rfl, ru⟩ := vals1 r
  rcases hs.cls with c | ⟨i, rfl⟩
  · obtain ⟨as, r1⟩ := Dp.reads I d v u hd ru
    obtain ⟨a, rfl⟩ := isRef_of_reads r1 c
    have hdep := hs.dep
    exact repr_of_reads' r1 hs.say (PyData.noDict_hsm hs.nod) hg (by omega) (fun _ _ e => e) (fun h' t tk hk => ⟨.str _, H, I.kept (t' := tk) hk, ⟨t, rfl⟩, q⟩) hs.len
  · rw [dp_int hd] at ru
    obtain ⟨t, rfl⟩ := ru
    have hl := hs.say
    simp only [PyData.showable, decide_eq_true_eq] at hl
    refine PySem.P.repr_of_int hl ⟨.str _, H, I.tok _, ⟨_, rfl⟩, ?_⟩
    simp only [PyData.shown] at q
    exact q
theorem rc_repr {K : PySem.W.Frag} {d : PyData} (h : Say d) : RdC K (rRepr K) [d] (.str d.shown) := fun vs D H s p Q q => by
  obtain ⟨v, rfl, pv⟩ := dpA1 p
  exact ⟨v, d, rfl, dpX s pv, h, q _ D H (Stp.rfl' s) (.str _)⟩
end K19

/-! TEXT K19S1 -/
set_option Elab.async false
set_option linter.all false
set_option maxRecDepth 100000
set_option maxHeartbeats 4000000
set_option autoImplicit false
/-! SETS OF NESTED TUPLES, 1: the table of 512 slots. -/
namespace K19
open PySem PySem.Spec PyProof.Rows L2
open Evl (Ex)
/-! ### the round of 512 -/
def orb : Nat → Nat → List Nat
  | 0, _ => []
  | n + 1, x => x :: orb n ((x * 5 + 1) % 512)
theorem lcgI_front (m : Nat) : ∀ k i, lcgI m ((i * 5 + 1) % (m + 1)) k = lcgI m i (k + 1)
  | 0, _ => rfl
  | k + 1, i => by
    show (lcgI m ((i * 5 + 1) % (m + 1)) k * 5 + 1) % (m + 1) = (lcgI m i (k + 1) * 5 + 1) % (m + 1)
    rw [lcgI_front m k i]
theorem orb_mem : ∀ n x j, j ∈ orb n x → ∃ k, k < n ∧ lcgI 511 x k = j
  | 0, _, _, h => by cases h
  | n + 1, x, j, h => by
    rcases List.mem_cons.mp h with e | h
    · exact ⟨0, Nat.succ_pos n, e.symm⟩
    · obtain ⟨k, hk, e⟩ := orb_mem n _ j h
      exact ⟨k + 1, Nat.succ_lt_succ hk, (lcgI_front 511 k x).symm.trans e⟩
theorem orb_all : ((List.range 512).all fun j => (orb 512 0).any (Nat.beq j)) = true := by decide +kernel
theorem lcg0 (k : Nat) : lcgI 511 0 k = lcgN 511 k := by
  have h := lcgN_add 511 0 k
  rw [Nat.zero_add] at h
  exact h
theorem reach0 {j : Nat} (h : j ≤ 511) : ∃ k, k < 512 ∧ lcgN 511 k = j := by
  obtain ⟨x, hx, e⟩ := List.any_eq_true.mp (List.all_eq_true.mp orb_all j (List.mem_range.mpr (by omega)))
  obtain ⟨k, hk, e2⟩ := orb_mem 512 0 x hx
  rw [lcg0] at e2
  exact ⟨k, hk, e2.trans (Nat.eq_of_beq_eq_true e).symm⟩
theorem lcg_512 : lcgN 511 512 = 0 := by decide +kernel
theorem lcg_per : ∀ k, lcgN 511 (512 + k) = lcgN 511 k
  | 0 => lcg_512
  | k + 1 => by
    show (lcgN 511 (512 + k) * 5 + 1) % 512 = (lcgN 511 k * 5 + 1) % 512
    rw [lcg_per k]
theorem run_511 (h : Int) {j : Nat} (hj : j ≤ 511) : ∃ n, n ≤ 523 ∧ runI 511 (SetTable.bits h) n = j := by
  obtain ⟨a, a1, a2⟩ := reach0 (runI_le 511 (SetTable.bits h) 12)
  obtain ⟨b, b1, b2⟩ := reach0 hj
  have key : ∀ k, runI 511 (SetTable.bits h) (12 + k) = lcgN 511 (a + k) := fun k => by rw [runI_tail (bits_lt h), ← a2, lcgN_add]
  by_cases c : b < a
  · refine ⟨12 + (b + 512 - a), by omega, ?_⟩
    rw [key, show a + (b + 512 - a) = 512 + b by omega, lcg_per, b2]
  · refine ⟨12 + (b - a), by omega, ?_⟩
    rw [key, show a + (b - a) = b by omega, b2]
theorem way_511 (h : Int) {j : Nat} (hj : j ≤ 511) : ∃ k, k < 10 * SetTable.turns 511 ∧ way 511 h k = j := by
  obtain ⟨n, hn, e⟩ := run_511 h hj
  obtain ⟨k, hk, e2⟩ := run_nth 511 (SetTable.bits h) n
  exact ⟨k, by unfold SetTable.turns; omega, by show (L2.nth 511 _ k).j = j; rw [e2]; exact e⟩
theorem way_in (h : Int) (k : Nat) : way 511 h k ≤ 511 := by
  have hi : SetTable.bits h % 512 ≤ 511 := by omega
  have r := runEnd_bd hi
  have q := nth_in (m := 511) k (runAt 511 (SetTable.bits h % 512) (SetTable.bits h)) (by show SetTable.bits h % 512 + (SetTable.runEnd 511 (SetTable.bits h % 512) - SetTable.bits h % 512) ≤ 511; omega)
  exact Nat.le_trans (Nat.le_add_right _ _) q
/-! ### the table -/
structure Tb (t : SetTable) (n : Nat) : Prop where
  up : Ris t.place.toList
  nodum : t.dummies = #[]
  num : t.place.size = n
  msk : t.mask = 511
theorem Tb.gap {t : SetTable} {n : Nat} (T : Tb t n) (hn : n ≤ 500) (h : Int) : ∃ K, K < 10 * SetTable.turns t.mask ∧ way t.mask h K ∉ t.place.toList ∧ ∀ k, k < K → way t.mask h k ∈ t.place.toList := by
  rw [T.msk]
  obtain ⟨j, hj, e⟩ := st_missing t.place.toList 512 (by rw [Array.length_toList, T.num]; omega)
  obtain ⟨k, hk, e2⟩ := way_511 h (show j ≤ 511 by omega)
  obtain ⟨K, k1, k2, k3⟩ := st_least (p := fun k => way 511 h k ∉ t.place.toList) k (by show way 511 h k ∉ _; rw [e2]; exact e)
  exact ⟨K, by omega, k2, fun c hc => Classical.byContradiction fun z => k3 c hc z⟩
theorem Tb.put {t : SetTable} {n : Nat} (T : Tb t n) {j : Nat} (hj : j ∉ t.place.toList) : Tb (t.put j).1 (n + 1) := by
  have b := (below_cut T.up j).1
  have hnp : t.place[SetTable.below t.place j]? ≠ some j := fun e => hj (List.mem_of_getElem? (by rw [Array.getElem?_toList]; exact e))
  refine ⟨ris_insert T.up hnp, put_dm T.nodum j, ?_, T.msk⟩
  rw [← Array.length_toList, put_place, len_ins _ (by rw [Array.length_toList]; exact b), Array.length_toList, T.num]
/-! ### laid anew -/
theorem free_511 (own : Array (Option Nat)) (h : Int) {j : Nat} (hj : j ≤ 511) (hf : oAt own j = none) : ∃ K, SetTable.layClean.free 511 own (SetTable.turns 511) (SetTable.bits h % 512) (SetTable.bits h) = some (way 511 h K) ∧ oAt own (way 511 h K) = none := by
  obtain ⟨n, hn, e⟩ := run_511 h hj
  have hw : way 511 h (off 511 (SetTable.bits h % 512) (SetTable.bits h) n) = j := by
    show (L2.nth 511 (runAt 511 (SetTable.bits h % 512) (SetTable.bits h)) (off 511 (SetTable.bits h % 512) (SetTable.bits h) n)).j = j
    rw [nth_off, itL_run]
    exact e
  obtain ⟨K, k1, k2, k3⟩ := st_least (p := fun k => oAt own (way 511 h k) = none) _ (show oAt own (way 511 h (off 511 (SetTable.bits h % 512) (SetTable.bits h) n)) = none by rw [hw]; exact hf)
  refine ⟨K, free_spec 511 own (SetTable.turns 511) n _ _ K (by unfold SetTable.turns; omega) k1 (fun k hk => ?_) (Option.isNone_iff_eq_none.mpr k2), k2⟩
  cases z : oAt own (L2.nth 511 (runAt 511 (SetTable.bits h % 512) (SetTable.bits h)) k).j with
  | none => exact absurd z (k3 k hk)
  | some _ => rfl
structure Ow (n : Nat) (own : Array (Option Nat)) : Prop where
  siz : own.size = 512
  all : ∀ k, k < n → ∃ j, j ≤ 511 ∧ oAt own j = some k
  few : ∃ ps : List Nat, ps.length = n ∧ ∀ j, j ≤ 511 → oAt own j ≠ none → j ∈ ps
theorem Ow.step {n : Nat} {own : Array (Option Nat)} (W : Ow n own) (hn : n ≤ 500) (h : Int) : ∃ j, SetTable.layClean.free 511 own (SetTable.turns 511) (SetTable.bits h % 512) (SetTable.bits h) = some j ∧ Ow (n + 1) (own.setIfInBounds j (some n)) := by
  obtain ⟨ps, hl, hin⟩ := W.few
  obtain ⟨j0, h0, n0⟩ := st_missing ps 512 (by omega)
  have f0 : oAt own j0 = none := Classical.byContradiction fun z => n0 (hin j0 (by omega) z)
  obtain ⟨K, e1, e2⟩ := free_511 own h (show j0 ≤ 511 by omega) f0
  have wi := way_in h K
  have ws : way 511 h K < own.size := by rw [W.siz]; omega
  have self := oAt_set_self (some n) ws
  refine ⟨_, e1, by rw [Array.size_setIfInBounds]; exact W.siz, fun k hk => ?_, way 511 h K :: ps, by rw [List.length_cons, hl], fun j hj z => ?_⟩
  · by_cases c : k = n
    · exact ⟨_, wi, by rw [self, c]⟩
    · obtain ⟨j, j1, j2⟩ := W.all k (by omega)
      refine ⟨j, j1, ?_⟩
      rw [oAt_set_ne _ fun z => by rw [z, e2] at j2; cases j2]
      exact j2
  · by_cases c : j = way 511 h K
    · rw [c]
      exact List.mem_cons_self
    · rw [oAt_set_ne _ c] at z
      exact List.mem_cons_of_mem _ (hin j hj z)
theorem Ow.fold : ∀ (hs : List Int) (n : Nat) (own : Array (Option Nat)), Ow n own → n + hs.length ≤ 500 → ∃ own', hs.foldl (stepF 511) (some (own, n)) = some (own', n + hs.length) ∧ Ow (n + hs.length) own'
  | [], n, own, W, _ => ⟨own, rfl, W⟩
  | h :: hs, n, own, W, hl => by
    rw [List.length_cons] at hl ⊢
    obtain ⟨j, e, W2⟩ := W.step (by omega) h
    obtain ⟨own', f, W3⟩ := Ow.fold hs (n + 1) _ W2 (by omega)
    rw [show n + 1 + hs.length = n + (hs.length + 1) by omega] at f W3
    exact ⟨own', by rw [List.foldl_cons, stepF_some e]; exact f, W3⟩
theorem lay_511 (t : SetTable) {hs : Array Int} {wanted : Nat} (hw : SetTable.sizeAbove wanted = 512) (hn : hs.size ≤ 500) :
    ∃ t' order, t.relaid hs wanted = some (t', order) ∧ order.toList.Perm (List.range hs.size) ∧ Tb t' hs.size ∧ t'.led = t.led ∧ t'.plain = t.plain := by
  have hm : SetTable.sizeAbove wanted - 1 = 511 := by rw [hw]
  have i0 : Ow 0 (Array.replicate 512 none) := ⟨by simp, fun k hk => absurd hk (Nat.not_lt_zero k), [], rfl, fun j hj z => absurd (oAt_init hj) z⟩
  obtain ⟨own, f, W⟩ := Ow.fold hs.toList 0 _ i0 (by rw [Array.length_toList]; omega)
  rw [Nat.zero_add, Array.length_toList] at f W
  have e : SetTable.layClean 511 hs = some own := by
    rw [layClean_eq]
    show (hs.toList.foldl (stepF 511) (some (Array.replicate 512 none, 0))).map Prod.fst = some own
    rw [f]
    rfl
  have hr : t.relaid hs wanted = some (tabOf t 511 own, ((liveOf 511 own).map Prod.snd).toArray) := by
    rw [relaid_eq, hm, e]
    rfl
  have ris := ris_live (fun j => own.getD j none) (List.range 512) (by unfold Ris; exact List.pairwise_lt_range)
  have r1 : Ris ((liveOf 511 own).map Prod.fst) := ris.1
  have len : (liveOf 511 own).length = hs.size := by
    obtain ⟨ps, p1, p2⟩ := W.few
    have a := nat_nodup_len ((liveOf 511 own).map Prod.fst) ps (List.Pairwise.imp (fun h => Nat.ne_of_lt h) r1) fun x hx => by
      obtain ⟨⟨y, k⟩, hq, z⟩ := List.mem_map.mp hx
      have z : y = x := z
      subst z
      obtain ⟨b1, b2⟩ := (mem_live W.siz).1 hq
      exact p2 y b1 (by rw [b2]; exact fun z => nomatch z)
    have b := nat_nodup_len (List.range hs.size) ((liveOf 511 own).map Prod.snd) List.nodup_range fun k hk => by
      obtain ⟨j, b1, b2⟩ := W.all k (List.mem_range.mp hk)
      exact List.mem_map.mpr ⟨(j, k), (mem_live W.siz).2 ⟨b1, b2⟩, rfl⟩
    rw [List.length_map, p1] at a
    rw [List.length_map, List.length_range] at b
    omega
  refine ⟨_, _, hr, ?_, ⟨r1, rfl, ?_, rfl⟩, rfl, rfl⟩
  · refine perm_range hs.size _ (by show ((liveOf 511 own).map Prod.snd).length = _; rw [List.length_map, len]) fun k hk => ?_
    obtain ⟨j, b1, b2⟩ := W.all k hk
    exact List.mem_map.mpr ⟨(j, k), (mem_live W.siz).2 ⟨b1, b2⟩, rfl⟩
  · show ((liveOf 511 own).map Prod.fst).toArray.size = hs.size
    rw [List.size_toArray, List.length_map, len]
theorem size_308 : SetTable.sizeAbove (SetTable.grown 77) = 512 := by decide +kernel
end K19

/-! TEXT K19S2 -/
set_option Elab.async false
set_option linter.all false
set_option maxRecDepth 100000
set_option maxHeartbeats 4000000
set_option autoImplicit false
/-! SETS OF NESTED TUPLES, 2: a search, one put in. -/
namespace K19
open PySem PySem.Spec PyProof.Rows L2
open Evl (Ex)
mutual
def noTx : NestedKey → Bool
  | .none => true
  | .num _ => true
  | .text _ => false
  | .tup ks => noTxs ks
def noTxs : List NestedKey → Bool
  | [] => true
  | k :: ks => noTx k && noTxs ks
end
/-- the tuple at a is the key k -/
structure IsN (h : Heap) (k : NestedKey) (a : Addr) : Prop where
  its : NestedIs h k (.ref a)
  dep : k.depth ≤ 8
  ntx : noTx k = true
theorem IsN.at_ {h h' : Heap} {k : NestedKey} {a : Addr} (x : IsN h k a) (hk : ∀ b o vs n, h.get? b = some o → o.data = .seq vs n → h'.get? b = some o) : IsN h' k a := ⟨NestedIs.at hk k _ x.its, x.dep, x.ntx⟩
section
variable {P : Program} {w : World} {E : Value → Shared → Prop}
mutual
theorem ofA_key : ∀ (k : NestedKey) (v : Value) (n : Nat) (A : Around) (s : Shared) (Q : Bool → Shared → Prop), NestedIs s.heap k v → k.depth ≤ n → Q false s → wpAny (model P w) A (ofAClassStatement n v) Q E s
  | .none, _, n, A, s, Q, x, _, h => by
    cases x
    cases n <;> exact wpAny_pure h
  | .num i, _, n, A, s, Q, x, _, h => by
    cases x <;> cases n <;> exact wpAny_pure h
  | .text y, _, n, A, s, Q, x, _, h => by
    cases x
    cases n <;> exact wpAny_pure h
  | .tup ks, _, n, A, s, Q, x, hn, h => by
    cases x with
    | @tup a o vs m _ hg hc hd hk =>
      simp only [NestedKey.depth] at hn
      cases n with
      | zero => omega
      | succ n =>
        unfold ofAClassStatement
        refine wpAny_bind (wpAny_typeOf (⟨o, hg, hc⟩ : s.TypeIs (.ref a) "tuple") ?_)
        dsimp only
        simp only [show (("tuple" : String) == "tuple") = true by decide, if_true, Bool.not_true, Bool.false_eq_true, if_false]
        try refine wpAny_bind (wpAny_pure ?_)
        try simp only [Bool.not_true, Bool.false_eq_true, if_false]
        refine wpAny_bind (wpAny_seqItems hg hd ?_)
        dsimp only
        refine wpAny_bind ?_
        show wpAny _ _ (forIn vs _ _) _ _ s
        rw [← Array.forIn_toList]
        refine ofA_keys ks vs.toList n A s _ hk (by omega) ?_
        exact wpAny_pure h
theorem ofA_keys : ∀ (ks : List NestedKey) (vs : List Value) (n : Nat) (A : Around) (s : Shared) (Q : Option Bool × Unit → Shared → Prop), NestedAll s.heap ks vs → NestedKey.depthAll ks ≤ n → Q (none, ()) s →
    wpAny (model P w) A (forIn vs ((none, ()) : Option Bool × Unit) fun y _ => do
      if ← ofAClassStatement n y then pure (ForInStep.done (some true, ())) else pure (ForInStep.yield (none, ()))) Q E s
  | [], _, n, A, s, Q, x, _, h => by cases x; exact wpAny_pure h
  | k :: ks, _, n, A, s, Q, x, hn, h => by
    cases x with
    | cons x1 x2 =>
      simp only [NestedKey.depthAll] at hn
      rw [List.forIn_cons]
      refine wpAny_bind (wpAny_bind (ofA_key k _ n A s _ x1 (by omega) ?_))
      simp only [Bool.false_eq_true, if_false]
      refine wpAny_pure ?_
      exact ofA_keys ks _ n A s Q x2 (by omega) h
end
mutual
theorem byV_key : ∀ (k : NestedKey) (v : Value) (n : Nat) (A : Around) (s : Shared) (Q : Bool → Shared → Prop), NestedIs s.heap k v → k.depth ≤ n → noTx k = true → Q true s → wpAny (model P w) A (hashByValue n v) Q E s
  | .none, _, n, A, s, Q, x, _, _, h => by
    cases x
    cases n <;> exact wpAny_pure h
  | .num i, _, n, A, s, Q, x, _, _, h => by
    cases x <;> cases n <;> exact wpAny_pure h
  | .text y, _, n, A, s, Q, x, _, hx, h => by cases hx
  | .tup ks, _, n, A, s, Q, x, hn, hx, h => by
    cases x with
    | @tup a o vs m _ hg hc hd hk =>
      simp only [NestedKey.depth] at hn
      cases n with
      | zero => omega
      | succ n =>
        unfold hashByValue
        refine wpAny_bind (wpAny_specialOf (⟨o, hg, hc⟩ : s.TypeIs (.ref a) "tuple") F.slot_tuple_hash.lookup ?_)
        show wpAny _ _ (seqItems? (.ref a) >>= _) _ _ s
        refine wpAny_bind (wpAny_seqItems hg hd ?_)
        refine wpAny_bind ?_
        show wpAny _ _ (forIn vs _ _) _ _ s
        rw [← Array.forIn_toList]
        refine byV_keys ks vs.toList n A s _ hk (by omega) hx ?_
        exact wpAny_pure h
theorem byV_keys : ∀ (ks : List NestedKey) (vs : List Value) (n : Nat) (A : Around) (s : Shared) (Q : Option Bool × Unit → Shared → Prop), NestedAll s.heap ks vs → NestedKey.depthAll ks ≤ n → noTxs ks = true → Q (none, ()) s →
    wpAny (model P w) A (forIn vs ((none, ()) : Option Bool × Unit) fun y _ => do
      if !(← hashByValue n y) then pure (ForInStep.done (some false, ())) else pure (ForInStep.yield (none, ()))) Q E s
  | [], _, n, A, s, Q, x, _, _, h => by cases x; exact wpAny_pure h
  | k :: ks, _, n, A, s, Q, x, hn, hx, h => by
    cases x with
    | cons x1 x2 =>
      simp only [NestedKey.depthAll] at hn
      have hx : (noTx k && noTxs ks) = true := hx
      rw [Bool.and_eq_true] at hx
      rw [List.forIn_cons]
      refine wpAny_bind (wpAny_bind (byV_key k _ n A s _ x1 (by omega) hx.1 ?_))
      simp only [Bool.not_true, Bool.false_eq_true, if_false]
      refine wpAny_pure ?_
      exact byV_keys ks _ n A s Q x2 (by omega) hx.2 h
end
/-- a search among nested tuples shows nothing -/
theorem seen_N {s : Shared} {A : Around} {k : NestedKey} {b : Addr} {Q : Bool → Shared → Prop} (hk : IsN s.heap k b) : ∀ {ys : List Value}, (∀ y ∈ ys, ∃ k' c, y = Value.ref c ∧ IsN s.heap k' c) → Q false s →
    wpAny (model P w) A (searchCouldBeSeen (.ref b) ys) Q E s := fun {ys} hy h => by
  unfold searchCouldBeSeen
  refine wpAny_bind ?_
  refine wpAny_forIn_list _ (fun rest r u => r.1 = none ∧ u = s ∧ ∀ y ∈ rest, ∃ k' c, y = Value.ref c ∧ IsN s.heap k' c) _ ?_ ?_ _ _ ⟨rfl, rfl, hy⟩
  · rintro v rest r u ⟨hr, rfl, ha⟩
    obtain ⟨k', c, rfl, hc⟩ := ha v List.mem_cons_self
    have go : ∀ y ∈ rest, ∃ k' c, y = Value.ref c ∧ IsN u.heap k' c := fun z hz => ha z (List.mem_cons_of_mem _ hz)
    dsimp only
    by_cases hv : (b == c || (carriedByValue (.ref b) && carriedByValue (.ref c))) = true
    · refine wp_if_pos hv ?_
      exact wpAny_pure ⟨rfl, rfl, go⟩
    · refine wp_if_neg hv ?_
      refine wpAny_bind (quiet_key k _ 8 u hk.its hk.dep A _ _ ?_)
      simp only [Bool.not_true, Bool.false_eq_true, if_false]
      refine wpAny_bind (quiet_key k' _ 8 u hc.its hc.dep A _ _ ?_)
      simp only [Bool.not_true, Bool.false_eq_true, if_false]
      refine wpAny_bind (ofA_key k _ 8 A u _ hk.its hk.dep ?_)
      simp only [Bool.false_eq_true, if_false]
      refine wpAny_bind (ofA_key k' _ 8 A u _ hc.its hc.dep ?_)
      simp only [Bool.false_eq_true, if_false]
      exact wpAny_pure ⟨rfl, rfl, go⟩
  · rintro ⟨r1, r2⟩ u ⟨hr, rfl, _⟩
    simp only at hr
    subst hr
    exact wpAny_pure h
end
end K19

/-! TEXT K19S3 -/
set_option Elab.async false
set_option linter.all false
set_option maxRecDepth 100000
set_option maxHeartbeats 4000000
set_option autoImplicit false
/-! SETS OF NESTED TUPLES, 3: the set, a search, one put in. -/
namespace K19
open PySem PySem.Spec PyProof.Rows L2
open Evl (Ex)
abbrev NL := List (Addr × NestedKey)
def rwN (w : World) (L : NL) : List (Int × Value) := L.map fun p => (p.2.hash w, Value.ref p.1)
structure SetN (w : World) (h : Heap) (a : Addr) (L : NL) (es : Array (Int × Value)) (ep : Nat) (t : SetTable) : Prop where
  ob : ∃ o, h.get? a = some o ∧ o.ExactSet ∧ o.data = .set es ep t
  rows : es.toList = rwN w L
  tab : TabOk t (L.map fun p => p.2.hash w) ∨ (Tb t L.length ∧ 76 < L.length)
  nd : (L.map Prod.snd).Nodup
  keys : ∀ p ∈ L, IsN h p.2 p.1
  plain : t.plain = true
  led : w.params.followText "set-order" = true ∨ t.led = true
  room : L.length * 5 < t.mask * 3
  few : L.length ≤ 300
section
variable {P : Program} {w : World} {A : Around} {E : Value → Shared → Prop} {s : Shared} {a : Addr} {L : NL} {es : Array (Int × Value)} {ep : Nat} {t : SetTable}
theorem rwN_len (L : NL) : (rwN w L).length = L.length := List.length_map _
theorem SetN.num (R : SetN w s.heap a L es ep t) : es.size = L.length := by
  have h := congrArg List.length R.rows
  rwa [rwN_len] at h
theorem SetN.basic (R : SetN w s.heap a L es ep t) : Ris t.place.toList ∧ t.dummies = #[] ∧ t.place.size = L.length ∧ t.mask ≤ 511 ∧ t.mask % 2 = 1 := by
  rcases R.tab with T | ⟨T, _⟩
  · refine ⟨T.ris, T.dm, by rw [T.sz, List.length_map], ?_, mask_odd T.mok⟩
    rcases T.mok with e | e | e <;> omega
  · exact ⟨T.up, T.nodum, T.num, by rw [T.msk]; exact Nat.le_refl _, by rw [T.msk]⟩
theorem SetN.fits (R : SetN w s.heap a L es ep t) : t.fits es.size = true := by
  obtain ⟨_, h2, h3, _⟩ := R.basic
  have h4 := R.num
  have h5 := R.room
  unfold SetTable.fits SetTable.fill
  rw [h2, Bool.and_eq_true, beq_iff_eq, decide_eq_true_eq]
  exact ⟨by rw [h3, h4], by show t.place.size + 0 ≤ t.mask; omega⟩
theorem SetN.row (R : SetN w s.heap a L es ep t) {i : Nat} {p : Addr × NestedKey} (h : L[i]? = some p) : es[i]? = some (p.2.hash w, Value.ref p.1) := by
  rw [← Array.getElem?_toList, R.rows]
  show (L.map _)[i]? = _
  rw [List.getElem?_map, h]
  rfl
theorem SetN.gw (R : SetN w s.heap a L es ep t) : ¬ t.gaveWay = true := by
  unfold SetTable.gaveWay
  rw [R.basic.2.2.2.2]
  decide
theorem nth_dum (m : Nat) : ∀ (n : Nat) (p : SetTable.Probe), p.dummy = none → (L2.nth m p n).dummy = none
  | 0, _, h => h
  | n + 1, p, h => nth_dum m n (adv m p) (by unfold adv; split <;> exact h)
/-- the search from the c-th step of the way on -/
theorem seek (R : SetN w s.heap a L es ep t) {x : Addr} {k : NestedKey} (hx : IsN s.heap k x) (hu : A.units + 8 < cLine) {K : Nat} (hKf : K < 10 * SetTable.turns t.mask) (hK : way t.mask (k.hash w) K ∉ t.place.toList)
    (hKb : ∀ c, c < K → way t.mask (k.hash w) c ∈ t.place.toList) {Q : SetFound → Shared → Prop} (hin : k ∈ L.map Prod.snd → Q (.there none) s) (hout : k ∉ L.map Prod.snd → Q (.free (way t.mask (k.hash w) K) false) s) :
    ∀ (f c : Nat) (st : Option SetTable.Probe), st.getD (t.probeStart (k.hash w)) = L2.nth t.mask (t.probeStart (k.hash w)) c → c ≤ K → K - c < f →
      (∀ (i : Nat) p, L[i]? = some p → p.2 = k → ∃ c', c ≤ c' ∧ c' < K ∧ t.place.toList[i]? = some (way t.mask (k.hash w) c')) → wpAny (model P w) A (setSearchFrom a (.ref x) (k.hash w) true f st) Q E s
  | 0, c, st, _, _, hf, _ => absurd hf (Nat.not_lt_zero _)
  | f + 1, c, st, hst, hc, hf, hre => by
    obtain ⟨o, ho, hex, hd⟩ := R.ob
    obtain ⟨ris, dm, psz, _, _⟩ := R.basic
    have sh : ∀ q, (L2.nth t.mask (L2.nth t.mask (t.probeStart (k.hash w)) c) q).j = way t.mask (k.hash w) (c + q) := fun q => by rw [← nth_add]; rfl
    have hash : ∀ (i : Nat) p, L[i]? = some p → (es[i]?.map Prod.fst).getD 0 = p.2.hash w := fun i p hp => by rw [R.row hp]; rfl
    rw [setSearchFrom_succ]
    refine wpAny_bind (wpAny_setState_of ho hd R.fits ?_)
    dsimp only
    refine wp_if_neg R.gw ?_
    try refine wpAny_bind (wpAny_pure ?_)
    have go := go_spec t ris dm (fun i => (es[i]?.map Prod.fst).getD 0) (k.hash w) (10 * SetTable.turns t.mask) (K - c) (L2.nth t.mask (t.probeStart (k.hash w)) c) (nth_dum _ _ _ rfl) (by omega)
      (fun q hq => by rw [sh]; exact hKb (c + q) (by omega)) (by rw [sh, show c + (K - c) = K by omega]; exact hK)
    have pe : t.probe (fun i => (es[i]?.map Prod.fst).getD 0) (k.hash w) (st.getD (t.probeStart (k.hash w))) = SetTable.probe.go t (fun i => (es[i]?.map Prod.fst).getD 0) (k.hash w) (10 * SetTable.turns t.mask) (L2.nth t.mask (t.probeStart (k.hash w)) c) := by rw [hst]; rfl
    rcases go with ⟨q, i, hq, hi, hh, hno, hpr⟩ | ⟨hno, hpr⟩
    · rw [sh] at hi hpr
      rw [pe, hpr]
      dsimp only
      have hil : i < L.length := by
        have h1 := (List.getElem?_eq_some_iff.mp hi).1
        rw [Array.length_toList] at h1
        omega
      obtain ⟨p, hp⟩ : ∃ p, L[i]? = some p := ⟨_, List.getElem?_eq_getElem hil⟩
      have hm : p ∈ L := List.mem_of_getElem? hp
      have hpt := R.keys p hm
      have rest : wpAny (model P w) A (searchRest a (.ref x) (k.hash w) true f es t (way t.mask (k.hash w) (c + q)) i (L2.nth t.mask (L2.nth t.mask (t.probeStart (k.hash w)) c) (q + 1))) Q E s := by
        unfold searchRest
        rw [R.row hp]
        dsimp only
        refine wpAny_bind (wpAny_holding ((nestedKind P w).eqBool (x := p.2) (y := k) hu ⟨hpt.its, hpt.dep⟩ ⟨hx.its, hx.dep⟩ ?_))
        refine wpAny_bind (wpAny_setState_of ho hd R.fits ?_)
        dsimp only
        by_cases hk : p.2 = k
        · refine wp_if_pos (by simp [hk]) ?_
          exact wpAny_pure (hin (List.mem_map.mpr ⟨p, hm, hk⟩))
        · refine wp_if_neg (by simp [hk]) ?_
          try refine wpAny_bind (wpAny_pure ?_)
          rw [sameMem]
          dsimp only
          have hsl : t.slot (way t.mask (k.hash w) (c + q)) = .live i := slot_live ris hi
          simp only [if_true, hsl, R.row hp]
          refine wpAny_bind (wpAny_isSame_ref_self (wpAny_bind (wpAny_pure ?_)))
          simp only [if_true]
          refine wp_if_neg (by simp [hk]) ?_
          refine seek R hx hu hKf hK hKb hin hout f (c + (q + 1)) _ (nth_add t.mask c _ (q + 1)).symm (by omega) (by omega) fun i0 p0 h0 hk0 => ?_
          obtain ⟨c', a1, a2, a3⟩ := hre i0 p0 h0 hk0
          refine ⟨c', ?_, a2, a3⟩
          by_cases z : c' < c + q
          · refine absurd ((hash i0 p0 h0).trans (congrArg (NestedKey.hash w) hk0)) (hno (c' - c) i0 (by omega) ?_)
            rw [sh, show c + (c' - c) = c' by omega]
            exact a3
          · by_cases y : c' = c + q
            · rw [y] at a3
              have s0 := slot_live ris a3
              rw [hsl] at s0
              injection s0 with s0
              rw [← s0, hp] at h0
              cases h0
              exact absurd hk0 hk
            · omega
      by_cases hl : t.led = true
      · refine wp_if_neg (by simp [hl]) ?_
        try refine wpAny_bind (wpAny_pure ?_)
        exact rest
      · refine wp_if_pos (by simp [hl]) ?_
        refine wpAny_bind (seen_N hx (fun y hy => ?_) ?_)
        · obtain ⟨e, he, ee⟩ := List.mem_map.mp hy
          have he2 : e ∈ es.toList := by
            have z := (Array.mem_filter.mp (Array.mem_toList_iff.mp he)).1
            exact Array.mem_toList_iff.mpr z
          rw [R.rows] at he2
          obtain ⟨p2, hp2, e2⟩ := List.mem_map.mp he2
          exact ⟨p2.2, p2.1, by rw [← ee, ← e2], R.keys p2 hp2⟩
        · refine wp_if_neg (by decide) ?_
          try refine wpAny_bind (wpAny_pure ?_)
          exact rest
    · rw [sh, show c + (K - c) = K by omega] at hpr
      rw [pe, hpr]
      dsimp only
      refine wpAny_pure (hout fun hm => ?_)
      obtain ⟨p0, h0, hk0⟩ := List.mem_map.mp hm
      obtain ⟨i0, e0⟩ := List.getElem?_of_mem h0
      obtain ⟨c', a1, a2, a3⟩ := hre i0 p0 e0 hk0
      refine hno (c' - c) i0 (by omega) ?_ ((hash i0 p0 e0).trans (congrArg (NestedKey.hash w) hk0))
      rw [sh, show c + (c' - c) = c' by omega]
      exact a3
/-- the search that adding asks for -/
theorem seek_at (R : SetN w s.heap a L es ep t) {x : Addr} {k : NestedKey} (hx : IsN s.heap k x) (hu : A.units + 8 < cLine) (hnew : k ∉ L.map Prod.snd ∨ L.length ≤ 76) {Q : SetFound → Shared → Prop} (hin : k ∈ L.map Prod.snd → Q (.there none) s)
    (hout : ∀ K, k ∉ L.map Prod.snd → way t.mask (k.hash w) K ∉ t.place.toList → (∀ c, c < K → way t.mask (k.hash w) c ∈ t.place.toList) → Q (.free (way t.mask (k.hash w) K) false) s) : wpAny (model P w) A (setSearch a (.ref x) (k.hash w) true) Q E s := by
  have hroom := R.room
  have hfew := R.few
  have gap : ∃ K, K < 10 * SetTable.turns t.mask ∧ way t.mask (k.hash w) K ∉ t.place.toList ∧ ∀ c, c < K → way t.mask (k.hash w) c ∈ t.place.toList := by
    rcases R.tab with T | ⟨T, _⟩
    · exact T.first (by rw [List.length_map]; omega) (k.hash w)
    · exact T.gap (by omega) (k.hash w)
  obtain ⟨K, hKf, hK, hKb⟩ := gap
  have hbig : K < 100000 := by
    have h1 := R.basic.2.2.2.1
    unfold SetTable.turns at hKf
    omega
  unfold setSearch
  refine seek R hx hu hKf hK hKb hin (fun hn => hout K hn hK hKb) 100000 0 none rfl (Nat.zero_le _) (by omega) fun i p hp hk => ?_
  rcases R.tab with T | ⟨T, h76⟩
  · have hi : (L.map fun p => p.2.hash w)[i]? = some (k.hash w) := by
      rw [List.getElem?_map, hp, ← hk]
      rfl
    have hil : i < t.place.toList.length := by
      have h1 := (List.getElem?_eq_some_iff.mp hp).1
      have h2 := R.basic.2.2.1
      rw [Array.length_toList]
      omega
    obtain ⟨c, hc, e⟩ := T.before hK hi (List.getElem?_eq_getElem hil)
    exact ⟨c, Nat.zero_le _, hc, by rw [List.getElem?_eq_getElem hil, e]⟩
  · rcases hnew with z | z
    · exact absurd (List.mem_map.mpr ⟨p, List.mem_of_getElem? hp, hk⟩) z
    · omega
theorem IsN.set_same {h h' : Heap} {k : NestedKey} {b : Addr} {o : Obj} (x : IsN h k b) (ho : h.get? a = some o) (hd : o.data = .set es ep t) (hs : Heap.SameBut a h h') : IsN h' k b := x.at_ fun c o' vs n hc hv => by
  refine (hs.2 c fun z => ?_).trans hc
  subst z
  rw [ho] at hc
  cases hc
  rw [hd] at hv
  cases hv
theorem order_N (L : NL) (es : Array (Int × Value)) (order : Array Nat) (hr : es.toList = rwN w L) (hp : order.toList.Perm (List.range L.length)) :
    ∃ L2 : NL, (order.filterMap (es[·]?)).toList = rwN w L2 ∧ L2.Perm L ∧ (L2.map fun p => p.2.hash w) = order.toList.map fun i => (es.map Prod.fst).getD i 0 := by
  have en : ∀ i : Nat, es[i]? = (L[i]?).map fun p => (p.2.hash w, Value.ref p.1) := fun i => by
    rw [← Array.getElem?_toList, hr]
    exact List.getElem?_map
  have e1 : ∀ l : List Nat, l.filterMap (fun i => es[i]?) = rwN w (l.filterMap fun i => L[i]?) := fun l => by
    induction l with
    | nil => rfl
    | cons i l ih =>
      cases hi : L[i]? with
      | none =>
        rw [List.filterMap_cons_none (by rw [en, hi]; rfl), List.filterMap_cons_none hi]
        exact ih
      | some p =>
        rw [List.filterMap_cons_some (by rw [en, hi]; rfl), List.filterMap_cons_some hi, ih]
        rfl
  have e2 : ∀ l : List Nat, (∀ i ∈ l, i < L.length) → ((l.filterMap fun i => L[i]?).map fun p => p.2.hash w) = l.map fun i => (es.map Prod.fst).getD i 0 := fun l => by
    induction l with
    | nil => intro _; rfl
    | cons i l ih =>
      intro hl
      have hi := List.getElem?_eq_getElem (hl i List.mem_cons_self)
      rw [List.filterMap_cons_some hi, List.map_cons, List.map_cons, ih fun j hj => hl j (List.mem_cons_of_mem _ hj)]
      congr 1
      rw [Array.getD_eq_getD_getElem?, Array.getElem?_map, en, hi]
      rfl
  refine ⟨order.toList.filterMap fun i => L[i]?, by rw [Array.toList_filterMap]; exact e1 _, ?_, e2 _ fun i hi => List.mem_range.mp (hp.mem_iff.mp hi)⟩
  have h1 := hp.filterMap fun i => L[i]?
  have h2 : (List.range L.length).filterMap (fun i => L[i]?) = L := by
    have z := e1 (List.range L.length)
    apply List.ext_getElem?
    intro i
    have m : (List.range L.length).map (fun i => L[i]?) = L.map some := by
      apply List.ext_getElem?
      intro j
      by_cases hj : j < L.length
      · rw [List.getElem?_map, List.getElem?_range hj, List.getElem?_map, List.getElem?_eq_getElem hj]
        show some L[j]? = _
        rw [List.getElem?_eq_getElem hj]
        rfl
      · rw [List.getElem?_eq_none (by simpa using hj), List.getElem?_eq_none (by simpa using hj)]
    have y : (List.range L.length).filterMap (fun i => L[i]?) = ((List.range L.length).map fun i => L[i]?).filterMap id := by rw [List.filterMap_map]; rfl
    rw [y, m, List.filterMap_map]
    show (L.filterMap (id ∘ some))[i]? = _
    rw [show (id ∘ some : Addr × NestedKey → Option (Addr × NestedKey)) = some from rfl, List.filterMap_some]
  rw [h2] at h1
  exact h1
/-- the table laid anew, larger -/
theorem relay_N {o : Obj} (ho : s.heap.get? a = some o) (hex : o.ExactSet) (hd : o.data = .set es ep t) (hrows : es.toList = rwN w L) (hsz : t.place.size = es.size) (hdm : t.dummies = #[]) (hfl : es.size ≤ t.mask) (nd : (L.map Prod.snd).Nodup)
    (keys : ∀ p ∈ L, IsN s.heap p.2 p.1) (pl : t.plain = true) (ld : w.params.followText "set-order" = true ∨ t.led = true) (few : L.length ≤ 300) {wanted : Nat} (hw2 : SetTable.sizeAbove wanted ≤ 512)
    (lay : ∃ t' order, t.relaid (es.map Prod.fst) wanted = some (t', order) ∧ order.toList.Perm (List.range L.length) ∧ (TabOk t' (order.toList.map fun i => (es.map Prod.fst).getD i 0) ∨ (Tb t' L.length ∧ 76 < L.length)) ∧ t'.led = t.led ∧ t'.plain = t.plain ∧ L.length * 5 < t'.mask * 3)
    {Q : Unit → Shared → Prop} (hQ : ∀ h' L' es' ep' t', Heap.SameBut a s.heap h' → SetN w h' a L' es' ep' t' → L'.Perm L → Q () { s with heap := h' }) : wpAny (model P w) A (setRelay a wanted) Q E s := by
  obtain ⟨t', order, e, hp, T, el, ep', hroom⟩ := lay
  have hes : es.size = L.length := by
    have h := congrArg List.length hrows
    rwa [rwN_len] at h
  have hfits : t.fits es.size = true := by
    unfold SetTable.fits SetTable.fill
    rw [hdm, Bool.and_eq_true, beq_iff_eq, decide_eq_true_eq]
    exact ⟨hsz, by show t.place.size + 0 ≤ t.mask; omega⟩
  obtain ⟨L2, r1, r2, r3⟩ := order_N L es order hrows hp
  have hs2 : (order.filterMap (es[·]?)).size = es.size := by
    have h := congrArg List.length r1
    rw [rwN_len, r2.length_eq] at h
    rw [← hes] at h
    exact h
  rw [setRelay_eq]
  refine wpAny_bind (wpAny_setState_of ho hd hfits ?_)
  dsimp only
  refine wp_if_neg (by rw [sizeLine_eq]; omega) ?_
  try refine wpAny_bind (wpAny_pure ?_)
  rw [e]
  dsimp only
  refine wpAny_bind ?_
  refine wp_if_neg (by rw [hs2]; simp) ?_
  try refine wpAny_bind (wpAny_pure ?_)
  refine wpAny_pure ?_
  dsimp only
  refine wpAny_storeSet_of ho hd ?_ (by rw [hs2, hes, sizeLine_eq]; omega)
  have sb : Heap.SameBut a s.heap (s.heap.update a (Obj.putSet (order.filterMap (es[·]?)) t')) := Heap.SameBut.update ..
  refine hQ _ L2 _ (ep + 1) t' sb ⟨⟨_, store_at ho hd, ⟨hex.1, hex.2.1, hex.2.2⟩, rfl⟩, r1, ?_, (r2.map Prod.snd).nodup_iff.mpr nd, fun p hpm => (keys p (r2.mem_iff.mp hpm)).set_same ho hd sb, by rw [ep']; exact pl, by rw [el]; exact ld, by rw [r2.length_eq]; exact hroom, by rw [r2.length_eq]; exact few⟩ r2
  rw [r3, r2.length_eq]
  exact T
/-- ADDING -/
theorem add_N (R : SetN w s.heap a L es ep t) {x : Addr} {k : NestedKey} (hx : IsN s.heap k x) (hu : A.units + 8 < cLine) (hnew : k ∉ L.map Prod.snd ∨ L.length ≤ 76) (hfew : L.length + 1 ≤ 300) {Q : Bool → Shared → Prop}
    (hQ : ∀ b h' L' es' ep' t', Heap.SameBut a s.heap h' → SetN w h' a L' es' ep' t' → (k ∈ L.map Prod.snd → L' = L) → (k ∉ L.map Prod.snd → L'.Perm ((x, k) :: L)) → Q b { s with heap := h' }) :
    wpAny (model P w) A (setAddHashed a (.ref x) (k.hash w)) Q E s := by
  obtain ⟨o, ho, hex, hd⟩ := R.ob
  have hsl := R.num
  have hroom := R.room
  obtain ⟨ris, dm, psz, m511, _⟩ := R.basic
  unfold setAddHashed
  refine wpAny_holding ?_
  rw [show (100000 : Nat) = 99999 + 1 from rfl, setAddHashedIn_succ]
  refine wpAny_bind (wpAny_setState_of ho hd R.fits ?_)
  dsimp only
  refine wp_if_neg (by simp [byScan, Value.scannable]) ?_
  try refine wpAny_bind (wpAny_pure ?_)
  refine wpAny_bind (seek_at R hx hu hnew (fun hm => ?_) fun K hm hK hb => ?_)
  · dsimp only
    exact wpAny_pure (hQ false s.heap L es ep t (Heap.SameBut.refl a s.heap) R (fun _ => rfl) fun z => absurd hm z)
  · dsimp only
    refine wpAny_bind (wpAny_setState_of ho hd R.fits ?_)
    dsimp only
    generalize hj : way t.mask (k.hash w) K = j at hK ⊢
    have bc := (below_cut ris j).1
    have hpl : SetTable.below t.place j ≤ L.length := by rw [← psz]; exact bc
    have tab1 : TabOk (t.put j).1 ((L.take (SetTable.below t.place j) ++ (x, k) :: L.drop (SetTable.below t.place j)).map fun p => p.2.hash w) ∨ (Tb (t.put j).1 (L.length + 1) ∧ 76 < L.length + 1) := by
      rcases R.tab with T | ⟨T, h76⟩
      · refine .inl ?_
        have z := (T.put (h := k.hash w) (K := K) (by rw [hj]; exact hK) hb).2.2.1
        rw [hj] at z
        rw [List.map_append, List.map_cons, List.map_take, List.map_drop]
        exact z
      · exact .inr ⟨T.put hK, by omega⟩
    have q2 : (t.put j).2 = SetTable.below t.place j := rfl
    have q4 : (t.put j).1.mask = t.mask := rfl
    have q5 : (t.put j).1.led = t.led := rfl
    have q6 : (t.put j).1.plain = t.plain := rfl
    have q7 : (t.put j).1.dummies = #[] := put_dm dm j
    have q8 : (t.put j).1.place.size = L.length + 1 := by rw [← Array.length_toList, put_place, len_ins _ (by rw [Array.length_toList]; exact bc), Array.length_toList, psz]
    have q9 : (t.put j).1.fill = L.length + 1 := by
      show (t.put j).1.place.size + (t.put j).1.dummies.size = _
      rw [q8, q7]
      rfl
    have hp1 : (t.put j).1.plain = true := by rw [q6]; exact R.plain
    generalize hpt : t.put j = pt at q2 q4 q5 q7 q8 q9 hp1 tab1 ⊢
    obtain ⟨t1, pp⟩ := pt
    dsimp only at q2 q4 q5 q7 q8 q9 hp1 tab1 ⊢
    subst q2
    first
      | (refine wpAny_bind ?_; refine wp_if_pos hp1 ?_; refine byV_key k _ 8 _ _ _ hx.its hx.dep hx.ntx ?_)
      | refine wp_if_pos hp1 (wpAny_bind (byV_key k _ 8 _ _ _ hx.its hx.dep hx.ntx ?_))
    simp only [if_true]
    have hin : (SetTable.insertAt es (SetTable.below t.place j) (k.hash w, Value.ref x)).toList = rwN w (L.take (SetTable.below t.place j) ++ (x, k) :: L.drop (SetTable.below t.place j)) := by
      rw [SetTable.toList_insertAt, R.rows]
      unfold rwN
      rw [List.map_append, List.map_cons, List.map_take, List.map_drop]
    generalize SetTable.below t.place j = c at hin tab1 hpl ⊢
    have pm := put_perm L c (x, k)
    generalize SetTable.insertAt es c (k.hash w, Value.ref x) = es1 at hin ⊢
    generalize L.take c ++ (x, k) :: L.drop c = L1 at pm tab1 hin
    have hlen : L1.length = L.length + 1 := pm.length_eq
    have nd1 : (L1.map Prod.snd).Nodup := (pm.map Prod.snd).nodup_iff.mpr (List.nodup_cons.mpr ⟨hm, R.nd⟩)
    have hes : es1.size = L.length + 1 := by
      have h := congrArg List.length hin
      rw [rwN_len, hlen] at h
      exact h
    refine wpAny_bind (wpAny_storeSet_of ho hd ?_ (by rw [hes, sizeLine_eq]; omega))
    have sb : Heap.SameBut a s.heap (s.heap.update a (Obj.putSet es1 t1)) := Heap.SameBut.update ..
    have ho1 := store_at (es' := es1) (t' := t1) ho hd
    generalize s.heap.update a (Obj.putSet es1 t1) = h1 at sb ho1 ⊢
    have keys1 : ∀ p ∈ L1, IsN h1 p.2 p.1 := fun p hp => by
      rcases List.mem_cons.mp (pm.mem_iff.mp hp) with e | hp
      · rw [e]; exact hx.set_same ho hd sb
      · exact (R.keys p hp).set_same ho hd sb
    have ld1 : w.params.followText "set-order" = true ∨ t1.led = true := by rw [q5]; exact R.led
    by_cases hf : t1.tooFull = true
    · first
        | (refine wpAny_bind ?_; refine wp_if_pos (by simp [hf]) ?_)
        | (refine wp_if_pos (by simp [hf]) ?_; refine wpAny_bind ?_)
      have hfull : (L.length + 1) * 5 ≥ t1.mask * 3 := by
        have h := hf
        unfold SetTable.tooFull at h
        rw [decide_eq_true_eq, q9] at h
        exact h
      rw [hsl]
      have hesz : es1.size = L1.length := by rw [hes, hlen]
      have go : ∀ M, SetTable.sizeAbove (SetTable.grown (L.length + 1)) = M → M ≤ 512 → (∃ t' order, t1.relaid (es1.map Prod.fst) (SetTable.grown (L.length + 1)) = some (t', order) ∧ order.toList.Perm (List.range L1.length) ∧ (TabOk t' (order.toList.map fun i => (es1.map Prod.fst).getD i 0) ∨ (Tb t' L1.length ∧ 76 < L1.length)) ∧ t'.led = t1.led ∧ t'.plain = t1.plain ∧ L1.length * 5 < t'.mask * 3) →
          wpAny (model P w) A (setRelay a (SetTable.grown (L.length + 1))) (fun _ s' => wpAny (model P w) A (pure true) Q E s') E { s with heap := h1 } := fun M hM hM2 lay =>
        relay_N (s := { s with heap := h1 }) ho1 ⟨hex.1, hex.2.1, hex.2.2⟩ rfl hin (by rw [q8, hes]) q7 (by rw [hes, q4]; omega) nd1 keys1 hp1 ld1 (by rw [hlen]; exact hfew) (by rw [hM]; exact hM2) lay fun h2 L2 es2 ep2 t2 sb2 R2 pm2 => wpAny_pure (hQ true h2 L2 es2 ep2 t2 (sb.trans sb2) R2 (fun z => absurd z hm) fun _ => pm2.trans pm)
      have small : ∀ M, MaskOk M → SetTable.sizeAbove (SetTable.grown (L.length + 1)) - 1 = M → SetTable.sizeAbove (SetTable.grown (L.length + 1)) ≤ 512 → (L.length + 1) * 5 < M * 3 → wpAny (model P w) A (setRelay a (SetTable.grown (L.length + 1))) (fun _ s' => wpAny (model P w) A (pure true) Q E s') E { s with heap := h1 } := fun M hM hw hw2 hr => by
        obtain ⟨t', order, e, hp, T, em, el, ep', ed⟩ := relaid_ok t1 (hs := es1.map Prod.fst) (wanted := SetTable.grown (L.length + 1)) hw hM (by rw [Array.size_map, hes]; omega)
        rw [Array.size_map, hesz] at hp
        exact go _ rfl hw2 ⟨t', order, e, hp, .inl T, el, ep', by rw [em, hlen]; exact hr⟩
      rcases R.tab with T | ⟨T, h76⟩
      · rcases T.mok with e | e | e
        · have e2 : L.length = 4 := by rw [q4, e] at hfull; rw [e] at hroom; omega
          exact small 31 (.inr (.inl rfl)) (by rw [e2, size_20]) (by rw [e2, size_20]; decide) (by omega)
        · have e2 : L.length = 18 := by rw [q4, e] at hfull; rw [e] at hroom; omega
          exact small 127 (.inr (.inr rfl)) (by rw [e2, size_76]) (by rw [e2, size_76]; decide) (by omega)
        · have e2 : L.length = 76 := by rw [q4, e] at hfull; rw [e] at hroom; omega
          have hw : SetTable.sizeAbove (SetTable.grown (L.length + 1)) = 512 := by rw [e2, size_308]
          obtain ⟨t', order, e3, hp, T2, el, ep'⟩ := lay_511 t1 (hs := es1.map Prod.fst) (wanted := SetTable.grown (L.length + 1)) hw (by rw [Array.size_map, hes]; omega)
          rw [Array.size_map, hesz] at hp T2
          exact go _ hw (Nat.le_refl _) ⟨t', order, e3, hp, .inr ⟨T2, by omega⟩, el, ep', by rw [T2.msk, hlen]; omega⟩
      · exfalso
        rw [q4, T.msk] at hfull
        omega
    · first
        | refine wp_if_neg (by simp [hf]) ?_
        | (refine wpAny_bind ?_; refine wp_if_neg (by simp [hf]) ?_; refine wpAny_pure ?_)
      refine wpAny_pure (hQ true h1 L1 es1 (ep + 1) t1 sb ⟨⟨_, ho1, ⟨hex.1, hex.2.1, hex.2.2⟩, rfl⟩, hin, ?_, nd1, keys1, hp1, ld1, ?_, by rw [hlen]; exact hfew⟩ (fun z => absurd z hm) fun _ => pm)
      · rw [hlen]
        exact tab1
      · have h := hf
        unfold SetTable.tooFull at h
        rw [decide_eq_true_eq, q9] at h
        rw [hlen]
        omega
end
end K19

/-! TEXT K19S4 -/
set_option Elab.async false
set_option linter.all false
set_option maxRecDepth 100000
set_option maxHeartbeats 4000000
set_option autoImplicit false
/-! SETS OF NESTED TUPLES, 4: set(xs). -/
namespace K19
open PySem PySem.Spec PyProof.Rows L2
open Evl (Ex)
def newSet (w : World) : Obj := { cls := .type "set", dict := none, data := .set #[] 0 (.fresh 0 0 (!w.params.followText "set-order")) }
theorem newSet_N {w : World} {h : Heap} {a : Addr} (ho : h.get? a = some (newSet w)) : SetN w h a [] #[] 0 (.fresh 0 0 (!w.params.followText "set-order")) where
  ob := ⟨_, ho, ⟨rfl, rfl, rfl⟩, rfl⟩
  rows := rfl
  tab := .inl ⟨List.Pairwise.nil, rfl, rfl, .inl rfl, fun x hx => (by cases hx), fun i h j hi => (by simp at hi)⟩
  nd := List.nodup_nil
  keys := fun p hp => (by cases hp)
  plain := rfl
  led := by
    cases h : w.params.followText "set-order" with
    | true => exact .inl rfl
    | false => exact .inr rfl
  room := by
    show 0 * 5 < 7 * 3
    decide
  few := Nat.zero_le _
/-- what the set has of the first i items -/
structure GotN (ks : NL) (i : Nat) (L : NL) : Prop where
  sub : ∀ p ∈ L, p ∈ ks.take i
  all : ∀ p ∈ ks.take i, p.2 ∈ L.map Prod.snd
  len : L.length ≤ i
theorem GotN.next {ks L L' : NL} {i : Nat} {x : Addr × NestedKey} (g : GotN ks i L) (h : ks[i]? = some x) (c1 : x.2 ∈ L.map Prod.snd → L' = L) (c2 : x.2 ∉ L.map Prod.snd → L'.Perm (x :: L)) : GotN ks (i + 1) L' := by
  have e : ks.take (i + 1) = ks.take i ++ [x] := by rw [List.take_add_one, h]; rfl
  by_cases c : x.2 ∈ L.map Prod.snd
  · have := c1 c
    subst this
    refine ⟨fun p hp => by rw [e]; exact List.mem_append_left _ (g.sub p hp), fun p hp => ?_, Nat.le_succ_of_le g.len⟩
    rw [e] at hp
    rcases List.mem_append.mp hp with z | z
    · exact g.all p z
    · rw [List.mem_singleton.mp z]
      exact c
  · have pm := c2 c
    refine ⟨fun p hp => ?_, fun p hp => ?_, by rw [pm.length_eq]; exact Nat.succ_le_succ g.len⟩
    · rw [e]
      rcases List.mem_cons.mp (pm.mem_iff.mp hp) with z | z
      · rw [z]
        exact List.mem_append_right _ (List.mem_singleton.mpr rfl)
      · exact List.mem_append_left _ (g.sub p z)
    · rw [(pm.map Prod.snd).mem_iff, List.map_cons]
      rw [e] at hp
      rcases List.mem_append.mp hp with z | z
      · exact List.mem_cons_of_mem _ (g.all p z)
      · rw [List.mem_singleton.mp z]
        exact List.mem_cons_self
/-- items that are all unlike, or few -/
def Fine (ks : NL) : Prop := (ks.map Prod.snd).Nodup ∧ ks.length ≤ 200 ∨ ks.length ≤ 60
theorem Fine.len {ks : NL} (h : Fine ks) : ks.length ≤ 200 := by
  rcases h with h | h
  · exact h.2
  · omega
theorem Fine.new {ks L : NL} {i : Nat} {x : Addr × NestedKey} (h : Fine ks) (g : GotN ks i L) (hx : ks[i]? = some x) : x.2 ∉ L.map Prod.snd ∨ L.length ≤ 76 := by
  rcases h with ⟨h, _⟩ | h
  · refine .inl fun z => ?_
    obtain ⟨p, hp, e⟩ := List.mem_map.mp z
    obtain ⟨j, hj⟩ := List.getElem?_of_mem (g.sub p hp)
    rw [List.getElem?_take] at hj
    split at hj
    · rename_i hji
      have h1 : (ks.map Prod.snd)[j]? = some x.2 := by rw [List.getElem?_map, hj, ← e]; rfl
      have h2 : (ks.map Prod.snd)[i]? = some x.2 := by rw [List.getElem?_map, hx]; rfl
      have l2 := (List.getElem?_eq_some_iff.mp h2).1
      have := (List.getElem?_inj (by omega) h).mp (h1.trans h2.symm)
      omega
    · cases hj
  · refine .inr ?_
    have h1 := (List.getElem?_eq_some_iff.mp hx).1
    have := g.len
    omega
section
variable {P : Program} {w : World} {A : Around} {E : Value → Shared → Prop} {s : Shared}
theorem SetN.keep_ {h h' : Heap} {a : Addr} {L : NL} {es : Array (Int × Value)} {ep : Nat} {t : SetTable} (R : SetN w h a L es ep t) (ha : ∀ o, h.get? a = some o → h'.get? a = some o) (ht : ∀ p ∈ L, IsN h' p.2 p.1) : SetN w h' a L es ep t := by
  obtain ⟨o, ho, r⟩ := R.ob
  exact ⟨⟨o, ha o ho, r⟩, R.rows, R.tab, R.nd, ht, R.plain, R.led, R.room, R.few⟩
theorem IsN.keep_ {h h' : Heap} {k : NestedKey} {b : Addr} (x : IsN h k b) (hk : ∀ c o, h.get? c = some o → h'.get? c = some o) : IsN h' k b := x.at_ fun c o _ _ e _ => hk c o e
/-- set.update's loop -/
theorem update_N {I : Addr} {fp wr : List Addr} {G : Array GenState → Array GenState → Prop} {n : Nat} {Pv : Nat → Value → Prop} {St : Nat → Shared → Prop} {R : Result → Shared → Prop} (W : WalksS P w A.in1 I fp wr G n Pv St) (S : Addr) (hSf : S ∉ fp)
    (ks : NL) (hn : n = ks.length) (hF : Fine ks) (hval : ∀ i v, Pv i v → ∃ p, ks[i]? = some p ∧ v = .ref p.1) (h0 : Heap) (hk : ∀ p ∈ ks, IsN h0 p.2 p.1) (hS0 : h0.get? S = none) (hw0 : ∀ b ∈ wr, h0.get? b = none) (hu : A.in1.units + 8 < cLine) :
    ∀ (k i : Nat) (s : Shared), n - i = k → i ≤ n → St i s → (∀ b o, h0.get? b = some o → s.heap.get? b = some o) → (∃ L es ep t, SetN w s.heap S L es ep t ∧ GotN ks i L) →
      (∀ s' L es ep t, Moved (S :: wr) G s s' → SetN w s'.heap S L es ep t → GotN ks n L → (∀ b o, h0.get? b = some o → s'.heap.get? b = some o) → R (.ok (.ret .none)) s') →
      codeAny (model P w) A (.builtin "set.update.loop" ⟨[.ref S, .ref I], []⟩) R s := by
  have hSw : S ∉ wr := fun h => hSf (W.sub _ h)
  have up : ∀ b ∈ wr, b ∈ S :: wr := fun b hb => List.mem_cons_of_mem _ hb
  have mv : ∀ {s s' : Shared}, Moved wr G s s' → (∀ b o, h0.get? b = some o → s.heap.get? b = some o) → ∀ b o, h0.get? b = some o → s'.heap.get? b = some o := fun hm hp b o e => by
    refine hm.heap b o (fun hb => ?_) (hp b o e)
    rw [hw0 b hb] at e
    cases e
  have hlen := hF.len
  intro k
  induction k with
  | zero =>
    intro i s hk' hi hst hp ⟨L, es, ep, t, hS, g⟩ hR
    obtain rfl : i = n := by omega
    refine codeAny_builtin F.entry_set_update_loop ?_
    rw [Around.under_plainId F.plain_set_update_loop _]
    show wpAny _ A.in1 (pyNext (.ref I) >>= _) _ _ s
    refine wpAny_bind (W.done s _ _ hst fun s' hm => ?_)
    have hp' := mv hm hp
    exact wpAny_pure (hR s' L es ep t (hm.mono up) (hS.keep_ (fun o e => hm.heap S o hSw e) fun p hpL => (hk p (List.mem_of_mem_take (g.sub p hpL))).keep_ hp') g hp')
  | succ k ih =>
    intro i s hk' hi hst hp ⟨L, es, ep, t, hS, g⟩ hR
    have hlt : i < n := by omega
    refine codeAny_builtin F.entry_set_update_loop ?_
    rw [Around.under_plainId F.plain_set_update_loop _]
    show wpAny _ A.in1 (pyNext (.ref I) >>= _) _ _ s
    refine wpAny_bind (W.item i s _ _ hlt hst fun v s' hP hst' hm => ?_)
    obtain ⟨p, hpi, rfl⟩ := hval i v hP
    have hp' := mv hm hp
    have hS' : SetN w s'.heap S L es ep t := hS.keep_ (fun o e => hm.heap S o hSw e) fun q hq => (hk q (List.mem_of_mem_take (g.sub q hq))).keep_ hp'
    have hx : IsN s'.heap p.2 p.1 := (hk p (List.mem_of_getElem? hpi)).keep_ hp'
    show wpAny _ A.in1 (holding [Value.ref p.1] (setAdd S (.ref p.1)) >>= _) _ _ s'
    refine wpAny_bind (wpAny_holding ?_)
    unfold setAdd
    refine wpAny_holding ?_
    refine wpAny_bind (pyHash_key p.2 _ A.in1 s' _ hx.its (by have := hx.dep; omega) ?_)
    refine add_N (s := { s' with toks := s'.toks + p.2.draws }) hS' hx hu (hF.new g hpi) (by have := g.len; omega) fun b h' L' es' ep' t' hsb hS2 c1 c2 => ?_
    have hp2 : ∀ b o, h0.get? b = some o → h'.get? b = some o := fun b o e => (hsb.2 b fun z => by rw [z, hS0] at e; cases e).trans (hp' b o e)
    refine wpAny_pure ⟨plainId_quiet F.plain_set_update_loop _, ih (i + 1) _ (by omega) hlt (W.frame _ s' _ _ hst' (Nat.le_add_right _ _) fun b hb o e => ?_) hp2 ⟨L', es', ep', t', hS2, g.next hpi c1 c2⟩ fun s2 L2 es2 ep2 t2 hm2 hS3 g2 hp3 => ?_⟩
    · refine (hsb.2 b fun z => ?_).trans e
      subst z
      exact hSf hb
    · refine hR s2 L2 es2 ep2 t2 (Moved.trans W.gtrans ((hm.mono up).then_heap (Nat.le_add_right _ _) fun b o hb e => ?_) hm2) hS3 g2 hp3
      refine (hsb.2 b fun z => ?_).trans e
      subst z
      exact hb List.mem_cons_self
/-- set(xs) -/
theorem call_set_N {l : Addr} {items : Array Value} (ks : NL) {Q : Value → Shared → Prop} (hh : A.handled = none) (hl : s.heap.IsList l items) (hit : items.toList = ks.map fun p => Value.ref p.1) (hk : ∀ p ∈ ks, IsN s.heap p.2 p.1) (hF : Fine ks) (hu : A.units + 20 < cLine)
    (h : ∀ (h' : Heap) (tk : Nat) L es ep t, SetN w h' s.heap.objs.size L es ep t → GotN ks ks.length L → (∀ b o, s.heap.get? b = some o → h'.get? b = some o) → Q (.ref s.heap.objs.size) { s with heap := h', toks := tk }) :
    wpAny (model P w) A (call (.type "set") [.ref l]) Q E s := by
  have hisz : items.size = ks.length := by
    have q := congrArg List.length hit
    rwa [Array.length_toList, List.length_map] at q
  obtain ⟨c, tl, hmro⟩ := F.called_set.mro
  have hmade := F.called_set.made
  have hsub := F.called_set.sub
  refine wpAny_call (codeAny_of_tree ?_)
  show wpAny _ _ (callAny (.type "set") _) _ _ _
  refine wpAny_pure ⟨Code.quiet_builtin _ (by decide +kernel), codeAny_builtin F.entry_type_call ?_⟩
  rw [Around.under_plain (weight_type_call_type "set" [.ref l] []) rfl]
  have h1 := F.called_set.notType
  have h2 := F.called_set.canCreate
  have hct := F.typeCall_set_1 (.ref l)
  repeat (any_goals (first | assumption | wp_step))
  refine codeAny_mono (code_set_led1 (.ref l) (E := E) (Q₁ := fun obj s₁ => obj = .ref s.heap.objs.size ∧ s₁ = { s with heap := s.heap.push (newSet w) }) ⟨rfl, rfl⟩) fun r s₁ hr => ?_
  cases r with
  | error e => exact hr
  | ok fl =>
    cases fl with
    | ret obj =>
      obtain ⟨rfl, rfl⟩ := hr
      have hS : (s.heap.push (newSet w)).get? s.heap.objs.size = some (newSet w) := Heap.get?_push_size _ rfl
      have hT : Shared.TypeIs { s with heap := s.heap.push (newSet w) } (.ref s.heap.objs.size) "set" := ⟨_, hS, rfl⟩
      have hli := F.called_set.init.lookup
      have hbi := F.called_set.init.bind (.ref s.heap.objs.size)
      repeat (any_goals (first | assumption | wp_step))
      refine codeAny_mono (codeAny_call_builtin (R := wants (fun r s₂ => r = .none ∧ ∃ h' tk L es ep t, s₂ = { s with heap := h', toks := tk } ∧ SetN w h' s.heap.objs.size L es ep t ∧ GotN ks ks.length L ∧ (∀ b o, s.heap.get? b = some o → h'.get? b = some o)) E) F.called_set.init.plain F.entry_set_init (check_set_init_1 hT ?_)) fun r₂ s₂ hr₂ => ?_
      · obtain ⟨⟨ocls, odict, odata, oslots⟩, hol, hcl, nl, hdl⟩ := hl
        simp only at hcl hdl
        subst hcl hdl
        have hol' : (s.heap.push (newSet w)).get? l = some { cls := .type "list", dict := odict, data := .seq items nl, slots := oslots } := Heap.get?_push_of_some _ hol
        have hsls := F.sub_list_set
        have hslf := F.sub_list_frozenset
        have hne : (Value.type "list" == Value.type "dict") = false := by decide
        have hl1 : (s.heap.push (newSet w)).IsList l items := ⟨_, hol', rfl, nl, rfl⟩
        unfold Builtin.«set.__init__» noKeywords Builtin.Frozenset.updateFrom
        generalize hPI : pyIter = PI
        wp_walk
        subst hPI
        refine wpAny_pyIter_list hl1 ?_
        refine wpAny_bind (wpAny_runValue ?_)
        have hlS : l < s.heap.objs.size := Heap.lt_size hol
        have hz1 : (s.heap.push (newSet w)).objs.size = s.heap.objs.size + 1 := Heap.size_push ..
        have hneI : l ≠ (s.heap.push (newSet w)).objs.size := by
          rw [hz1]
          exact Nat.ne_of_lt (Nat.lt_succ_of_lt hlS)
        have free : ∀ b, s.heap.objs.size ≤ b → s.heap.get? b = none := fun b hb => by
          cases q : s.heap.get? b with
          | none => rfl
          | some o => exact absurd (Heap.lt_size q) (Nat.not_lt.mpr hb)
        refine update_N ((Walks.list (by simp [hh] : A.in1.in1.in1.handled = none) _ l hneI items).toS) s.heap.objs.size ?f1 ks hisz hF (fun i v hv => ?f2) s.heap hk (free _ (Nat.le_refl _)) (fun b hb => free b ?f3) (by show A.units + 1 + 1 + 1 + 8 < cLine; omega) (items.size - 0) 0 _ (by omega) (Nat.zero_le _)
          ⟨⟨_, Heap.get?_push_size _ rfl, rfl, rfl⟩, hl1.push _⟩ (fun b o e => Heap.get?_push_of_some _ (Heap.get?_push_of_some _ e)) ?f4 ?f5
        case f1 =>
          rw [hz1]
          intro z
          rcases List.mem_cons.mp z with z | z
          · exact Nat.ne_of_lt (Nat.lt_succ_self _) z
          · exact Nat.ne_of_gt hlS (List.mem_singleton.mp z)
        case f2 =>
          have q : items.toList[i]? = some v := by rw [Array.getElem?_toList]; exact hv
          rw [hit, List.getElem?_map] at q
          obtain ⟨p, hp, e⟩ := Option.map_eq_some_iff.mp q
          exact ⟨p, hp, e.symm⟩
        case f3 =>
          rw [List.mem_singleton.mp hb, hz1]
          exact Nat.le_succ _
        case f4 => exact ⟨[], #[], 0, _, newSet_N (Heap.get?_push_of_some _ hS), fun p hp => (by cases hp), fun p hp => (by simp at hp), Nat.le_refl _⟩
        case f5 =>
          intro s' L es ep t hm hS' g' hkp
          obtain ⟨h', g2, d', tk', os'⟩ := s'
          obtain rfl : g2 = s.gens := hm.gens
          obtain rfl : d' = s.drawn := hm.drawn
          obtain rfl : os' = s.os := hm.os
          show wpAny _ _ _ _ _ _
          refine wpAny_pure ?_
          rw [hisz] at g'
          exact wpAny_pure ⟨rfl, h', tk', L, es, ep, t, rfl, hS', g', hkp⟩
      · cases r₂ with
        | error e => exact hr₂
        | ok fl₂ =>
          cases fl₂ with
          | ret r =>
            obtain ⟨rfl, h', tk, L, es, ep, t, rfl, hS', g', hk'⟩ := hr₂
            repeat (any_goals (first | assumption | wp_step))
            exact h _ _ _ _ _ _ hS' g' hk'
          | _ => exact hr₂.elim
    | _ => exact hr.elim
end
end K19

/-! TEXT K19R3 -/
set_option Elab.async false
set_option linter.all false
set_option maxRecDepth 100000
set_option maxHeartbeats 2000000
set_option autoImplicit false
/-! FURTHER RULES, 3: a comprehension of two for; two names at once. -/
namespace K19
open PySem PySem.Spec PyProof.Rows L2
open Evl (Ex)
section
variable {K : PySem.W.Frag} {ρ ρ' : Ro} {xs ys : List PyData} {te : TE} {d : PyData}
theorem Sl.nown {σ : L2.St} {D D' H0 H H0' H' : Hp} (h : Sl K σ D H0 H ρ) (n : ∀ (i : Nat) (p : Addr) (o : OD), ρ[i]? ≠ some (Sd.own p o)) (e : Ex D D') : Sl K σ D' H0' H' ρ :=
  ⟨h.len, fun i d q => let ⟨v, a, b⟩ := h.at_ i d q; ⟨v, a, dpX e b⟩, fun i p o q => absurd q (n i p o), fun i j a b p hij ha hb ma => by
    cases a with
    | own p2 o => exact absurd ha (n i p2 o)
    | _ => cases ma⟩
/-- a comprehension's list on its way: the heaps ahead of it D1 H1, its list at L -/
def LcSt (K : PySem.W.Frag) (D1 H1 : Hp) (L : Addr) (ds : List PyData) (D2 H2 : Hp) : Prop :=
  ∃ acc, Stp D1 H1 D2 H2 ∧ D2 L = none ∧ H2 L = some (.lst acc) ∧ DpAll K D2 acc ds
theorem LcSt.step {D1 H1 D2 H2 D3 H3 : Hp} {L : Addr} {ds : List PyData} (h : LcSt K D1 H1 L ds D2 H2) (t : Stp D2 H2 D3 H3) : LcSt K D1 H1 L ds D3 H3 := by
  obtain ⟨acc, s, n, l, a⟩ := h
  exact ⟨acc, s.tr t, t.n L _ l (fun _ z => nomatch z) n, t.h L _ l, dpA t.d a⟩
theorem LcSt.add {D1 H1 D2 H2 : Hp} {L : Addr} {ds : List PyData} {v : V} (h : LcSt K D1 H1 L ds D2 H2) (hL : H1 L = none) (p : Dp K D2 v d) : ∃ acc, H2 L = some (.lst acc) ∧ acc.length = ds.length ∧ LcSt K D1 H1 L (ds ++ [d]) D2 (upd H2 L (.lst (acc ++ [v]))) := by
  obtain ⟨acc, s, n, l, a⟩ := h
  refine ⟨acc, l, dpA_len a, acc ++ [v], ⟨s.d, s.h.mut hL, s.s.mut n, s.n⟩, n, upd_same, dpA_app a (.cons p .nil)⟩
theorem flat_take {α β : Type} {f : α → List β} {l : List α} {i : Nat} {x : α} (h : l[i]? = some x) : (l.take (i + 1)).flatMap f = (l.take i).flatMap f ++ f x := by
  rw [List.take_add_one, h, List.flatMap_append]
  simp
theorem ed_lc2 {wi wi1 : TI} {g g1 : TG} {tt1 : TT} {vs vs1 : List Nat} (ysf : PyData → List PyData) (p : PyData → PyData → Bool) (f : PyData → PyData → PyData) (hw : EdI K wi ρ xs) (hl : ∀ i, ((xs.take i).flatMap fun x => keep (p x) (f x) (ysf x)).length ≤ 50000) (hl2 : ∀ x ∈ xs, (ysf x).length ≤ 40000)
    (hs : ∀ (i : Nat) (x : PyData), xs[i]? = some x → ∃ ρ1 is, Bd K g x (wipeR ρ vs) ρ1 is ∧ (∀ j ∈ is, j ∈ vs) ∧ (∀ (i : Nat) (p : Addr) (o : OD), ρ1[i]? ≠ some (Sd.own p o)) ∧ EdI K wi1 ρ1 (ysf x) ∧
      ∀ (j : Nat) (y : PyData), (ysf x)[j]? = some y → ∃ ρ2 is2, Bd K g1 y (wipeR ρ1 vs1) ρ2 is2 ∧ (∀ k ∈ is2, k ∈ vs1) ∧ (∀ (i : Nat) (p : Addr) (o : OD), ρ2[i]? ≠ some (Sd.own p o)) ∧ EdT K tt1 ρ2 (p x y) ∧ (p x y = true → Ed K te ρ2 (f x y))) : Ed K (tLc2 wi g tYes wi1 g1 tt1 te vs vs1) ρ (.list (xs.flatMap fun x => keep (p x) (f x) (ysf x))) := fun σ D H0 H s sl Q q =>
  hw σ D H0 H s sl _ fun J D1 H1 t1 wk L hL => by
    have hLD : D1 L = none := Evl.fresh_back t1.s hL
    refine ⟨fun i m H2 => m = xs.length - i ∧ i ≤ xs.length ∧ ∃ D2, LcSt K D1 H1 L ((xs.take i).flatMap fun x => keep (p x) (f x) (ysf x)) D2 H2, ⟨_, rfl, Nat.zero_le _, D1, [], Stp.tmp t1.s hL, hLD, upd_same, .nil⟩, ?_⟩
    rintro i m H2 ⟨rfl, hi, D2, st⟩
    obtain ⟨acc, st1, st2, st3, st4⟩ := id st
    obtain ⟨w1, w2⟩ := wk D2 H2 st1.d st1.s
    by_cases hlt : i < xs.length
    · have hx := List.getElem?_eq_getElem hlt
      obtain ⟨w3, w4⟩ := w1 i _ hx
      refine .inr ⟨w3, fun H3 => ∃ D3, LcSt K D1 H1 L ((xs.take (i + 1)).flatMap fun x => keep (p x) (f x) (ysf x)) D3 H3, fun H3 h3 => ⟨_, by omega, rfl, hlt, h3⟩, fun v H3 hy => ?_⟩
      obtain ⟨D3, t3, pv⟩ := w4 v H3 hy
      obtain ⟨ρ1, is, b1, b2, bn, b3, b4⟩ := hs i _ hx
      have st' := st.step t3
      obtain ⟨acc', u1, u2, u3, u4⟩ := id st'
      refine b1 v _ D3 H0 H3 t3.s ((sl.mono (t1.tr u1)).wipe vs) pv _ fun σ' s1 s2 s3 => ⟨?_, ?_⟩
      · have z : L2.wipe σ' vs = L2.wipe (L2.wipe σ vs) vs := wipe_in s2 fun j hj => s3 j fun hj2 => hj (b2 j hj2)
        rw [z]
        exact wipe_in (wipe_length σ vs) fun j hj => wipe_out hj
      · show wi1 σ' H3 _
        refine b3 σ' D3 H0 H3 t3.s s1 _ fun J1 D4 H4 t4 wk1 => ?_
        refine ⟨fun j m H5 => m = (ysf xs[i]).length - j ∧ j ≤ (ysf xs[i]).length ∧ ∃ D5, Ex D4 D5 ∧ LcSt K D1 H1 L ((xs.take i).flatMap (fun x => keep (p x) (f x) (ysf x)) ++ keep (p xs[i]) (f xs[i]) ((ysf xs[i]).take j)) D5 H5, ⟨_, rfl, Nat.zero_le _, D4, Ex.refl D4, ?_⟩, ?_⟩
        · have := st'.step t4
          rw [List.take_zero]
          show LcSt K D1 H1 L (_ ++ []) D4 H4
          rw [List.append_nil]
          exact this
        · rintro j m H5 ⟨rfl, hj, D5, e5, st5⟩
          obtain ⟨acc5, v1, v2, v3, v4⟩ := id st5
          obtain ⟨x1, x2⟩ := wk1 D5 H5 e5 v1.s
          by_cases hjt : j < (ysf xs[i]).length
          · have hy2 := List.getElem?_eq_getElem hjt
            obtain ⟨x3, x4⟩ := x1 j _ hy2
            refine .inr ⟨x3, fun H6 => ∃ D6, Ex D4 D6 ∧ LcSt K D1 H1 L ((xs.take i).flatMap (fun x => keep (p x) (f x) (ysf x)) ++ keep (p xs[i]) (f xs[i]) ((ysf xs[i]).take (j + 1))) D6 H6, fun H6 h6 => ⟨_, by omega, rfl, hjt, h6⟩, fun u H6 hu => ?_⟩
            obtain ⟨D6, t6, pu⟩ := x4 u H6 hu
            obtain ⟨ρ2, is2, c1, c2, cn, c3, c4⟩ := b4 j _ hy2
            have st6 := st5.step t6
            have e36 : Ex D3 D6 := t4.d.trans (e5.trans t6.d)
            refine c1 u _ D6 H0 H6 t6.s ((s1.nown bn e36).wipe vs1) pu _ fun σ3 r1 r2 r3 => ⟨?_, ?_⟩
            · have z : L2.wipe σ3 vs1 = L2.wipe (L2.wipe σ' vs1) vs1 := wipe_in r2 fun k hk => r3 k fun hk2 => hk (c2 k hk2)
              rw [z]
              exact wipe_in (wipe_length σ' vs1) fun k hk => wipe_out hk
            · refine c3 σ3 D6 H0 H6 t6.s r1 _ fun D7 H7 t7 => ?_
              have st7 := st6.step t7
              cases hp : p xs[i] (ysf xs[i])[j] with
              | false =>
                rw [if_neg Bool.false_ne_true]
                refine ⟨D7, (e5.trans t6.d).trans t7.d, ?_⟩
                rw [keep_take hy2, if_neg (by rw [hp]; exact Bool.false_ne_true)]
                exact st7
              | true =>
                rw [if_pos rfl]
                refine c4 hp σ3 D7 H0 H7 t7.s (r1.mono t7) _ fun y D8 H8 t8 p8 => ?_
                have st8 := st7.step t8
                obtain ⟨acc8, a1, a2, a3⟩ := st8.add hL p8
                refine ⟨acc8, a1, ?_, D8, ((e5.trans t6.d).trans t7.d).trans t8.d, ?_⟩
                · rw [a2, List.length_append]
                  have h1 := hl i
                  have h2 := keep_len (p xs[i]) (f xs[i]) ((ysf xs[i]).take j)
                  rw [List.length_take] at h2
                  have h3 := hl2 _ (List.getElem_mem hlt)
                  exact Nat.lt_of_lt_of_le (show _ < 100000 by omega) (by decide)
                · rw [keep_take hy2, if_pos hp, ← List.append_assoc]
                  exact a3
          · have ej : j = (ysf xs[i]).length := by omega
            subst ej
            refine .inl ⟨x2, D5, ?_⟩
            rw [flat_take hx]
            rw [List.take_length] at st5
            exact st5
    · have ei : i = xs.length := by omega
      subst ei
      refine .inl ⟨w2, ?_⟩
      rw [List.take_length] at st4
      have hL2 := st3
      refine q (.ref L) (upd D2 L (.lst acc)) H2 (t1.tr ⟨st1.d.trans (Ex.new st2), st1.h, fun a u h => ?_, fun a u h1 h2 h3 => ?_⟩) (.lst (SqL.of upd_same) (dpA (Ex.new st2) st4))
      · by_cases z : a = L
        · subst z
          rw [upd_same] at h
          rw [st3]
          exact h
        · rw [upd_ne z] at h
          exact st1.s a u h
      · by_cases z : a = L
        · subst z
          rw [hL] at h1
          cases h1
        · rw [upd_ne z]
          exact st1.n a u h1 h2 h3
/-! ### two names at once -/
theorem run_parN {i j : Nat} {ta tb : TE} {t2 : TS} {r : Rs} (h : EdN K ta ρ xs) (h2 : Ed K tb ρ d) (hij : i ≠ j) (hn : ∀ p, Run K t2 ((ρ.set i (.own p (.lst xs))).set j (.dat d)) r) : Run K (tSeq (tPar i j (tCons ta (tCons tb tNil))) t2) ρ r := fun σ H0 D H E t sl q =>
  h σ D H0 H t.s sl _ fun p vs D1 H1 t1 hp p1 => by
    have u := t.go t1
    have t2 := t1.tr (Stp.tmp (o := .lst vs) t1.s hp)
    refine h2 σ D1 H0 _ t2.s (sl.mono t2) _ fun v D2 H2 t3 p3 => ⟨.ref p, v, rfl, ?_⟩
    have t4 : Stp D1 H0 D1 (upd H1 p (.lst vs)) := ⟨Ex.refl D1, u.h.trans (Ex.new hp), u.s.trans (Ex.new hp), fun _ _ _ _ h => h⟩
    have s1 := ((sl.mono t1).new i u.h u.s hp (.lst p1)).mono t3
    exact hn p _ H0 D2 H2 E (t4.go t3) (s1.set j p3) (q.of ((t.up t1).tr0 (t4.up t3)))
theorem run_parNN {i j : Nat} {ta tb : TE} {t2 : TS} {r : Rs} (h : EdN K ta ρ xs) (h2 : EdN K tb ρ ys) (hn : ∀ p p2, Run K t2 ((ρ.set i (.own p (.lst xs))).set j (.own p2 (.lst ys))) r) : Run K (tSeq (tPar i j (tCons ta (tCons tb tNil))) t2) ρ r := fun σ H0 D H E t sl q =>
  h σ D H0 H t.s sl _ fun p vs D1 H1 t1 hp p1 => by
    have u := t.go t1
    have t2 := t1.tr (Stp.tmp (o := .lst vs) t1.s hp)
    refine h2 σ D1 H0 _ t2.s (sl.mono t2) _ fun p2 ws D2 H2 t3 hp2 p3 => ⟨.ref p, .ref p2, rfl, ?_⟩
    have t4 : Stp D1 H0 D1 (upd H1 p (.lst vs)) := ⟨Ex.refl D1, u.h.trans (Ex.new hp), u.s.trans (Ex.new hp), fun _ _ _ _ h => h⟩
    have s1 := ((sl.mono t1).new i u.h u.s hp (.lst p1)).mono t3
    have t5 := t4.go t3
    exact hn p p2 _ H0 D2 _ E ⟨Ex.refl D2, t5.h.trans (Ex.new hp2), t5.s.trans (Ex.new hp2), fun _ _ _ _ h => h⟩ (s1.new j t5.h t5.s hp2 (.lst p3)) (q.of ((t.up t1).tr0 (t4.up t3)))
end
end K19

/-! TEXT K19W6 -/
set_option Elab.async false
set_option linter.all false
set_option maxRecDepth 100000
set_option maxHeartbeats 4000000
set_option autoImplicit false
/-! The walks, 6: the order of the steps. -/
namespace K19
open PySem PySem.Spec PyProof.Rows L2
open Evl (Ex)
abbrev dsD (ds : List Nat) : PyData := .tuple (ds.map fun n : Nat => .int n)
inductive R_many_straight : List PyData → PyData → Prop
  | mk (q : Nat) [Fld q] : R_many_straight [.int q] (.int (msN q : Nat))
inductive R_many_bends : List PyData → PyData → Prop
  | mk (q : Nat) [Fld q] (d : Nat) (h1 : 2 ≤ d) (h2 : d ≤ 6) : R_many_bends [.int q, .int d] (.int (mbN q d : Nat))
inductive R_many_steps : List PyData → PyData → Prop
  | mk (q : Nat) [Fld q] (ds : List Nat) (h : ∀ d ∈ ds, 2 ≤ d ∧ d ≤ 6) (hl : ds.length ≤ 1000) : R_many_steps [.int q, dsD ds] (.int (mstN q ds : Nat))
inductive R_many_with : List PyData → PyData → Prop
  | mk (q : Nat) [Fld q] (ds : List Nat) (h : ∀ d ∈ ds, 2 ≤ d ∧ d ≤ 6) (hl : ds.length ≤ 1000) (u : PyData) : R_many_with [.int q, dsD ds, u] (.int (mstN q ds / (q - 1) : Nat))
def prD {q : Nat} [Fld q] (x : F q × F q) : PyData := .tuple [nD x.1, nD x.2]
inductive R_seconds : List PyData → PyData → Prop
  | mk (q : Nat) [Fld q] (a b : F q) : R_seconds [.int q, nD a, nD b] (.list ((secs a b).map prD))
inductive R_map_at : List PyData → PyData → Prop
  | mk (q : Nat) [Fld q] (n : Nat) (h : n < msN q) : R_map_at [.int q, .int n] (mD (mapAt n : SM q))
inductive R_bend_at : List PyData → PyData → Prop
  | mk (q : Nat) [Fld q] (d n : Nat) (h1 : 2 ≤ d) (h2 : d ≤ 6) : R_bend_at [.int q, .int d, .int n] (tD (bendAt d n : List (F q)))
inductive R_step_at : List PyData → PyData → Prop
  | mk (q : Nat) [Fld q] (ds : List Nat) (n : Nat) (h : ∀ d ∈ ds, 2 ≤ d ∧ d ≤ 6) (hl : ds.length ≤ 1000) (hn : n < mstN q ds) : R_step_at [.int q, dsD ds, .int n] (sD (stepAt ds n : ST q))
theorem cdivN {a : Int} {n : Nat} (h : 0 < n) (h' : n < 1000000000) : CDiv a (n : Int) := ⟨by omega, by omega⟩
theorem nat_mul {a b : Nat} : ((a : Nat) : Int) * (b : Int) = ((a * b : Nat) : Int) := (Int.natCast_mul a b).symm
theorem nat_add {a b : Nat} : ((a : Nat) : Int) + (b : Int) = ((a + b : Nat) : Int) := (Int.natCast_add a b).symm
section
variable {q : Nat} [Fld q]
theorem qm1 : (q : Int) - 1 = ((q - 1 : Nat) : Int) := by
  have := q_bd (q := q)
  omega
theorem qq_sub : ((q * q : Nat) : Int) - (q : Int) = ((q * q - q : Nat) : Int) := by
  have := q_bd (q := q)
  have h : q * 1 ≤ q * q := Nat.mul_le_mul_left q (by omega)
  omega
theorem qq_le : q * q ≤ 256 := Nat.mul_le_mul (q_bd (q := q)).2.1 (q_bd (q := q)).2.1
theorem msN_le : msN q ≤ 255 * 256 * 16 * 16 := by
  have h := q_bd (q := q)
  have h2 := qq_le (q := q)
  unfold msN
  exact Nat.mul_le_mul (Nat.mul_le_mul (Nat.mul_le_mul (by omega) (by omega)) h.2.1) h.2.1
theorem mbN_le {d : Nat} (h2 : d ≤ 6) : mbN q d ≤ 15 * 16 ^ 4 := by
  have h := q_bd (q := q)
  unfold mbN
  exact Nat.mul_le_mul (by omega) (Nat.le_trans (Nat.pow_le_pow_left h.2.1 _) (Nat.pow_le_pow_right (by decide) (by omega)))
theorem mbN_pos {d : Nat} : 0 < mbN q d := by
  have h := q_bd (q := q)
  unfold mbN
  exact Nat.mul_pos (by omega) (Nat.pow_pos (by omega))
theorem dg_div {n m : Nat} : PyData.int ((n : Int) % (q : Int)) = nD (dg n : F q) := by
  show _ = PyData.int ((n % q : Nat) : Int)
  rw [Int.natCast_emod]
end
theorem fl_dsD {ds : List Nat} {n : Nat} : Fl (n + 1) (dsD ds) := fl_tup fun d hd => by
  obtain ⟨a, _, rfl⟩ := List.mem_map.mp hd
  exact fl_int
theorem bsN_rev (q : Nat) (ds : List Nat) : bsN q ds.reverse = bsN q ds := by
  induction ds with
  | nil => rfl
  | cons d ds ih =>
    rw [List.reverse_cons, bsN_app, ih, Nat.mul_comm]
    rfl
theorem bendsAt_snoc {q : Nat} [Fld q] (d : Nat) : ∀ (r : List Nat) (l : Nat), (bendsAt l (r ++ [d]) : List (List (F q)) × Nat) = ((bendsAt l r : List (List (F q)) × Nat).1 ++ [bendAt d ((bendsAt l r : List (List (F q)) × Nat).2 % mbN q d)], (bendsAt l r : List (List (F q)) × Nat).2 / mbN q d)
  | [], l => rfl
  | x :: r, l => by
    show (bendAt x (l % mbN q x) :: (bendsAt (l / mbN q x) (r ++ [d]) : List (List (F q)) × Nat).1, (bendsAt (l / mbN q x) (r ++ [d]) : List (List (F q)) × Nat).2) = _
    rw [bendsAt_snoc d r (l / mbN q x)]
    rfl
theorem cmulB {a : Int} {n : Nat} (h : n < 1000000000) : CMul a (n : Int) := cmulR (Int.lt_of_lt_of_le (by decide : (-(2 ^ 64) : Int) < 0) (by omega)) (Int.lt_of_lt_of_le (show (n : Int) < 1000000000 by omega) (by decide))
section
variable {P : Program} {w : World} {K : PySem.W.Frag} {mg : Str → Option Value} {base : Heap}
abbrev N_many_straight : List Str := ["q"]
theorem sc_many_straight : FnScope N_many_straight ["q"] (defScope s_many_straight) := ⟨rfl, rfl, rfl, by decide +kernel, rfl, by decide +kernel, by decide +kernel⟩
theorem ok_many_straight (T : Top K mg) : Has P w K mg base 1 "many_straight" ["q"] (spR K R_many_straight) := by
  obtain ⟨f, fd, g, Fd⟩ := T.def_ 51 d_many_straight rfl
  have nd := sc_many_straight.nd
  refine has_of g Fd sc_many_straight (fun _ _ _ _ _ _ us hl => match us, hl with | [_], _ => rfl) (fun _ _ h => by cases h <;> rfl) fun cdv A outer s H E hr ds d h => ?_
  refine ⟨_, (pss_one (ps_ret (pe_op op_mul (pe_op op_mul (pe_op op_mul (pe_op op_sub (pe_op op_mul (pv 0) (pv 0)) pe_int) (pe_op op_sub (pe_op op_mul (pv 0) (pv 0)) (pv 0))) (pv 0)) (pv 0)))), ?_⟩
  cases h with
  | mk q =>
  have hq := q_bd (q := q)
  have hqq := qq_le (q := q)
  refine run_last (run_ret (ed_to (ed_op (ed_op (ed_op (ed_op (ed_op (ed_var rfl) (ed_var rfl) (rd_I (cmulB (by omega)) fun _ => .int _)) ed_int (rd_I0 fun _ => .int _)) (ed_to (x := .int ((q * q - q : Nat) : Int)) (ed_op (ed_op (ed_var rfl) (ed_var rfl) (rd_I (cmulB (by omega)) fun _ => .int _)) (ed_var rfl) (rd_I0 fun _ => .int _)) (by rw [nat_mul, qq_sub])) (rd_I (cmulB (by omega)) fun _ => .int _)) (ed_var rfl) (rd_I (cmulB (by omega)) fun _ => .int _)) (ed_var rfl) (rd_I (cmulB (by omega)) fun _ => .int _)) ?_))
  have e : ((q : Int) * (q : Int)) - 1 = ((q * q - 1 : Nat) : Int) := by
    rw [nat_mul]
    have h : 1 * 1 ≤ q * q := Nat.mul_le_mul (by omega) (by omega)
    omega
  rw [e, nat_mul, nat_mul, nat_mul]
  rfl
abbrev N_many_bends : List Str := ["q", "degree", "found", "_"]
theorem sc_many_bends : FnScope N_many_bends ["q", "degree"] (defScope s_many_bends) := ⟨rfl, rfl, rfl, by decide +kernel, rfl, by decide +kernel, by decide +kernel⟩
theorem ok_many_bends (T : Top K mg) : Has P w K mg base 1 "many_bends" ["q", "degree"] (spR K R_many_bends) := by
  obtain ⟨f, fd, g, Fd⟩ := T.def_ 52 d_many_bends rfl
  have nd := sc_many_bends.nd
  refine has_of g Fd sc_many_bends (fun _ _ _ _ _ _ us hl => match us, hl with | [_, _], _ => rfl) (fun _ _ h => by cases h <;> rfl) fun cdv A outer s H E hr ds d h => ?_
  refine ⟨_, (pss_cons (ps_set (i := 2) nd rfl (Or.inl rfl) (pe_op op_sub (pv 0) pe_int)) (pss_cons (ps_for PassesOwn.never rfl (pi_range1 rfl (T.free 9 _ rfl) (pa_cons (pe_op op_sub (pv 1) pe_int) pa_nil)) (pg_name (i := 3) nd rfl (Or.inl rfl)) (pss_one (ps_set (i := 2) nd rfl (Or.inl rfl) (pe_op op_mul (pv 2) (pv 0))))) (pss_one (ps_ret (pv 2))))), ?_⟩
  cases h with
  | mk q d h1 h2 =>
  have hq := q_bd (q := q)
  have e1 : (d : Int) - 2 = ((d - 2 : Nat) : Int) := by omega
  refine run_set (ed_op (ed_var rfl) ed_int (rd_I0 fun _ => .int _)) ?_
  have hl : (rgD 0 (((d - 2 : Nat) : Int)).toNat).length = d - 2 := by rw [rgD_len, Int.toNat_natCast]
  refine run_for (fun i => [.dat (.int q), .dat (.int d), .dat (.int (((q - 1) * q ^ i : Nat) : Int)), prv (rgD 0 (((d - 2 : Nat) : Int)).toNat) i]) (ei_range1 (ea1 (ed_to (ed_op (ed_var rfl) ed_int (rd_I0 fun _ => .int _)) (congrArg PyData.int e1))) (by omega) (by omega)) ?_ (fun i x hx => ?_) ?_
  · show [Sd.dat (.int q), .dat (.int d), .dat (.int (((q - 1) * 1 : Nat) : Int)), .no] = [.dat (.int q), .dat (.int d), .dat (.int ((q : Int) - 1)), .no]
    rw [Nat.mul_one, qm1]
  · refine ⟨_, _, bd_name, run_last (run_set (ed_op (ed_var rfl) (ed_var rfl) (rd_I (cmulB (by omega)) fun _ => .int _)) (run_end.to ?_))⟩
    rw [prv_at hx, nat_mul, Nat.mul_assoc, ← Nat.pow_succ]
    rfl
  · rw [hl]
    exact run_last (run_ret (ed_var rfl))
abbrev N_many_steps : List Str := ["q", "degrees", "found", "place", "degree"]
theorem sc_many_steps : FnScope N_many_steps ["q", "degrees"] (defScope s_many_steps) := ⟨rfl, rfl, rfl, by decide +kernel, rfl, by decide +kernel, by decide +kernel⟩
theorem ok_many_steps (T : Top K mg) : Has P w K mg base 2 "many_steps" ["q", "degrees"] (spR K R_many_steps) := by
  obtain ⟨f, fd, g, Fd⟩ := T.def_ 53 d_many_steps rfl
  have nd := sc_many_steps.nd
  have h_many_bends := ok_many_bends (P := P) (w := w) (base := base) T
  have h_many_straight := ok_many_straight (P := P) (w := w) (base := base) T
  refine has_of g Fd sc_many_steps (fun _ _ _ _ _ _ us hl => match us, hl with | [_, _], _ => rfl) (fun _ _ h => by cases h <;> rfl) fun cdv A outer s H E hr ds d h => ?_
  refine ⟨_, (pss_cons (ps_set (i := 2) nd rfl (Or.inl rfl) (pe_callH h_many_straight hr (by decide) rfl (pa_cons (pv 0) pa_nil))) (pss_cons (ps_for PassesOwn.never rfl (pi_enumT rfl (T.free 3 _ rfl) (pa_cons (pv 1) pa_nil)) (pg_tup rfl (pgs_cons (pg_name (i := 3) nd rfl (Or.inl rfl)) (pgs_cons (pg_name (i := 4) nd rfl (Or.inl rfl)) pgs_nil))) (pss_one (ps_set (i := 2) nd rfl (Or.inl rfl) (pe_op op_mul (pe_op op_mul (pv 2) (pe_callH h_many_bends hr (by decide) rfl (pa_cons (pv 0) (pa_cons (pv 4) pa_nil)))) (pe_ifExp (pt_cmpR op_eq (pv 3) pe_int (nomark _)) (pe_op op_add (pv 0) pe_int) (pv 0)))))) (pss_one (ps_ret (pv 2))))), ?_⟩
  cases h with
  | mk q ds h hl =>
  have hq := q_bd (q := q)
  have enl : (enD (ds.map fun n : Nat => PyData.int n)).length = ds.length := by rw [enD_len, List.length_map]
  refine run_set (ed_call (ea1 (ed_var rfl)) (R_many_straight.mk q)) ?_
  refine run_for (fun i => [.dat (.int q), .dat (dsD ds), .dat (.int (mstN q (ds.take i) : Nat)), (if i = 0 then .no else .dat (.int ((i - 1 : Nat) : Int))), prv (ds.map fun n : Nat => PyData.int n) i]) (ei_enumT (ea1 (ed_var rfl))) ?_ (fun i x hx => ?_) ?_
  · have e : mstN q (ds.take 0) = msN q := by
      show msN q * 1 * 1 = _
      omega
    simp only [e]
    rfl
  · have hi : i < ds.length := by
      have := (List.getElem?_eq_some_iff.mp hx).1
      omega
    obtain ⟨y, hy, rfl⟩ := enD_at hx
    have hy2 := hy
    rw [List.getElem?_map, List.getElem?_eq_getElem hi] at hy2
    cases hy2
    have hd := h _ (List.getElem_mem hi)
    have hb := mbN_le (q := q) hd.2
    have e1 : ds.take (i + 1) = ds.take i ++ [ds[i]] := by
      rw [List.take_add_one, List.getElem?_eq_getElem hi]
      rfl
    have e2 : (ds.take i).length = i := by rw [List.length_take]; omega
    have er : (if i = 0 then q + 1 else q) ≤ 17 := by split <;> omega
    refine ⟨_, _, bd_tup rfl (bds_cons (bds_cons bds_nil)), run_last (run_set (d := .int (mstN q (ds.take (i + 1)) : Nat)) (ed_to (ed_op (ed_op (ed_var rfl) (ed_call (ea2 (ed_var rfl) (ed_var rfl)) (R_many_bends.mk q ds[i] hd.1 hd.2)) (rd_I (cmulB (by omega)) fun _ => .int _)) (ed_if (b := decide (i = 0)) (d := .int ((if i = 0 then q + 1 else q : Nat) : Int)) (et_test (ed_to (ed_op (ed_var rfl) ed_int rd_eqI) ?_)) (fun e => ?_) (fun e => ?_)) (rd_I (cmulB (by omega)) fun _ => .int _)) ?_) (run_end.to ?_))⟩
    · congr 1
      exact decide_eq_decide.mpr ⟨fun h => by omega, fun h => by omega⟩
    · have e := of_decide_eq_true e
      have e3 : (if i = 0 then q + 1 else q) = q + 1 := if_pos e
      rw [e3]
      exact ed_to (ed_op (ed_var rfl) ed_int (rd_I0 fun _ => .int _)) (congrArg PyData.int (by omega))
    · have e := of_decide_eq_false e
      have e3 : (if i = 0 then q + 1 else q) = q := if_neg e
      rw [e3]
      exact ed_var rfl
    · rw [nat_mul, nat_mul, e1, mst_snoc, e2]
    · rw [prv_at hy, if_neg (Nat.succ_ne_zero i)]
      rfl
  · rw [enl, List.take_length]
    exact run_last (run_ret (ed_var rfl))
abbrev N_many_with : List Str := ["q", "degrees", "determinant"]
theorem sc_many_with : FnScope N_many_with ["q", "degrees", "determinant"] (defScope s_many_with) := ⟨rfl, rfl, rfl, by decide +kernel, rfl, by decide +kernel, by decide +kernel⟩
theorem ok_many_with (T : Top K mg) : Has P w K mg base 3 "many_with" ["q", "degrees", "determinant"] (spR K R_many_with) := by
  obtain ⟨f, fd, g, Fd⟩ := T.def_ 54 d_many_with rfl
  have nd := sc_many_with.nd
  have h_many_steps := ok_many_steps (P := P) (w := w) (base := base) T
  refine has_of g Fd sc_many_with (fun _ _ _ _ _ _ us hl => match us, hl with | [_, _, _], _ => rfl) (fun _ _ h => by cases h <;> rfl) fun cdv A outer s H E hr ds d h => ?_
  refine ⟨_, (pss_one (ps_ret (pe_op op_fdiv (pe_callH h_many_steps hr (by decide) rfl (pa_cons (pv 0) (pa_cons (pv 1) pa_nil))) (pe_op op_sub (pv 0) pe_int)))), ?_⟩
  cases h with
  | mk q ds h hl u =>
  have hq := q_bd (q := q)
  refine run_last (run_ret (ed_to (ed_op (ed_call (ea2 (ed_var rfl) (ed_var rfl)) (R_many_steps.mk q ds h hl)) (ed_to (x := .int ((q - 1 : Nat) : Int)) (ed_op (ed_var rfl) ed_int (rd_I0 fun _ => .int _)) (congrArg PyData.int qm1)) (rd_I (cdivN (by omega) (by omega)) fun _ => .int _)) ?_))
  rw [Int.natCast_ediv]
abbrev N_seconds : List Str := ["q", "a", "b", "d", "e"]
theorem sc_seconds : FnScope N_seconds ["q", "a", "b"] (defScope s_seconds) := ⟨rfl, rfl, rfl, by decide +kernel, rfl, by decide +kernel, by decide +kernel⟩
theorem ok_seconds (T : Top K mg) : Has P w K mg base 2 "seconds" ["q", "a", "b"] (spR K R_seconds) := by
  obtain ⟨f, fd, g, Fd⟩ := T.def_ 55 d_seconds rfl
  have nd := sc_seconds.nd
  have h_times := ok_times (P := P) (w := w) (base := base) T
  refine has_of g Fd sc_seconds (fun _ _ _ _ _ _ us hl => match us, hl with | [_, _, _], _ => rfl) (fun _ _ h => by cases h <;> rfl) fun cdv A outer s H E hr ds d h => ?_
  refine ⟨_, (pss_one (ps_ret (pe_lc2 (own := [("d", 3), ("e", 4)]) (vs1 := [4]) rfl nd (pi_range1 rfl (T.free 9 _ rfl) (pa_cons (pv 0) pa_nil)) (blkOk_by (own := [("d", 3), ("e", 4)]) (N := N_seconds) (sc := defScope s_seconds) (by decide +kernel)) (by decide) (fun _ _ _ _ _ => (pg_name (i := 3) nd rfl (Or.inl rfl))) (fun _ _ _ _ _ => pts_nil) (fun _ _ _ _ _ => (pi_range1 rfl (T.free 9 _ rfl) (pa_cons (pv 0) pa_nil))) (fun _ _ _ _ _ => (pg_name (i := 4) nd rfl (Or.inl rfl))) (fun _ _ _ _ _ => (pts_one (pt_cmpR op_ne (pe_callH h_times hr (by decide) rfl (pa_cons (pv 0) (pa_cons (pv 1) (pa_cons (pv 4) pa_nil)))) (pe_callH h_times hr (by decide) rfl (pa_cons (pv 0) (pa_cons (pv 2) (pa_cons (pv 3) pa_nil)))) (nomark _)))) (fun _ _ _ _ _ => (pe_tup (pa_cons (pv 3) (pa_cons (pv 4) pa_nil))))))), ?_⟩
  cases h with
  | mk q a b =>
  have hq := q_bd (q := q)
  have rg : ∀ {i : Nat} {x : PyData}, (rgD 0 (q : Int).toNat)[i]? = some x → ∃ d : F q, x = nD d := fun {i x} hx => by
    have hi := (List.getElem?_eq_some_iff.mp hx).1
    rw [rgD_len, Int.toNat_natCast] at hi
    unfold rgD at hx
    rw [List.getElem?_map, List.getElem?_range (by rw [Int.toNat_natCast]; exact hi)] at hx
    exact ⟨⟨i, hi⟩, by rw [← Option.some.inj hx]; show PyData.int (0 + (i : Int)) = PyData.int (i : Int); rw [Int.zero_add]⟩
  have ra : rgD 0 (q : Int).toNat = (allF q).map nD := by
    unfold rgD allF
    rw [Int.toNat_natCast, List.map_map]
    refine List.map_congr_left fun i hi => ?_
    show PyData.int (0 + (i : Int)) = PyData.int ((i % q : Nat) : Int)
    rw [Nat.mod_eq_of_lt (List.mem_range.mp hi), Int.zero_add]
  have hres : ∀ l : List (F q), ((l.map nD).flatMap fun x => keep (fun y => !decide (a * (toF y : F q) = b * (toF x : F q))) (fun y => .tuple [x, y]) ((allF q).map nD)) = (l.flatMap fun d => ((allF q).filter fun e => !decide (a * e = b * d)).map fun e => (d, e)).map prD := fun l => by
    induction l with
    | nil => rfl
    | cons d l ih =>
      rw [List.map_cons, List.flatMap_cons, List.flatMap_cons, List.map_append, ih]
      congr 1
      unfold keep
      rw [List.filter_map, List.map_map, List.map_map, toF_nD]
      have e : ((fun y => !decide (a * (toF y : F q) = b * d)) ∘ nD) = fun e => !decide (a * e = b * d) := by
        funext e
        show (!decide (a * (toF (nD e) : F q) = b * d)) = _
        rw [toF_nD]
      rw [e]
      rfl
  have hle : ∀ i, (((rgD 0 (q : Int).toNat).take i).flatMap fun x => keep (fun y => !decide (a * (toF y : F q) = b * (toF x : F q))) (fun y => .tuple [x, y]) (rgD 0 (q : Int).toNat)).length ≤ 50000 := fun i => by
    have h1 : ∀ l : List PyData, (l.flatMap fun x => keep (fun y => !decide (a * (toF y : F q) = b * (toF x : F q))) (fun y => PyData.tuple [x, y]) (rgD 0 (q : Int).toNat)).length ≤ l.length * q := fun l => by
      induction l with
      | nil => simp
      | cons x l ih =>
        rw [List.flatMap_cons, List.length_append, List.length_cons, Nat.add_mul]
        have := Nat.le_trans (keep_len (fun y => !decide (a * (toF y : F q) = b * (toF x : F q))) (fun y => PyData.tuple [x, y]) (rgD 0 (q : Int).toNat)) (Nat.le_of_eq (by rw [rgD_len, Int.toNat_natCast]))
        omega
    have h2 := h1 ((rgD 0 (q : Int).toNat).take i)
    have h3 : ((rgD 0 (q : Int).toNat).take i).length ≤ 16 := by
      rw [List.length_take, rgD_len, Int.toNat_natCast]
      omega
    have h4 := Nat.mul_le_mul h3 hq.2.1
    omega
  refine run_last (run_ret (EdL.mk (ed_lc2 (fun _ => rgD 0 (q : Int).toNat) (fun x y => !decide (a * (toF y : F q) = b * (toF x : F q))) (fun x y => .tuple [x, y]) (ei_range1 (ea1 (ed_var rfl)) (by omega) (by omega)) hle (fun x _ => by rw [rgD_len, Int.toNat_natCast]; omega) fun i x hx => ?_) ?_))
  · obtain ⟨d, rfl⟩ := rg hx
    refine ⟨_, _, bd_name, (fun j hj => List.mem_cons.mpr (.inl (List.mem_singleton.mp hj))), (fun i p o => ?_), ei_range1 (ea1 (ed_var rfl)) (by omega) (by omega), fun j y hy => ?_⟩
    · match i with
      | 0 => exact fun h => nomatch h
      | 1 => exact fun h => nomatch h
      | 2 => exact fun h => nomatch h
      | 3 => exact fun h => nomatch h
      | 4 => exact fun h => nomatch h
      | _ + 5 => exact fun h => nomatch h
    · obtain ⟨e, rfl⟩ := rg hy
      refine ⟨_, _, bd_name, fun j hj => hj, (fun i p o => ?_), et_test (ed_to (ed_op (ed_call (ea3 (ed_var rfl) (ed_var rfl) (ed_var rfl)) (R_times.mk q a e)) (ed_call (ea3 (ed_var rfl) (ed_var rfl) (ed_var rfl)) (R_times.mk q b d)) rd_neI) ?_), fun _ => ed_tup (ea2 (ed_var rfl) (ed_var rfl)) (le5 rfl)⟩
      · match i with
        | 0 => exact fun h => nomatch h
        | 1 => exact fun h => nomatch h
        | 2 => exact fun h => nomatch h
        | 3 => exact fun h => nomatch h
        | 4 => exact fun h => nomatch h
        | _ + 5 => exact fun h => nomatch h
      · rw [toF_nD, toF_nD]
        congr 2
        exact decide_eq_decide.mpr ⟨fun h => F.ext' (by omega), fun h => by rw [h]⟩
  · rw [ra]
    exact hres (allF q)
abbrev N_map_at : List Str := ["q", "number", "left", "f", "at", "c", "a", "b", "d", "e"]
theorem sc_map_at : FnScope N_map_at ["q", "number"] (defScope s_map_at) := ⟨rfl, rfl, rfl, by decide +kernel, rfl, by decide +kernel, by decide +kernel⟩
theorem ok_map_at (T : Top K mg) : Has P w K mg base 3 "map_at" ["q", "number"] (spR K R_map_at) := by
  obtain ⟨f, fd, g, Fd⟩ := T.def_ 56 d_map_at rfl
  have nd := sc_map_at.nd
  have h_seconds := ok_seconds (P := P) (w := w) (base := base) T
  refine has_of g Fd sc_map_at (fun _ _ _ _ _ _ us hl => match us, hl with | [_, _], _ => rfl) (fun _ _ h => by cases h <;> rfl) fun cdv A outer s H E hr ds d h => ?_
  refine ⟨_, (pss_cons (ps_par (i := 2) (j := 3) rfl nd rfl rfl (by decide) rfl rfl (pa_cons (pe_op op_fdiv (pv 1) (pv 0)) (pa_cons (pe_op op_mod (pv 1) (pv 0)) pa_nil)) rfl) (pss_cons (ps_par (i := 2) (j := 4) rfl nd rfl rfl (by decide) rfl rfl (pa_cons (pe_op op_fdiv (pv 2) (pe_op op_sub (pe_op op_mul (pv 0) (pv 0)) (pv 0))) (pa_cons (pe_op op_mod (pv 2) (pe_op op_sub (pe_op op_mul (pv 0) (pv 0)) (pv 0))) pa_nil)) rfl) (pss_cons (ps_par (i := 2) (j := 5) rfl nd rfl rfl (by decide) rfl rfl (pa_cons (pe_op op_fdiv (pv 2) (pv 0)) (pa_cons (pe_op op_mod (pv 2) (pv 0)) pa_nil)) rfl) (pss_cons (ps_par (i := 6) (j := 7) rfl nd rfl rfl (by decide) rfl rfl (pa_cons (pe_op op_fdiv (pe_op op_add (pv 2) pe_int) (pv 0)) (pa_cons (pe_op op_mod (pe_op op_add (pv 2) pe_int) (pv 0)) pa_nil)) rfl) (pss_cons (ps_asg (pe_ix ix_list (pe_callH h_seconds hr (by decide) rfl (pa_cons (pv 0) (pa_cons (pv 6) (pa_cons (pv 7) pa_nil)))) (pv 4) (fun _ _ => rfl)) (pg_tup rfl (pgs_cons (pg_name (i := 8) nd rfl (Or.inl rfl)) (pgs_cons (pg_name (i := 9) nd rfl (Or.inl rfl)) pgs_nil)))) (pss_one (ps_ret (pe_tup (pa_cons (pv 6) (pa_cons (pv 7) (pa_cons (pv 5) (pa_cons (pv 8) (pa_cons (pv 9) (pa_cons (pv 3) pa_nil)))))))))))))), ?_⟩
  cases h with
  | mk q n hn =>
  have hq := q_bd (q := q)
  have hqq := qq_le (q := q)
  have hpos := qq_pos (q := q)
  obtain ⟨d, e, g1, g2, g3, g4⟩ := mapAt_de hn
  have hl := mapAt_l (q := q) hn
  have dv : ∀ m k : Nat, ((m : Nat) : Int) / (k : Int) = ((m / k : Nat) : Int) := fun m k => (Int.natCast_ediv m k).symm
  have mv : ∀ m k : Nat, ((m : Nat) : Int) % (k : Int) = ((m % k : Nat) : Int) := fun m k => (Int.natCast_emod m k).symm
  have sub : Ed K (tOp (rI0 fun i j => .int (i - j)) (tOp (rI CMul fun i j => .int (i * j)) (tVar 0) (tVar 0)) (tVar 0)) [.dat (.int q), .dat (.int n), .dat (.int (n / q : Nat)), .dat (nD (dg n : F q)), .no, .no, .no, .no, .no, .no] (.int (q * q - q : Nat)) :=
    ed_to (ed_op (ed_op (ed_var rfl) (ed_var rfl) (rd_I (cmulB (by omega)) fun _ => .int _)) (ed_var rfl) (rd_I0 fun _ => .int _)) (by rw [nat_mul, qq_sub])
  refine run_par (x := .int (n / q : Nat)) (y := nD (dg n : F q)) (ea2 (ed_to (ed_op (ed_var rfl) (ed_var rfl) (rd_I (cdivN (by omega) (by omega)) fun _ => .int _)) (congrArg PyData.int (dv n q))) (ed_to (ed_op (ed_var rfl) (ed_var rfl) (rd_I (by omega) fun _ => .int _)) (congrArg PyData.int (mv n q)))) ?_
  refine run_par (x := .int (n / q / (q * q - q) : Nat)) (y := .int (n / q % (q * q - q) : Nat)) (ea2 (ed_to (ed_op (ed_var rfl) sub (rd_I (cdivN (by omega) (by omega)) fun _ => .int _)) (congrArg PyData.int (dv _ _))) (ed_to (ed_op (ed_var rfl) sub (rd_I (by omega) fun _ => .int _)) (congrArg PyData.int (mv _ _)))) ?_
  refine run_par (x := .int (n / q / (q * q - q) / q : Nat)) (y := nD (dg (n / q / (q * q - q)) : F q)) (ea2 (ed_to (ed_op (ed_var rfl) (ed_var rfl) (rd_I (cdivN (by omega) (by omega)) fun _ => .int _)) (congrArg PyData.int (dv _ q))) (ed_to (ed_op (ed_var rfl) (ed_var rfl) (rd_I (by omega) fun _ => .int _)) (congrArg PyData.int (mv _ q)))) ?_
  have e1 : ((n / q / (q * q - q) / q : Nat) : Int) + 1 = ((n / q / (q * q - q) / q + 1 : Nat) : Int) := by omega
  refine run_par (x := nD (mapA (n / q / (q * q - q) / q) : F q)) (y := nD (mapB (n / q / (q * q - q) / q) : F q)) (ea2 (ed_to (ed_op (ed_to (ed_op (ed_var rfl) ed_int (rd_I0 fun _ => .int _)) (congrArg PyData.int e1)) (ed_var rfl) (rd_I (cdivN (by omega) (by omega)) fun _ => .int _)) ?_) (ed_to (ed_op (ed_to (ed_op (ed_var rfl) ed_int (rd_I0 fun _ => .int _)) (congrArg PyData.int e1)) (ed_var rfl) (rd_I (by omega) fun _ => .int _)) (congrArg PyData.int (mv _ q)))) ?_
  · show _ = PyData.int (((mapA (n / q / (q * q - q) / q) : F q).v : Nat) : Int)
    rw [mapA_v hl, dv]
  · refine run_asg (ed_op (ed_call (ea3 (ed_var rfl) (ed_var rfl) (ed_var rfl)) (R_seconds.mk q _ _)) (ed_var rfl) (rd_ixL (d := prD (d, e)) (atI_nat ?_))) (bd_tup rfl (bds_cons (bds_cons bds_nil))) (run_last (run_ret (ed_to (ed_tup (ea6 (ed_var rfl) (ed_var rfl) (ed_var rfl) (ed_var rfl) (ed_var rfl) (ed_var rfl)) (le5 rfl)) ?_)))
    · rw [List.getElem?_map, g1]
      rfl
    · rw [← g2, ← g3]
      rfl
abbrev N_bend_at : List Str := ["q", "degree", "number", "found", "left", "_"]
theorem sc_bend_at : FnScope N_bend_at ["q", "degree", "number"] (defScope s_bend_at) := ⟨rfl, rfl, rfl, by decide +kernel, rfl, by decide +kernel, by decide +kernel⟩
theorem ok_bend_at (T : Top K mg) : Has P w K mg base 1 "bend_at" ["q", "degree", "number"] (spR K R_bend_at) := by
  obtain ⟨f, fd, g, Fd⟩ := T.def_ 57 d_bend_at rfl
  have nd := sc_bend_at.nd
  refine has_of g Fd sc_bend_at (fun _ _ _ _ _ _ us hl => match us, hl with | [_, _, _], _ => rfl) (fun _ _ h => by cases h <;> rfl) fun cdv A outer s H E hr ds d h => ?_
  refine ⟨_, (pss_cons (ps_par (i := 3) (j := 4) rfl nd rfl rfl (by decide) rfl rfl (pa_cons (pe_lst (pa_cons (pe_op op_add (pe_op op_mod (pv 2) (pe_op op_sub (pv 0) pe_int)) pe_int) pa_nil)) (pa_cons (pe_op op_fdiv (pv 2) (pe_op op_sub (pv 0) pe_int)) pa_nil)) rfl) (pss_cons (ps_for PassesOwn.never rfl (pi_range1 rfl (T.free 9 _ rfl) (pa_cons (pe_op op_sub (pv 1) pe_int) pa_nil)) (pg_name (i := 5) nd rfl (Or.inl rfl)) (pss_cons (ps_expr (pe_bm PySem.F.plainAttrs_list PySem.F.slot_list_append PySem.F.type_list_append mt_append (pv 3) (pa_cons (pe_op op_mod (pv 4) (pv 0)) pa_nil))) (pss_one (ps_set (i := 4) nd rfl (Or.inl rfl) (pe_op op_fdiv (pv 4) (pv 0)))))) (pss_one (ps_ret (pe_op op_catA (pe_tup (pa_cons pe_int (pa_cons pe_int pa_nil))) (pe_callTy call_tuple_of rfl (T.free 13 _ rfl) boot_tuple (pa_cons (pe_revL (pv 3)) pa_nil))))))), ?_⟩
  cases h with
  | mk q d n h1 h2 =>
  have hq := q_bd (q := q)
  have e1 : (d : Int) - 2 = ((d - 2 : Nat) : Int) := by omega
  have dv : ∀ m k : Nat, ((m : Nat) : Int) / (k : Int) = ((m / k : Nat) : Int) := fun m k => (Int.natCast_ediv m k).symm
  have mv : ∀ m k : Nat, ((m : Nat) : Int) % (k : Int) = ((m % k : Nat) : Int) := fun m k => (Int.natCast_emod m k).symm
  have qs : Ed K (tOp (rI0 fun i j => .int (i - j)) (tVar 0) (tC (.int 1))) [.dat (.int q), .dat (.int d), .dat (.int n), .no, .no, .no] (.int (q - 1 : Nat)) := ed_to (ed_op (ed_var rfl) ed_int (rd_I0 fun _ => .int _)) (congrArg PyData.int qm1)
  have hm : n % (q - 1) < q - 1 := Nat.mod_lt _ (by omega)
  have hl : (rgD 0 (((d - 2 : Nat) : Int)).toNat).length = d - 2 := by rw [rgD_len, Int.toNat_natCast]
  refine run_parN (xs := ([dg (n % (q - 1) + 1)] : List (F q)).map nD) (d := .int (n / (q - 1) : Nat)) (en_lst (ea1 (ed_to (ed_op (ed_op (ed_var rfl) qs (rd_I (by omega) fun _ => .int _)) ed_int (rd_I0 fun _ => .int _)) ?_)) (le5 rfl)) (ed_to (ed_op (ed_var rfl) qs (rd_I (cdivN (by omega) (by omega)) fun _ => .int _)) (congrArg PyData.int (dv _ _))) (by decide) fun p => ?_
  · show PyData.int ((n : Int) % ((q - 1 : Nat) : Int) + 1) = PyData.int (((n % (q - 1) + 1) % q : Nat) : Int)
    rw [mv, Nat.mod_eq_of_lt (show n % (q - 1) + 1 < q by omega)]
    rfl
  · refine run_for (fun i => [.dat (.int q), .dat (.int d), .dat (.int n), .own p (.lst ((dg (n % (q - 1) + 1) :: digs (n / (q - 1)) i : List (F q)).map nD)), .dat (.int (n / (q - 1) / q ^ i : Nat)), prv (rgD 0 (((d - 2 : Nat) : Int)).toNat) i]) (ei_range1 (ea1 (ed_to (ed_op (ed_var rfl) ed_int (rd_I0 fun _ => .int _)) (congrArg PyData.int e1))) (by omega) (by omega)) ?_ (fun i x hx => ?_) ?_
    · simp only [Nat.pow_zero, Nat.div_one]
      rfl
    · have hi : i < d - 2 := by
        have := (List.getElem?_eq_some_iff.mp hx).1
        omega
      refine ⟨_, _, bd_name, run_append (i := 3) rfl (ed_to (x := nD (dg (n / (q - 1) / q ^ i) : F q)) (ed_op (ed_var rfl) (ed_var rfl) (rd_I (by omega) fun _ => .int _)) (congrArg PyData.int (mv _ q))) (by rw [len_tD, List.length_cons (as := digs _ _), digs_len]; omega) (run_last (run_set (ed_to (ed_op (ed_var rfl) (ed_var rfl) (rd_I (cdivN (by omega) (by omega)) fun _ => .int _)) (congrArg PyData.int (dv _ q))) (run_end.to ?_)))⟩
      have e5 : n / (q - 1) / q ^ i / q = n / (q - 1) / q ^ (i + 1) := by rw [Nat.div_div_eq_div_mul (n / (q - 1)), ← Nat.pow_succ]
      rw [prv_at hx, e5, map_snoc]
      rfl
    · rw [hl]
      refine run_fz (i := 3) rfl (run_last (run_ret (ed_to (ed_op (ed_tup (ea2 ed_int ed_int) (le5 rfl)) (ed_cb (ea1 (ed_revL (ed_var rfl))) rc_tupL) (rd_catT ?_)) ?_)))
      · rw [List.length_reverse, len_tD, List.length_cons (as := digs _ _), digs_len]
        show 2 + _ ≤ _
        omega
      · show PyData.tuple ([PyData.int 0, .int 0] ++ ((dg (n % (q - 1) + 1) :: digs (n / (q - 1)) (d - 2) : List (F q)).map nD).reverse) = PyData.tuple ((([0, 0] : List (F q)) ++ (dg (n % (q - 1) + 1) :: digs (n / (q - 1)) (d - 2) : List (F q)).reverse).map nD)
        rw [List.map_append, List.map_reverse]
        show _ = PyData.tuple ([nD (0 : F q), nD 0] ++ _)
        rw [nD0]
abbrev N_step_at : List Str := ["q", "degrees", "number", "left", "last", "turns", "bends", "_", "degree", "many"]
theorem sc_step_at : FnScope N_step_at ["q", "degrees", "number"] (defScope s_step_at) := ⟨rfl, rfl, rfl, by decide +kernel, rfl, by decide +kernel, by decide +kernel⟩
theorem ok_step_at (T : Top K mg) : Has P w K mg base 4 "step_at" ["q", "degrees", "number"] (spR K R_step_at) := by
  obtain ⟨f, fd, g, Fd⟩ := T.def_ 58 d_step_at rfl
  have nd := sc_step_at.nd
  have h_bend_at := ok_bend_at (P := P) (w := w) (base := base) T
  have h_many_bends := ok_many_bends (P := P) (w := w) (base := base) T
  have h_many_straight := ok_many_straight (P := P) (w := w) (base := base) T
  have h_map_at := ok_map_at (P := P) (w := w) (base := base) T
  refine has_of g Fd sc_step_at (fun _ _ _ _ _ _ us hl => match us, hl with | [_, _, _], _ => rfl) (fun _ _ h => by cases h <;> rfl) fun cdv A outer s H E hr ds d h => ?_
  refine ⟨_, (pss_cons (ps_par (i := 3) (j := 4) rfl nd rfl rfl (by decide) rfl rfl (pa_cons (pe_op op_fdiv (pv 2) (pe_callH h_many_straight hr (by decide) rfl (pa_cons (pv 0) pa_nil))) (pa_cons (pe_callH h_map_at hr (by decide) rfl (pa_cons (pv 0) (pa_cons (pe_op op_mod (pv 2) (pe_callH h_many_straight hr (by decide) rfl (pa_cons (pv 0) pa_nil))) pa_nil))) pa_nil)) rfl) (pss_cons (ps_if (pt_cmpR (op_eqD hr.units) (pv 1) (pe_tup pa_nil) (nomark _)) (pss_one (ps_ret (pe_tup (pa_cons (pe_un un_neg pe_int) (pa_cons (pe_tup pa_nil) (pa_cons (pe_tup pa_nil) (pa_cons (pv 4) pa_nil))))))) pss_nil) (pss_cons (ps_par (i := 5) (j := 6) rfl nd rfl rfl (by decide) rfl rfl (pa_cons (pe_lst pa_nil) (pa_cons (pe_lst pa_nil) pa_nil)) rfl) (pss_cons (ps_for PassesOwn.never rfl (pi_tup (pe_slice sl_tupA (pv 1) (po_some pe_int) po_none)) (pg_name (i := 7) nd rfl (Or.inl rfl)) (pss_cons (ps_expr (pe_bm PySem.F.plainAttrs_list PySem.F.slot_list_append PySem.F.type_list_append mt_append (pv 5) (pa_cons (pe_op op_mod (pv 3) (pv 0)) pa_nil))) (pss_one (ps_set (i := 3) nd rfl (Or.inl rfl) (pe_op op_fdiv (pv 3) (pv 0)))))) (pss_cons (ps_for PassesOwn.never rfl (pi_tup (pe_revT (pv 1))) (pg_name (i := 8) nd rfl (Or.inl rfl)) (pss_cons (ps_set (i := 9) nd rfl (Or.inl rfl) (pe_callH h_many_bends hr (by decide) rfl (pa_cons (pv 0) (pa_cons (pv 8) pa_nil)))) (pss_cons (ps_expr (pe_bm PySem.F.plainAttrs_list PySem.F.slot_list_append PySem.F.type_list_append mt_append (pv 6) (pa_cons (pe_callH h_bend_at hr (by decide) rfl (pa_cons (pv 0) (pa_cons (pv 8) (pa_cons (pe_op op_mod (pv 3) (pv 9)) pa_nil)))) pa_nil))) (pss_one (ps_set (i := 3) nd rfl (Or.inl rfl) (pe_op op_fdiv (pv 3) (pv 9))))))) (pss_one (ps_ret (pe_tup (pa_cons (pe_op op_sub (pv 3) pe_int) (pa_cons (pe_callTy call_tuple_of rfl (T.free 13 _ rfl) boot_tuple (pa_cons (pe_revL (pv 6)) pa_nil)) (pa_cons (pe_callTy call_tuple_of rfl (T.free 13 _ rfl) boot_tuple (pa_cons (pe_revL (pv 5)) pa_nil)) (pa_cons (pv 4) pa_nil)))))))))))), ?_⟩
  cases h with
  | mk q ds n h hl hn =>
  have hq := q_bd (q := q)
  have hms := msN_le (q := q)
  have hmp := msN_pos (q := q)
  have dv : ∀ m k : Nat, ((m : Nat) : Int) / (k : Int) = ((m / k : Nat) : Int) := fun m k => (Int.natCast_ediv m k).symm
  have mv : ∀ m k : Nat, ((m : Nat) : Int) % (k : Int) = ((m % k : Nat) : Int) := fun m k => (Int.natCast_emod m k).symm
  refine run_par (x := .int (n / msN q : Nat)) (y := mD (mapAt (n % msN q) : SM q)) (ea2 (ed_to (ed_op (ed_var rfl) (ed_call (ea1 (ed_var rfl)) (R_many_straight.mk q)) (rd_I (cdivN hmp (by omega)) fun _ => .int _)) (congrArg PyData.int (dv _ _))) (ed_call (ea2 (ed_var rfl) (ed_to (ed_op (ed_var rfl) (ed_call (ea1 (ed_var rfl)) (R_many_straight.mk q)) (rd_I (by omega) fun _ => .int _)) (congrArg PyData.int (mv _ _)))) (R_map_at.mk q (n % msN q) (Nat.mod_lt _ hmp)))) ?_
  refine run_if (b := ds.isEmpty) (et_test (ed_to (ed_op (ed_var rfl) (ed_tup ea_nil (le5 rfl)) (rd_eqD (fl_dsD (n := 1)).shaped (fl_nil (n := 1)).shaped)) ?_)) (fun e => ?_) (fun e => run_next ?_)
  · rw [eqv_nil, List.isEmpty_map]
  · have e : ds = [] := List.isEmpty_iff.mp e
    have e2 : (stepAt ds n : ST q) = ⟨none, [], [], mapAt (n % msN q)⟩ := if_pos e
    rw [e2]
    exact run_ret (ed_tup (ea4 ed_m1 (ed_tup ea_nil (le5 rfl)) (ed_tup ea_nil (le5 rfl)) (ed_var rfl)) (le5 rfl))
  have e0 : ds ≠ [] := fun z => by rw [z] at e; cases e
  have hpos : 0 < ds.length := List.length_pos_iff.mpr e0
  have e1 : cutD (ds.map fun n : Nat => PyData.int n) (some 1) none = (ds.drop 1).map fun n : Nat => PyData.int n := by
    unfold cutD HT.sIx
    rw [List.length_map, List.map_drop]
    have : min ((1 : Int)).toNat ds.length = 1 := by
      show min 1 _ = 1
      omega
    simp only [show ¬ ((1 : Int) < 0) by decide, if_false, this]
    rw [List.take_of_length_le (by rw [List.length_drop, List.length_map]; omega)]
  have l1 : ((ds.drop 1).map fun n : Nat => PyData.int n).length = ds.length - 1 := by rw [List.length_map, List.length_drop]
  have e2 : (ds.map fun n : Nat => PyData.int n).reverse = ds.reverse.map fun n : Nat => PyData.int n := by rw [List.map_reverse]
  refine run_parNN (en_lst ea_nil (le5 rfl)) (en_lst ea_nil (le5 rfl)) fun p p2 => ?_
  refine run_for (fun i => [.dat (.int q), .dat (dsD ds), .dat (.int n), .dat (.int (n / msN q / q ^ i : Nat)), .dat (mD (mapAt (n % msN q) : SM q)), .own p (.lst ((digs (n / msN q) i : List (F q)).map nD)), .own p2 (.lst []), prv ((ds.drop 1).map fun n : Nat => PyData.int n) i, .no, .no]) (ei_tup (ed_slTe (ed_var rfl) (eo_some ed_int) eo_none e1)) ?_ (fun i x hx => ?_) ?_
  · simp only [Nat.pow_zero, Nat.div_one]
    rfl
  · have hi : i < ds.length - 1 := by
      have := (List.getElem?_eq_some_iff.mp hx).1
      omega
    refine ⟨_, _, bd_name, run_append (i := 5) rfl (ed_to (x := nD (dg (n / msN q / q ^ i) : F q)) (ed_op (ed_var rfl) (ed_var rfl) (rd_I (by omega) fun _ => .int _)) (congrArg PyData.int (mv _ q))) (by rw [len_tD, digs_len]; omega) (run_last (run_set (ed_to (ed_op (ed_var rfl) (ed_var rfl) (rd_I (cdivN (by omega) (by omega)) fun _ => .int _)) (congrArg PyData.int (dv _ q))) (run_end.to ?_)))⟩
    have e5 : n / msN q / q ^ i / q = n / msN q / q ^ (i + 1) := by rw [Nat.div_div_eq_div_mul (n / msN q), ← Nat.pow_succ]
    rw [prv_at hx, e5, map_snoc]
    rfl
  rw [l1]
  have l2 : (ds.reverse.map fun n : Nat => PyData.int n).length = ds.length := by rw [List.length_map, List.length_reverse]
  refine run_for (fun i => [.dat (.int q), .dat (dsD ds), .dat (.int n), .dat (.int ((bendsAt (n / msN q / q ^ (ds.length - 1)) (ds.reverse.take i) : List (List (F q)) × Nat).2 : Nat)), .dat (mD (mapAt (n % msN q) : SM q)), .own p (.lst ((digs (n / msN q) (ds.length - 1) : List (F q)).map nD)), .own p2 (.lst ((bendsAt (n / msN q / q ^ (ds.length - 1)) (ds.reverse.take i) : List (List (F q)) × Nat).1.map tD)), prv ((ds.drop 1).map fun n : Nat => PyData.int n) (ds.length - 1), prv (ds.reverse.map fun n : Nat => PyData.int n) i, prv (ds.reverse.map fun n : Nat => PyData.int (mbN q n : Nat)) i]) (ei_tup (ed_to (ed_revT (ed_var rfl)) (congrArg PyData.tuple e2))) ?_ (fun i x hx => ?_) ?_
  · rfl
  · have hi : i < ds.reverse.length := by
      have := (List.getElem?_eq_some_iff.mp hx).1
      rwa [List.length_map] at this
    have hx2 := hx
    rw [List.getElem?_map, List.getElem?_eq_getElem hi] at hx2
    cases hx2
    have hd := h ds.reverse[i] (List.mem_reverse.mp (List.getElem_mem hi))
    have hb := mbN_le (q := q) hd.2
    have hbp := mbN_pos (q := q) (d := ds.reverse[i])
    have c1 : prv (ds.reverse.map fun n : Nat => PyData.int (mbN q n : Nat)) (i + 1) = .dat (.int (mbN q ds.reverse[i] : Nat)) := prv_at (by rw [List.getElem?_map, List.getElem?_eq_getElem hi]; rfl)
    have e3 : ds.reverse.take (i + 1) = ds.reverse.take i ++ [ds.reverse[i]] := by
      rw [List.take_add_one, List.getElem?_eq_getElem hi]
      rfl
    have hl3 : (bendsAt (n / msN q / q ^ (ds.length - 1)) (ds.reverse.take i) : List (List (F q)) × Nat).1.length ≤ ds.length := by
      have := (bendsAt_ok (q := q) (n / msN q / q ^ (ds.length - 1)) (ds.reverse.take i) fun d hd => h d (List.mem_reverse.mp (List.mem_of_mem_take hd))).2
      have := congrArg List.length this
      rw [List.length_map, List.length_map, List.length_take] at this
      rw [List.length_reverse] at *
      omega
    refine ⟨_, _, bd_name, run_set (ed_call (ea2 (ed_var rfl) (ed_var rfl)) (R_many_bends.mk q ds.reverse[i] hd.1 hd.2)) (run_append (i := 6) rfl (ed_call (ea3 (ed_var rfl) (ed_var rfl) (ed_to (ed_op (ed_var rfl) (ed_var rfl) (rd_I (by omega) fun _ => .int _)) (congrArg PyData.int (mv _ _)))) (R_bend_at.mk q ds.reverse[i] _ hd.1 hd.2)) (by rw [List.length_map]; omega) (run_last (run_set (ed_to (ed_op (ed_var rfl) (ed_var rfl) (rd_I (cdivN hbp (by omega)) fun _ => .int _)) (congrArg PyData.int (dv _ _))) (run_end.to ?_))))⟩
    rw [prv_at hx, c1, e3, bendsAt_snoc, ← map_snoc]
    rfl
  · rw [l2]
    have e4 : ds.reverse.take ds.length = ds.reverse := by rw [← List.length_reverse, List.take_length]
    rw [e4]
    have hleft : (bendsAt (n / msN q / q ^ (ds.length - 1)) ds.reverse : List (List (F q)) × Nat).2 ≤ q := by
      rw [bendsAt_left, Nat.div_div_eq_div_mul, Nat.div_div_eq_div_mul, bsN_rev]
      apply Nat.le_of_lt_succ
      apply Nat.div_lt_of_lt_mul
      have e6 : ds.length = (ds.length - 1) + 1 := by omega
      unfold mstN at hn
      rw [e6] at hn
      rw [← Nat.mul_assoc (msN q)]
      show n < msN q * q ^ (ds.length - 1) * bsN q ds * (q + 1)
      have e7 : msN q * bsN q ds * trN q (ds.length - 1 + 1) = msN q * q ^ (ds.length - 1) * bsN q ds * (q + 1) := by
        show msN q * bsN q ds * ((q + 1) * q ^ (ds.length - 1)) = _
        generalize q ^ (ds.length - 1) = x
        generalize msN q = m
        generalize bsN q ds = b
        rw [Nat.mul_comm (q + 1) x, ← Nat.mul_assoc, Nat.mul_right_comm m b x]
      rw [← e7]
      exact hn
    have e8 : (stepAt ds n : ST q) = ⟨toR (bendsAt (n / msN q / q ^ (ds.length - 1)) ds.reverse : List (List (F q)) × Nat).2, (bendsAt (n / msN q / q ^ (ds.length - 1)) ds.reverse : List (List (F q)) × Nat).1.reverse, (digs (n / msN q) (ds.length - 1) : List (F q)).reverse, mapAt (n % msN q)⟩ := if_neg e0
    rw [e8]
    refine run_fz (i := 5) rfl (run_fz (i := 6) rfl (run_last (run_ret (ed_to (ed_tup (ea4 (ed_op (ed_var rfl) ed_int (rd_I0 fun _ => .int _)) (ed_cb (ea1 (ed_revL (ed_var rfl))) rc_tupL) (ed_cb (ea1 (ed_revL (ed_var rfl))) rc_tupL) (ed_var rfl)) (le5 rfl)) ?_))))
    generalize (bendsAt (n / msN q / q ^ (ds.length - 1)) ds.reverse : List (List (F q)) × Nat) = bb at hleft ⊢
    show PyData.tuple [.int ((bb.2 : Int) - 1), .tuple (bb.1.map tD).reverse, .tuple ((digs (n / msN q) (ds.length - 1) : List (F q)).map nD).reverse, _] = PyData.tuple [.int (oI (toR bb.2 : Option (F q))), .tuple (bb.1.reverse.map tD), .tuple ((digs (n / msN q) (ds.length - 1) : List (F q)).reverse.map nD), _]
    rw [List.map_reverse, List.map_reverse]
    congr 2
    unfold toR
    by_cases z : bb.2 = 0
    · rw [if_pos z, z]
      rfl
    · rw [if_neg z]
      show PyData.int _ = PyData.int (((bb.2 - 1) % q : Nat) : Int)
      rw [Nat.mod_eq_of_lt (by omega)]
      congr 1
      omega
end
end K19

/-! TEXT K19R4 -/
set_option Elab.async false
set_option linter.all false
set_option maxRecDepth 100000
set_option maxHeartbeats 2000000
set_option autoImplicit false
/-! FURTHER RULES, 4: dicts with tuple keys: the display, dict(pairs), reading by any tuple. -/
namespace K19
open PySem PySem.Spec PyProof.Rows L2
open Evl (Ex)
/-- keys, their tuples' places, values, stored one behind another -/
def mergeT (kvs : List (List Key × V)) (more : List (List Key × Addr × V)) : List (List Key × V) := more.foldl (fun acc x => putK acc x.1 x.2.2) kvs
theorem mergeT_len (more : List (List Key × Addr × V)) : ∀ kvs : List (List Key × V), (mergeT kvs more).length ≤ kvs.length + more.length := by
  induction more with
  | nil => exact fun kvs => Nat.le_refl _
  | cons x more ih =>
    intro kvs
    have h1 := ih (putK kvs x.1 x.2.2)
    have h2 := length_putK kvs x.1 x.2.2
    show (mergeT (putK kvs x.1 x.2.2) more).length ≤ _
    rw [List.length_cons]
    omega
theorem kt_merge {H : Hp} : ∀ {more : List (List Key × Addr × V)} {ps : List (List Key × Addr × Value)} {kvs : List (List Key × V)} {xs : List (List Key × Addr × Value)}, Paired (fun (x : List Key × Addr × V) (p : List Key × Addr × Value) => x.1 = p.1 ∧ x.2.1 = p.2.1 ∧ RelV x.2.2 p.2.2) more ps →
    (∀ x ∈ more, H x.2.1 = some (.tup (x.1.map kV))) → L2.KT H kvs xs → L2.KT H (mergeT kvs more) (storedAllH xs ps)
  | _, _, _, _, .nil, _, r => r
  | x :: more, p :: ps, kvs, xs, .cons h t, hk, r => by
    obtain ⟨e1, e2, e3⟩ := h
    have h1 := hk x List.mem_cons_self
    have r1 := r.put x.1 h1 e3
    rw [show storedH xs x.1 x.2.1 p.2.2 = storedH xs p.1 p.2.1 p.2.2 by rw [e1, e2]] at r1
    exact (kt_merge (more := more) (ps := ps) t (fun y hy => hk y (List.mem_cons_of_mem _ hy)) r1 : L2.KT H (mergeT (putK kvs x.1 x.2.2) more) (storedAllH (storedH xs p.1 p.2.1 p.2.2) ps))
theorem vv_refs : ∀ {kbs : List (List Key × Addr × V)} {ws : List (Value × Value)}, VV (kbs.map fun x => (V.ref x.2.1, x.2.2)) ws → ∃ ps : List (List Key × Addr × Value), ws = ps.map (fun p => (Value.ref p.2.1, p.2.2)) ∧ Paired (fun (x : List Key × Addr × V) (p : List Key × Addr × Value) => x.1 = p.1 ∧ x.2.1 = p.2.1 ∧ RelV x.2.2 p.2.2) kbs ps
  | [], _, r => by
    rw [List.map_nil] at r
    cases r
    exact ⟨[], rfl, .nil⟩
  | x :: kbs, _, r => by
    rw [List.map_cons] at r
    cases r with
    | @cons a b as bs h t =>
      obtain ⟨ps, e, q⟩ := vv_refs t
      obtain ⟨b1, b2⟩ := b
      have e1 : b1 = Value.ref x.2.1 := h.1
      subst e1
      exact ⟨(x.1, x.2.1, b2) :: ps, by rw [e]; rfl, .cons ⟨rfl, rfl, h.2⟩ q⟩
theorem carriesH_of {P : Program} {w : World} {H : Hp} {h : Heap} (ok : HOk P w H h) : ∀ {kbs : List (List Key × Addr × V)} {ps : List (List Key × Addr × Value)}, Paired (fun (x : List Key × Addr × V) (p : List Key × Addr × Value) => x.1 = p.1 ∧ x.2.1 = p.2.1 ∧ RelV x.2.2 p.2.2) kbs ps → (∀ x ∈ kbs, H x.2.1 = some (.tup (x.1.map kV))) →
    CarriesH (tupleKind (mixKind P w)) h (ps.map fun p => (Value.ref p.2.1, p.2.2)) ps
  | _, _, .nil, _ => trivial
  | x :: kbs, p :: ps, .cons q t, hk => by
    obtain ⟨e1, e2, _⟩ := q
    have h1 := hk x List.mem_cons_self
    rw [e1, e2] at h1
    exact ⟨rfl, rfl, key_of ok h1, carriesH_of ok t fun y hy => hk y (List.mem_cons_of_mem _ hy)⟩
section
variable {X : Cx}
/-- {t: v, ..}, the keys tuples -/
def tDispT (trs : List (TE × TE)) : TE := fun σ H Q => ∀ p, H p = none → tPairs trs σ (upd H p (.dT [])) fun ps H2 => H2 p = some (.dT []) ∧ ∃ kbs : List (List Key × Addr × V), ps = kbs.map (fun x => (V.ref x.2.1, x.2.2)) ∧ (∀ x ∈ kbs, H2 x.2.1 = some (.tup (x.1.map kV))) ∧ kbs.length ≤ 15 ∧ Q (.ref p) (upd H2 p (.dT (mergeT [] kbs)))
theorem pe_dispT {pos : Pos} {keys : List (Option Expr)} {values : List Expr} {trs : List (TE × TE)} (hu : X.A.units + 64 < cLine) (h : PPs X pos keys values trs) (hall : keys.all (·.isSome) = true) (hl : keys.length = values.length) (h0 : keys ≠ []) (h15 : keys.length ≤ 15) :
    PE X (.Dict keys values pos) (tDispT trs) := by
  refine ⟨fun pins s σ H Q I q => ?_⟩
  have hn := I.hok.fresh (Nat.le_refl s.heap.objs.size)
  have I1 := I.laid (a := s.heap.objs.size) (o := .dT []) (h' := s.heap.push { cls := .type "dict", data := .dict #[] }) (t' := s.toks) (fun _ _ q => Heap.get?_push_of_some _ q) (Nat.le_refl _) (dt_empty s.heap I.big)
  have pn := pairTrees_length keys values X.env pos hall hl
  have hr : (tupleKind (mixKind X.prog X.w)).room X.A := by
    show X.A.units < cLine
    omega
  rw [arm_eval_Dict, zip_pairTrees keys values X.env pos hall hl, dictDisplay_pairs _ (fun he => by
    rw [he] at pn
    exact h0 (List.length_eq_zero_iff.mp pn.symm)) (by rw [pn]; omega)]
  refine wpAny_bind (wpAny_standAt (wpAny_bind (wpAny_subDictH (knd := tupleKind (mixKind X.prog X.w)) (Q := fun d s' => wpAny (model X.prog X.w) X.A (pure (Value.ref d)) (EP X pins σ Q) X.xe s') hr (by rw [pn]; exact h15) (thn (h.run pins _ σ _ _ I1 (q _ hn)) fun ws s2 ⟨ps, H2, I2, rel, e, kbs, ep, hk, lk, q2⟩ => ?_))))
  subst ep
  obtain ⟨xs, ew, px⟩ := vv_refs rel
  subst ew
  obtain ⟨z, hd, xs0, r0, dd⟩ := dt_of I2.hok e
  cases r0
  refine ⟨xs, carriesH_of I2.hok px hk, dd, fun h' tk dd' hs => wpAny_pure ⟨.ref s.heap.objs.size, _, ?_, rfl, q2⟩⟩
  have hz : (mergeT [] kbs).length ≤ sizeLine := by
    have h1 := mergeT_len kbs []
    rw [List.length_nil] at h1
    rw [sizeLine_eq]
    omega
  obtain ⟨o, es, ep, ho, h2, h3, h4, h5, h6⟩ := dd'
  refine d_write (t' := tk) I2 (by rw [e]; exact True.intro) hs ⟨o, ho⟩ ⟨hz, hd, _, (kt_merge px hk .nil).keeps fun c ys ec => ?_, o, es, ep, ho, h2, h3, h4, h6⟩
  rw [upd_ne (ne_of ec e (fun z => nomatch z))]
  exact ec
/-- dict(xs) of a list of pairs (tuple, value) -/
def rDictT (K : PySem.W.Frag) : List V → Hp → VK → Prop := fun xs H Q => ∃ (a : Addr) (kbs : List (Addr × List Key × Addr × V)), xs = [.ref a] ∧ SqL K H a (kbs.map fun x => V.ref x.1) ∧ (∀ x ∈ kbs, SqT K H x.1 [.ref x.2.2.1, x.2.2.2] ∧ H x.2.2.1 = some (.tup (x.2.1.map kV))) ∧
  ∀ p, H p = none → Q (.ref p) (upd H p (.dT (mergeT [] (kbs.map (·.2)))))
theorem pairs_in {pins : List (Addr × Obj)} {σ : L2.St} {H : Hp} {s : Shared} (I : Inv X pins σ H s) : ∀ (kbs : List (Addr × List Key × Addr × V)), (∀ x ∈ kbs, SqT X.K H x.1 [.ref x.2.2.1, x.2.2.2] ∧ H x.2.2.1 = some (.tup (x.2.1.map kV))) →
    ∃ ps : List (List Key × Addr × Value), Paired (fun (x : List Key × Addr × V) (p : List Key × Addr × Value) => x.1 = p.1 ∧ x.2.1 = p.2.1 ∧ RelV x.2.2 p.2.2) (kbs.map (·.2)) ps ∧ ∀ (j : Nat) (x : Addr × List Key × Addr × V) (p : List Key × Addr × Value), kbs[j]? = some x → ps[j]? = some p → PairAt s.heap x.1 (.ref p.2.1) p.2.2
  | [], _ => ⟨[], .nil, fun j x p e => by simp at e⟩
  | x :: kbs, h => by
    obtain ⟨ps, h1, h2⟩ := pairs_in I kbs fun y hy => h y (List.mem_cons_of_mem _ hy)
    obtain ⟨hx, _⟩ := h x List.mem_cons_self
    obtain ⟨its, r, pl, _⟩ := I.tuple hx
    cases r with
    | cons r1 t1 =>
      cases t1 with
      | cons r2 t2 =>
        cases t2
        cases r1
        rename_i u2
        refine ⟨(x.2.1, x.2.2.1, u2) :: ps, .cons ⟨rfl, rfl, r2⟩ h1, fun j y p e1 e2 => ?_⟩
        cases j with
        | zero =>
          cases e1
          cases e2
          exact .inl pl
        | succ j => exact h2 j y p (by simpa using e1) (by simpa using e2)
theorem call_dictT (hc : X.calm = true) (hu : X.A.units + 64 < cLine) : CallR X (.type "dict") (rDictT X.K) := by
  intro pins s σ H xs us Q I r h
  obtain ⟨a, kbs, rfl, hq, hk, q⟩ := h
  obtain ⟨u, rfl, rx⟩ := vals1 r
  cases rx
  obtain ⟨its, rv, pl, hz⟩ := I.list hq
  obtain ⟨ps, px, hp⟩ := pairs_in I kbs hk
  have hlen : ps.length = kbs.length := by
    have := Paired.length px
    rw [List.length_map] at this
    exact this.symm
  have hil : its.length = kbs.length := by
    have := rv.length
    rw [List.length_map] at this
    exact this.symm
  rw [List.length_map] at hz
  have hits : ∀ (j : Nat) (x : Addr × List Key × Addr × V), kbs[j]? = some x → its[j]? = some (.ref x.1) := fun j x e => by
    obtain ⟨u, h1, h2⟩ := rv.get (i := j) (x := V.ref x.1) (by rw [List.getElem?_map, e]; rfl)
    cases h2
    exact h1
  obtain ⟨o, n, ho, hcl, hdd, hdat⟩ := pl
  have PI : PairItems s.heap its.toArray (fun j => (kbs.getD j (0, [], 0, .non)).1) (ps.map fun p => (Value.ref p.2.1, p.2.2)) := by
    refine ⟨by rw [List.size_toArray, List.length_map, hil, hlen], fun j k v e => ?_⟩
    rw [List.getElem?_map] at e
    cases ep : ps[j]? with
    | none => rw [ep] at e; cases e
    | some p =>
      rw [ep] at e
      cases e
      have hj : j < kbs.length := by
        have := (List.getElem?_eq_some_iff.mp ep).1
        omega
      have ex := List.getElem?_eq_getElem hj
      have eg : (kbs.getD j (0, [], 0, .non)) = kbs[j] := by
        rw [List.getD_eq_getElem?_getD, ex]
        rfl
      dsimp only
      rw [eg]
      refine ⟨?_, hp j _ _ ex ep⟩
      rw [List.getElem?_toArray]
      exact hits j _ ex
  have PA := PairArg.list (prog := X.prog) (w := X.w) a its.toArray (fun j => (kbs.getD j (0, [], 0, .non)).1) (ps.map fun p => (Value.ref p.2.1, p.2.2))
  rw [List.length_map] at PA
  have hmem : ∀ p ∈ ps, H p.2.1 = some (.tup (p.1.map kV)) := by
    have aux : ∀ {ms : List (List Key × Addr × V)} {ps : List (List Key × Addr × Value)}, Paired (fun (x : List Key × Addr × V) (p : List Key × Addr × Value) => x.1 = p.1 ∧ x.2.1 = p.2.1 ∧ RelV x.2.2 p.2.2) ms ps → (∀ x ∈ ms, H x.2.1 = some (.tup (x.1.map kV))) → ∀ p ∈ ps, H p.2.1 = some (.tup (p.1.map kV)) := by
      intro ms ps r
      induction r with
      | nil => intro _ p hp; cases hp
      | @cons x p xs ps h t ih =>
        intro hx y hy
        rcases List.mem_cons.mp hy with rfl | hy
        · have := hx x List.mem_cons_self
          rw [h.1, h.2.1] at this
          exact this
        · exact ih (fun z hz => hx z (List.mem_cons_of_mem _ hz)) y hy
    refine aux px fun x hx => ?_
    obtain ⟨y, hy, rfl⟩ := List.mem_map.mp hx
    exact (hk y hy).2
  refine call_dict_pairsH (knd := tupleKind (mixKind X.prog X.w)) (ps := ps) PA (I.ok.hd hc) (by show X.A.in1.in1.units < cLine; show X.A.units + 1 + 1 < cLine; omega) ⟨⟨o, n, ho, hcl, hdd, hdat⟩, PI⟩ ⟨rfl, fun i key v e => ?_⟩ (fun h' hkeep x hx => ?_) (by rw [hlen]; exact hz) fun h' tk dd' hkeep => ?_
  · have e : (ps.map fun p => (Value.ref p.2.1, p.2.2))[i]? = some (key, v) := e
    rw [List.getElem?_map] at e
    cases ep : ps[i]? with
    | none => rw [ep] at e; cases e
    | some p =>
      rw [ep] at e
      cases e
      exact ⟨p.1, p.2.1, rfl, rfl⟩
  · obtain ⟨o2, its2, n2, g1, g2, g3, g4⟩ := key_of I.hok (hmem x hx)
    exact ⟨o2, its2, n2, hkeep _ _ (Nat.ne_of_lt (Heap.lt_size g1)) (fun z => nomatch z) g1, g2, g3, g4⟩
  · have hm : (s.heap.objs.size == sysModules) = false := beq_eq_false_iff_ne.mpr (Nat.ne_of_gt I.big)
    have hl2 : (mergeT [] (kbs.map (·.2))).length ≤ sizeLine := by
      refine Nat.le_trans (mergeT_len _ []) ?_
      rw [List.length_nil, Nat.zero_add, List.length_map]
      exact hz
    obtain ⟨o3, es, ep, g1, g2, g3, g4, g5, g6⟩ := dd'
    have hnew := I.hok.fresh (Nat.le_refl s.heap.objs.size)
    have kt := kt_merge (H := H) px (fun x hx => by
      obtain ⟨y, hy, rfl⟩ := List.mem_map.mp hx
      exact (hk y hy).2) (.nil : L2.KT H [] [])
    refine ⟨.ref s.heap.objs.size, upd H s.heap.objs.size (.dT (mergeT [] (kbs.map (·.2)))), I.laid (t' := tk) (fun b o e => hkeep b o (fun z => nomatch z) e) (Nat.le_refl _) ⟨hl2, hm, _, kt.keeps fun c ys ec => ?_, o3, es, ep, g1, g2, g3, g4, g6⟩, rfl, q _ hnew⟩
    rw [upd_ne (ne_of_none ec hnew)]
    exact ec
/-! ### reading by any tuple -/
def DGetS (K : PySem.W.Frag) (H : Hp) (a : Addr) (y : V) (r : Option V) : Prop := ∃ kvs k b, L2.Rd H a (.dT kvs) ∧ y = .ref b ∧ SqT K H b (k.map kV) ∧ r = valV kvs k
theorem key_any {pins : List (Addr × Obj)} {σ : L2.St} {H : Hp} {s : Shared} {ks : List Key} {b : Addr} (I : Inv X pins σ H s) (h : SqT X.K H b (ks.map kV)) : (tupleKind (mixKind X.prog X.w)).is s.heap ks b := by
  obtain ⟨its, r, ⟨o, h1, h2, n, h3⟩, _⟩ := I.tuple h
  exact ⟨o, its.toArray, n, h1, h2, h3, by simpa using items_are r⟩
def tDGetS (K : PySem.W.Frag) (td ty : TE) : TE := fun σ H Q => td σ H fun x H1 => ty σ H1 fun y H2 => ∃ a v, x = .ref a ∧ DGetS K H2 a y (some v) ∧ Q v H2
theorem pe_dgetS {K : PySem.W.Frag} {o i : Expr} {pos : Pos} {td ty : TE} (hK : X.K = K) (hu : X.A.units + 1 < cLine) (ho : PE X o td) (hi : PE X i ty) (hs : NoSl i) : PE X (.Subscript o i pos) (tDGetS K td ty) := by
  subst hK
  refine ⟨fun pins s σ H Q I h => ?_⟩
  refine subD_of PySem.F.slot_dict_getitem.lookup hs (thn (ho.run pins s σ H _ I h) fun u s1 ⟨x, H1, I1, rx, q1⟩ => thn (hi.run pins s1 σ H1 _ I1 q1) fun iv s2 ⟨y, H2, I2, ry, a, v, ex, g, q2⟩ => ?_)
  subst ex
  obtain rfl : u = Value.ref a := rx
  obtain ⟨kvs, k, b, e, ey, eb, l⟩ := g
  subst ey
  cases (show iv = Value.ref b from ry)
  obtain ⟨z, hd, xs, rel, dd⟩ := dt_rd I2.hok e
  obtain ⟨w', hw, rw'⟩ := RelO.some_of (v := v) (o := (atKey xs k).map (·.2)) (by rw [l]; exact rel.val k)
  obtain ⟨p, hp, hp2⟩ := Option.map_eq_some_iff.mp hw
  refine ⟨dd.typeIs, wpAny_getItem_heap (tupleKind_room_in1 hu) (key_any I2 eb) dd hp ?_⟩
  rw [hp2]
  exact ⟨v, H2, I2.tok _, rw', q2⟩
def tDGet2S (K : PySem.W.Frag) (td ty tx : TE) : TE := fun σ H Q => td σ H fun x H1 => ∃ a, x = .ref a ∧ IsD H1 a ∧ ty σ H1 fun y H2 => tx σ H2 fun z H3 => ∃ o, DGetS K H3 a y o ∧ Q (o.getD z) H3
theorem pe_dget2S {o e f : Expr} {apos cpos : Pos} {td ty tx : TE} (hu : X.A.units + 1 < cLine) (ho : PE X o td) (he : PE X e ty) (hf : PE X f tx) (m : M2 X o "get" apos e f cpos) : PE X (.Call (.Attribute o "get" apos) [e, f] [] cpos) (tDGet2S X.K td ty tx) := by
  refine ⟨fun pins s σ H Q I h => ?_⟩
  refine wpAny_Call_method m.base m.few m.line PySem.F.plainAttrs_dict PySem.F.slot_dict_get PySem.F.type_dict_get (thn (ho.run pins s σ H _ I h) fun u s1 ⟨x, H1, I1, rx, a, ex, d, q1⟩ => ?_)
  subst ex
  obtain rfl : u = Value.ref a := rx
  obtain ⟨t1, t2, _⟩ := isD_at I1 d
  refine ⟨t1, t2, ?_⟩
  rw [m.trees]
  refine Calls.callWith_builtin rfl (Calls.evalArgs_plain (Calls.spliced_cons (thn (he.run pins s1 σ H1 _ I1 q1) fun iv s2 ⟨y, H2, I2, ry, q2⟩ => Calls.spliced_cons (thn (hf.run pins s2 σ H2 _ I2 q2) fun fv s3 ⟨z, H3, I3, rz, ov, g, q3⟩ => Calls.spliced_nil ?_))))
  obtain ⟨kvs, k, b, e, ey, eb, l⟩ := g
  subst ey
  cases (show iv = Value.ref b from ry)
  obtain ⟨_, hd, xs, rel, dd⟩ := dt_rd I3.hok e
  refine call_meetsIn PySem.F.slot_dict_get dd.typeIs PySem.F.entry_dict_get (PySem.F.args_dict_get_3 _ _ _) (meetsH_dict_get_default (tupleKind (mixKind X.prog X.w)) a b hd fv) ⟨tupleKind_room_in1 hu, k, xs, key_any I3 eb, dd, ?_⟩
  refine ⟨ov.getD z, H3, I3.tok _, ?_, q3⟩
  rw [l]
  exact (rel.val k).getD rz
end
end K19

/-! TEXT K19R5 -/
set_option Elab.async false
set_option linter.all false
set_option maxRecDepth 100000
set_option maxHeartbeats 2000000
set_option autoImplicit false
/-! FURTHER RULES, 5: sorted(rows of ints); comprehensions whose items are told by any relation; dicts of the def's own. -/
namespace K19
open PySem PySem.Spec PyProof.Rows L2
open Evl (Ex)
/-! ### sorted -/
def leD (x y : PyData) : Bool := PySem.W.dataLe false id x y
section
variable {X : Cx}
def rSortD (K : PySem.W.Frag) : List V → Hp → VK → Prop := fun vs H Q => ∃ (a : Addr) (bs : List (V × PyData)), vs = [.ref a] ∧ SqL K H a (bs.map Prod.fst) ∧ (∀ b ∈ bs, Dp K H b.1 b.2) ∧ (∀ b ∈ bs, ∃ i j c : Int, b.2 = .tuple [.int i, .int j, .int c]) ∧ bs.length ≤ 100000 ∧
  ∀ p, H p = none → Q (.ref p) (upd H p (.lst ((bs.mergeSort fun x y => leD x.2 y.2).map Prod.fst)))
theorem eachV : ∀ {bs : List (V × PyData)} {us : List Value}, Vals (bs.map Prod.fst) us → PySem.W.EachIs (fun u (b : V × PyData) => L2.RelV b.1 u) us bs
  | [], _, h => by
    cases h
    exact .nil
  | b :: bs, _, h => by
    cases h with
    | cons r t => exact .cons r (eachV t)
theorem valsE : ∀ {bs : List (V × PyData)} {us : List Value}, PySem.W.EachIs (fun u (b : V × PyData) => L2.RelV b.1 u) us bs → Vals (bs.map Prod.fst) us
  | _, _, .nil => .nil
  | _, _, .cons r t => .cons r (valsE t)
theorem eachR {pins : List (Addr × Obj)} {σ : L2.St} {H : Hp} {s : Shared} (I : Inv X pins σ H s) : ∀ {bs : List (V × PyData)} {us : List Value}, Vals (bs.map Prod.fst) us → (∀ b ∈ bs, Dp X.K H b.1 b.2) → PySem.W.EachIs (fun u (b : V × PyData) => ∃ as, Reads s.heap u b.2 as) us bs
  | [], _, h, _ => by
    cases h
    exact .nil
  | b :: bs, _, h, hd => by
    cases h with
    | cons r t => exact .cons (Dp.reads I b.2 b.1 _ (hd b List.mem_cons_self) r) (eachR I t fun x hx => hd x (List.mem_cons_of_mem _ hx))
theorem cr_sortD {K : PySem.W.Frag} (hK : X.K = K) (hu : X.A.units + 64 < cLine) : CallR X (.builtin "sorted") (rSortD K) := by
  subst hK
  intro pins s σ H vs us Q I r h
  obtain ⟨a, bs, rfl, hs, hd, ht, hl, q⟩ := h
  obtain ⟨its, rv, pl, _⟩ := I.list hs
  obtain ⟨u, rfl, ru⟩ := vals1 r
  cases ru
  have hmem : ∀ d ∈ bs.map Prod.snd, ∃ i j c : Int, d = .tuple [.int i, .int j, .int c] := fun d hd => by
    obtain ⟨b, hb, rfl⟩ := List.mem_map.mp hd
    exact ht b hb
  refine PySem.W.sorted_data (enc := Prod.snd) pl.isList (eachV rv) (eachR I rv hd) (fun d hd d' hd' => ?_) (.inl fun d hd => ?_) (Nat.le_trans hl (by decide)) (fun b hb => ?_) fun out hlen ho => ?_
  · obtain ⟨i, j, c, rfl⟩ := hmem d hd
    obtain ⟨i', j', c', rfl⟩ := hmem d' hd'
    simp [PySem.W.alike, PySem.W.alikeAll]
  · obtain ⟨i, j, c, rfl⟩ := hmem d hd
    exact ⟨_, _, rfl⟩
  · obtain ⟨i, j, c, e⟩ := ht b hb
    rw [e]
    have : (PyData.tuple [.int i, .int j, .int c]).depth = 1 := by simp [PyData.depth, PyData.depthAll]
    rw [this]
    omega
  · obtain ⟨ep, he'⟩ := PyProof.Rows.sortedAll_at s.heap its out.toArray
    have e1 : (bs.mergeSort (PySem.W.dataLe false Prod.snd)) = bs.mergeSort fun x y => leD x.2 y.2 := rfl
    rw [e1] at ho
    have hl2 : ((bs.mergeSort fun x y => leD x.2 y.2).map Prod.fst).length ≤ sizeLine := by
      rw [List.length_map, List.length_mergeSort]
      exact Nat.le_trans hl (by decide)
    exact ⟨.ref _, upd H (s.heap.objs.size + 1) (.lst ((bs.mergeSort fun x y => leD x.2 y.2).map Prod.fst)), I.laid (t' := s.toks) (fun _ _ => PyProof.Rows.sortedAll_old) (Nat.le_succ _) ⟨hl2, out, ep, valsE ho, he'⟩, rfl, q _ (I.hok.fresh (Nat.le_succ _))⟩
end
section
variable {K : PySem.W.Frag} {ρ ρ' : Ro} {xs ys ds : List PyData} {te tb : TE} {d : PyData}
theorem dpA_mem {H : Hp} : ∀ {vs : List V} {ds : List PyData}, DpAll K H vs ds → ∀ b ∈ vs.zip ds, Dp K H b.1 b.2
  | _, _, .nil, b, hb => by cases hb
  | _, _, .cons h t, b, hb => by
    rcases List.mem_cons.mp hb with rfl | hb
    · exact h
    · exact dpA_mem t b hb
theorem dpA_of {H : Hp} : ∀ {bs : List (V × PyData)}, (∀ b ∈ bs, Dp K H b.1 b.2) → DpAll K H (bs.map Prod.fst) (bs.map Prod.snd)
  | [], _ => .nil
  | b :: bs, h => .cons (h b List.mem_cons_self) (dpA_of fun x hx => h x (List.mem_cons_of_mem _ hx))
theorem zip_fst {vs : List V} {ds : List PyData} (h : vs.length = ds.length) : (vs.zip ds).map Prod.fst = vs := by
  rw [List.map_fst_zip]
  omega
theorem zip_snd {vs : List V} {ds : List PyData} (h : vs.length = ds.length) : (vs.zip ds).map Prod.snd = ds := by
  rw [List.map_snd_zip]
  omega
theorem rc_sortD (ht : ∀ d ∈ ds, ∃ i j c : Int, d = .tuple [.int i, .int j, .int c]) (hl : ds.length ≤ 100000) : RdC K (rSortD K) [.list ds] (.list (ds.mergeSort leD)) := fun vs D H s p Q q => by
  obtain ⟨v, rfl, p1⟩ := dpA1 p
  obtain ⟨a, ws, rfl, h1, h2⟩ := dp_lst p1
  have el := dpA_len h2
  have e2 : ((ws.zip ds).mergeSort fun x y => leD x.2 y.2).map Prod.snd = ds.mergeSort leD := by
    rw [List.map_mergeSort (s := leD) (fun a _ b _ => rfl), zip_snd el]
  refine ⟨a, ws.zip ds, rfl, by rw [zip_fst el]; exact Evl.ex_l s h1, fun b hb => dpX s (dpA_mem h2 b hb), fun b hb => ht _ (List.of_mem_zip hb).2, by rw [List.length_zip]; omega, fun l hl2 => ?_⟩
  have hm : DpAll K D (((ws.zip ds).mergeSort fun x y => leD x.2 y.2).map Prod.fst) (((ws.zip ds).mergeSort fun x y => leD x.2 y.2).map Prod.snd) := dpA_of fun b hb => dpA_mem h2 b (List.mem_mergeSort.mp hb)
  rw [e2] at hm
  exact q (.ref l) _ _ (Stp.new s hl2) (.lst (SqL.of upd_same) (dpA (Ex.new (Evl.fresh_back s hl2)) hm))

/-! ### comprehensions, any relation -/
/-- a relation of values and data that stays as the data heap grows -/
structure Rl where
  r : Hp → V → PyData → Prop
  mono : ∀ {D D' : Hp} {v : V} {d : PyData}, Ex D D' → r D v d → r D' v d
def EdG (R : Rl) (K : PySem.W.Frag) (te : TE) (ρ : Ro) (d : PyData) : Prop := ∀ (σ : L2.St) (D H0 H : Hp), Ex D H → Sl K σ D H0 H ρ → ∀ Q : VK, (∀ v D' H', Stp D H D' H' → R.r D' v d → Q v H') → te σ H Q
inductive RlA (R : Rl) (D : Hp) : List V → List PyData → Prop
  | nil : RlA R D [] []
  | cons {v : V} {d : PyData} {vs : List V} {ds : List PyData} : R.r D v d → RlA R D vs ds → RlA R D (v :: vs) (d :: ds)
theorem RlA.mono {R : Rl} {D D' : Hp} (e : Ex D D') : ∀ {vs : List V} {ds : List PyData}, RlA R D vs ds → RlA R D' vs ds
  | _, _, .nil => .nil
  | _, _, .cons h t => .cons (R.mono e h) (RlA.mono e t)
theorem RlA.len {R : Rl} {D : Hp} : ∀ {vs : List V} {ds : List PyData}, RlA R D vs ds → vs.length = ds.length
  | _, _, .nil => rfl
  | _, _, .cons _ t => congrArg Nat.succ (RlA.len t)
theorem RlA.snoc {R : Rl} {D : Hp} {v : V} {d : PyData} (h : R.r D v d) : ∀ {vs : List V} {ds : List PyData}, RlA R D vs ds → RlA R D (vs ++ [v]) (ds ++ [d])
  | _, _, .nil => .cons h .nil
  | _, _, .cons a t => .cons a (RlA.snoc h t)
/-- a walk while the heap only grows -/
def WkH (K : PySem.W.Frag) (J : It) (D H : Hp) (xs : List PyData) : Prop := ∀ D1 H1, Stp D H D1 H1 → (∀ (i : Nat) (x : PyData), xs[i]? = some x → J.go i H1 ∧ ∀ v H', J.yld i H1 v H' → ∃ D', Stp D1 H1 D' H' ∧ Dp K D' v x) ∧ J.stop xs.length H1
def EdIH (K : PySem.W.Frag) (wi : TI) (ρ : Ro) (xs : List PyData) : Prop := ∀ (σ : L2.St) (D H0 H : Hp), Ex D H → Sl K σ D H0 H ρ → ∀ R : It → Hp → Prop, (∀ J D' H', Stp D H D' H' → WkH K J D' H' xs → R J H') → wi σ H R
theorem EdI.h {wi : TI} (h : EdI K wi ρ xs) : EdIH K wi ρ xs := fun σ D H0 H s sl R q => h σ D H0 H s sl R fun J D' H' t w => q J D' H' t fun D1 H1 u => w D1 H1 u.d u.s
theorem ed_lcG {R : Rl} {wi : TI} {g : TG} {tt : TT} {vs : List Nat} (p : PyData → Bool) (f : PyData → PyData) (hw : EdIH K wi ρ xs) (hl : xs.length ≤ 100000)
    (hs : ∀ (i : Nat) (x : PyData), xs[i]? = some x → ∃ ρ' is, Bd K g x (wipeR ρ vs) ρ' is ∧ (∀ j ∈ is, j ∈ vs) ∧ EdT K tt ρ' (p x) ∧ (p x = true → EdG R K te ρ' (f x))) :
    ∀ (σ : L2.St) (D H0 H : Hp), Ex D H → Sl K σ D H0 H ρ → ∀ Q : VK, (∀ L ws D' H', Stp D H D' H' → D' L = none → H L = none → H' L = some (.lst ws) → RlA R D' ws (keep p f xs) → Q (.ref L) H') → tLc wi g tt te vs σ H Q := fun σ D H0 H s sl Q q =>
  hw σ D H0 H s sl _ fun J D1 H1 t1 wk L hL => by
    have hLD : D1 L = none := Evl.fresh_back t1.s hL
    have hL0 : H L = none := by
      cases e : H L with
      | none => rfl
      | some u =>
        have := t1.h L u e
        rw [hL] at this
        cases this
    refine ⟨fun i m H2 => m = xs.length - i ∧ i ≤ xs.length ∧ ∃ D2 acc, Stp D1 H1 D2 H2 ∧ D2 L = none ∧ H2 L = some (.lst acc) ∧ RlA R D2 acc (keep p f (xs.take i)), ⟨_, rfl, Nat.zero_le _, D1, [], Stp.tmp t1.s hL, hLD, upd_same, .nil⟩, ?_⟩
    rintro i m H2 ⟨rfl, hi, D2, acc, u1, u2, u3, u4⟩
    obtain ⟨w1, w2⟩ := wk D2 H2 u1
    by_cases hlt : i < xs.length
    · have hx := List.getElem?_eq_getElem hlt
      obtain ⟨w3, w4⟩ := w1 i _ hx
      refine .inr ⟨w3, fun H3 => ∃ D3 acc, Stp D1 H1 D3 H3 ∧ D3 L = none ∧ H3 L = some (.lst acc) ∧ RlA R D3 acc (keep p f (xs.take (i + 1))), fun H3 h3 => ⟨_, by omega, rfl, hlt, h3⟩, fun v H3 hy => ?_⟩
      obtain ⟨D3, t3, pv⟩ := w4 v H3 hy
      obtain ⟨ρ', is, b1, b2, b3, b4⟩ := hs i _ hx
      have n3 : D3 L = none := t3.n L _ u3 (fun _ z => nomatch z) u2
      have l3 : H3 L = some (.lst acc) := t3.h L _ u3
      refine b1 v _ D3 H0 H3 t3.s ((sl.mono ((t1.tr u1).tr t3)).wipe vs) pv _ fun σ' s1 s2 s3 => ⟨?_, ?_⟩
      · have z : L2.wipe σ' vs = L2.wipe (L2.wipe σ vs) vs := wipe_in s2 fun j hj => s3 j fun hj2 => hj (b2 j hj2)
        rw [z]
        exact wipe_in (wipe_length σ vs) fun j hj => wipe_out hj
      · refine b3 σ' D3 H0 H3 t3.s s1 _ fun D4 H4 t4 => ?_
        have n4 : D4 L = none := t4.n L _ l3 (fun _ z => nomatch z) n3
        have l4 : H4 L = some (.lst acc) := t4.h L _ l3
        cases hp : p xs[i] with
        | false =>
          rw [if_neg Bool.false_ne_true]
          refine ⟨D4, acc, (u1.tr t3).tr t4, n4, l4, ?_⟩
          rw [keep_take hx, if_neg (by rw [hp]; exact Bool.false_ne_true)]
          exact u4.mono (t3.d.trans t4.d)
        | true =>
          rw [if_pos rfl]
          refine b4 hp σ' D4 H0 H4 t4.s (s1.mono t4) _ fun y D5 H5 t5 p5 => ?_
          have n5 : D5 L = none := t5.n L _ l4 (fun _ z => nomatch z) n4
          have l5 : H5 L = some (.lst acc) := t5.h L _ l4
          have la : acc.length < sizeLine := by
            have h1 := u4.len
            have h2 := keep_len p f (xs.take i)
            rw [List.length_take] at h2
            exact Nat.lt_of_lt_of_le (show acc.length < 100001 by omega) (by decide)
          have t := ((u1.tr t3).tr t4).tr t5
          refine ⟨acc, l5, la, D5, acc ++ [y], ⟨t.d, t.h.mut hL, t.s.mut n5, t.n⟩, n5, upd_same, ?_⟩
          rw [keep_take hx, if_pos hp]
          exact RlA.snoc p5 (u4.mono ((t3.d.trans t4.d).trans t5.d))
    · have ei : i = xs.length := by omega
      subst ei
      refine .inl ⟨w2, ?_⟩
      rw [List.take_length] at u4
      exact q L acc D2 H2 (t1.tr u1) u2 hL0 u3 u4
def rlD (K : PySem.W.Frag) : Rl := ⟨fun D v d => Dp K D v d, fun e h => dpX e h⟩
theorem rlA_dp {D : Hp} : ∀ {vs : List V} {ds : List PyData}, RlA (rlD K) D vs ds → DpAll K D vs ds
  | _, _, .nil => .nil
  | _, _, .cons h t => .cons h (rlA_dp t)
/-- a comprehension over a walk that the heap's growth alone keeps -/
theorem en_lcH {wi : TI} {g : TG} {tt : TT} {vs : List Nat} (p : PyData → Bool) (f : PyData → PyData) (hw : EdIH K wi ρ xs) (hl : xs.length ≤ 100000)
    (hs : ∀ (i : Nat) (x : PyData), xs[i]? = some x → ∃ ρ' is, Bd K g x (wipeR ρ vs) ρ' is ∧ (∀ j ∈ is, j ∈ vs) ∧ EdT K tt ρ' (p x) ∧ (p x = true → Ed K te ρ' (f x))) : Ed K (tLc wi g tt te vs) ρ (.list (keep p f xs)) := fun σ D H0 H s sl Q q =>
  ed_lcG (R := rlD K) p f hw hl hs σ D H0 H s sl Q fun L ws D' H' t n hL l a =>
    q (.ref L) (upd D' L (.lst ws)) H' ⟨t.d.trans (Ex.new n), t.h, fun b u e => by
      by_cases z : b = L
      · subst z
        rw [upd_same] at e
        rw [l]
        exact e
      · rw [upd_ne z] at e
        exact t.s b u e, fun b u h1 h2 h3 => by
      by_cases z : b = L
      · subst z
        rw [hL] at h1
        cases h1
      · rw [upd_ne z]
        exact t.n b u h1 h2 h3⟩ (.lst (SqL.of upd_same) (dpA (Ex.new n) (rlA_dp a)))
end
end K19

/-! TEXT K19R6 -/
set_option Elab.async false
set_option linter.all false
set_option maxRecDepth 100000
set_option maxHeartbeats 2000000
set_option autoImplicit false
/-! FURTHER RULES, 6: dicts of the def's own. -/
namespace K19
open PySem PySem.Spec PyProof.Rows L2
open Evl (Ex)
abbrev KVD := List (List Int × PyData)
def lkD (s : KVD) (k : List Int) : Option PyData := (s.find? fun x => decide (x.1 = k)).map Prod.snd
def putD (s : KVD) (k : List Int) (d : PyData) : KVD := if (s.any fun x => decide (x.1 = k)) = true then s.map (fun x => if x.1 = k then (x.1, d) else x) else s ++ [(k, d)]
theorem putD_len (s : KVD) (k : List Int) (d : PyData) : (putD s k d).length ≤ s.length + 1 := by
  unfold putD
  split <;> simp
abbrev kT (k : List Int) : PyData := .tuple (k.map PyData.int)
theorem kI_kV (k : List Int) : (kI k).map kV = k.map V.int := by
  show (k.map Sum.inl).map kV = _
  rw [List.map_map]
  rfl
theorem kI_inj {k l : List Int} : kI k = kI l ↔ k = l := by
  constructor
  · intro h
    have aux : ∀ a b : List Int, a.map (Sum.inl (β := Str)) = b.map Sum.inl → a = b := fun a => by
      induction a with
      | nil =>
        intro b h
        cases b with
        | nil => rfl
        | cons x b => cases h
      | cons x a ih =>
        intro b h
        cases b with
        | nil => cases h
        | cons y b =>
          rw [List.map_cons, List.map_cons] at h
          injection h with h1 h2
          injection h1 with h1
          rw [h1, ih b h2]
    exact aux k l h
  · intro h
    rw [h]
section
variable {K : PySem.W.Frag} {D : Hp} {r : List (List Key × V)} {s : KVD}
theorem dicV_any (h : DicV K D r s) (k : List Int) : (r.any fun x => decide (x.1 = kI k)) = (s.any fun x => decide (x.1 = k)) := by
  induction h with
  | nil => rfl
  | @cons l v d r s p t ih =>
    rw [List.any_cons, List.any_cons, ih]
    congr 1
    exact decide_eq_decide.mpr kI_inj
theorem dicV_map (h : DicV K D r s) (k : List Int) {v : V} {d : PyData} (p : Dp K D v d) : DicV K D (r.map fun x => if x.1 = kI k then (x.1, v) else x) (s.map fun x => if x.1 = k then (x.1, d) else x) := by
  induction h with
  | nil => exact .nil
  | @cons l w e r s p2 t ih =>
    rw [List.map_cons, List.map_cons]
    by_cases z : l = k
    · subst z
      rw [if_pos rfl, if_pos rfl]
      exact .cons p ih
    · rw [if_neg (fun e => z (kI_inj.mp e)), if_neg z]
      exact .cons p2 ih
theorem dicV_snoc {k : List Int} {v : V} {d : PyData} (p : Dp K D v d) (h : DicV K D r s) : DicV K D (r ++ [(kI k, v)]) (s ++ [(k, d)]) := by
  induction h with
  | nil => exact .cons p .nil
  | cons p2 t ih => exact .cons p2 ih
theorem dicV_put (h : DicV K D r s) {k : List Int} {v : V} {d : PyData} (p : Dp K D v d) : DicV K D (putK r (kI k) v) (putD s k d) := by
  unfold putK putD
  rw [dicV_any h k]
  split
  · exact dicV_map h k p
  · exact dicV_snoc p h
theorem dicV_len (h : DicV K D r s) : r.length = s.length := by
  induction h with
  | nil => rfl
  | cons _ _ ih => rw [List.length_cons, List.length_cons, ih]
theorem dicV_look (h : DicV K D r s) (k : List Int) : match lkD s k with
    | none => valV r (kI k) = none
    | some d => ∃ v, valV r (kI k) = some v ∧ Dp K D v d := by
  induction h with
  | nil => rfl
  | @cons l v d r s p t ih =>
    by_cases z : l = k
    · subst z
      have e1 : lkD ((l, d) :: s) l = some d := by
        unfold lkD
        rw [List.find?_cons, decide_eq_true rfl]
        rfl
      rw [e1]
      exact ⟨v, valV_pos rfl, p⟩
    · have e1 : lkD ((l, d) :: s) k = lkD s k := by
        unfold lkD
        rw [List.find?_cons, decide_eq_false z]
      rw [e1, valV_neg (fun e => z (kI_inj.mp e))]
      exact ih
end
section
variable {K : PySem.W.Frag} {ρ ρ' : Ro} {xs ys ds : List PyData} {te tb tx ty tv : TE} {d : PyData} {s : KVD} {k : List Int}
/-- the dict at a slot, walked or not -/
def isDt (ρ : Ro) (i : Nat) (p : Addr) (s : KVD) : Prop := ρ[i]? = some (.own p (.dt s)) ∨ ρ[i]? = some (.own p (.ft s))
theorem dt_own {σ : L2.St} {D H0 H : Hp} {i : Nat} {p : Addr} (sl : Sl K σ D H0 H ρ) (h : isDt ρ i p s) : σ[i]? = some (some (.ref p)) ∧ ∃ r, L2.Rd H p (.dT r) ∧ DicV K D r s := by
  rcases h with h | h
  · obtain ⟨a, _, _, u, e, o⟩ := sl.own i p _ h
    cases o with
    | dt o => exact ⟨a, _, .inl e, o⟩
  · obtain ⟨a, _, _, u, e, o⟩ := sl.own i p _ h
    cases o with
    | ft o => exact ⟨a, _, .inr ⟨_, e⟩, o⟩
theorem key_S {H : Hp} {D : Hp} {v : V} (e : Ex D H) (p : Dp K D v (kT k)) : ∃ b, v = .ref b ∧ SqT K H b ((kI k).map kV) := by
  obtain ⟨b, vs, rfl, h1, h2⟩ := dp_tup p
  refine ⟨b, rfl, ?_⟩
  rw [kI_kV, ← dpA_ints h2]
  exact Evl.ex_t e h1
theorem ed_dgetO {i : Nat} {p : Addr} (hi : isDt ρ i p s) (h : Ed K ty ρ (kT k)) (hl : lkD s k = some d) : Ed K (tDGetS K (tVar i) ty) ρ d := fun σ D H0 H e sl Q q => by
  obtain ⟨a, _⟩ := dt_own sl hi
  refine ⟨_, a, h σ D H0 H e sl _ fun v D1 H1 t1 p1 => ?_⟩
  obtain ⟨_, r, hr, hd⟩ := dt_own (sl.mono t1) hi
  obtain ⟨b, rfl, hb⟩ := key_S t1.s p1
  have z := dicV_look hd k
  rw [hl] at z
  obtain ⟨w, z1, z2⟩ := z
  exact ⟨p, w, rfl, ⟨r, kI k, b, hr, rfl, hb, z1.symm⟩, q w D1 H1 t1 z2⟩
theorem ed_dget2O {i : Nat} {p : Addr} {d0 : PyData} (hi : isDt ρ i p s) (h : Ed K ty ρ (kT k)) (h0 : Ed K tx ρ d0) : Ed K (tDGet2S K (tVar i) ty tx) ρ ((lkD s k).getD d0) := fun σ D H0 H e sl Q q => by
  obtain ⟨a, r0, hr0, _⟩ := dt_own sl hi
  refine ⟨_, a, p, rfl, .inr ⟨r0, hr0⟩, h σ D H0 H e sl _ fun v D1 H1 t1 p1 => h0 σ D1 H0 H1 t1.s (sl.mono t1) _ fun w D2 H2 t2 p2 => ?_⟩
  obtain ⟨_, r, hr, hd⟩ := dt_own (sl.mono (t1.tr t2)) hi
  obtain ⟨b, rfl, hb⟩ := key_S t2.s (dpX t2.d p1)
  refine ⟨valV r (kI k), ⟨r, kI k, b, hr, rfl, hb, rfl⟩, q _ D2 H2 (t1.tr t2) ?_⟩
  have z := dicV_look hd k
  cases c : lkD s k with
  | none =>
    rw [c] at z
    rw [z]
    exact p2
  | some d =>
    rw [c] at z
    obtain ⟨u, z1, z2⟩ := z
    rw [z1]
    exact z2
theorem dtM_own {σ : L2.St} {D H0 H : Hp} {i : Nat} {p : Addr} (sl : Sl K σ D H0 H ρ) (h : ρ[i]? = some (.own p (.dt s))) : σ[i]? = some (some (.ref p)) ∧ D p = none ∧ ∃ r, H p = some (.dT r) ∧ DicV K D r s := by
  obtain ⟨a, b, _, u, e, o⟩ := sl.own i p _ h
  cases o with
  | dt o => exact ⟨a, b, _, e, o⟩
/-- f[i, j] = e -/
theorem run_dput {i : Nat} {p : Addr} {ta : TA} {t2 : TS} {r : Rs} (hi : ρ[i]? = some (.own p (.dt s))) (hv : Ed K tv ρ d) (hk : EdA K ta ρ (k.map PyData.int)) (hlk : k.length ≤ 1000) (hl : s.length < 100000) (hn : Run K t2 (ρ.set i (.own p (.dt (putD s k d)))) r) : Run K (tSeq (sDPut (tVar i) (tTup ta) tv) t2) ρ r := fun σ H0 D H E t sl q =>
  hv σ D H0 H t.s sl _ fun v D1 H1 t1 p1 => by
    obtain ⟨a, _⟩ := dtM_own (sl.mono t1) hi
    refine ⟨_, a, hk σ D1 H0 H1 t1.s (sl.mono t1) _ fun vs D2 H2 t2' p2 => ⟨sz100 (by rw [dpA_len p2, List.length_map]; omega), fun b hb => ?_⟩⟩
    have t3 := (t1.tr t2').tr (Stp.new (o := .tup vs) t2'.s hb)
    obtain ⟨_, _, r', hr, hd⟩ := dtM_own (sl.mono t3) hi
    have ev : vs = (kI k).map kV := by rw [kI_kV, dpA_ints p2]
    have hkey : upd H2 b (.tup vs) b = some (.tup ((kI k).map kV)) := by rw [upd_same, ev]
    obtain ⟨k1, k2⟩ := own_chg (t.go t3) (sl.mono t3) hi (OdV.dt (dicV_put hd (k := k) (dpX (t2'.d.trans (Ex.new (Evl.fresh_back t2'.s hb))) p1)))
    exact ⟨p, _, rfl, DPut.t hr hkey (Nat.lt_of_lt_of_le (by rw [dicV_len hd]; exact hl) (by decide)), hn σ H0 _ _ E k1 k2 (q.of (t.up t3))⟩
/-- spot = (..); f[spot] = e -/
theorem run_spot {i j : Nat} {p : Addr} {ta : TA} {t2 : TS} {r : Rs} (hij : i ≠ j) (hi : ρ[i]? = some (.own p (.dt s))) (hj : j < ρ.length) (hk : EdA K ta ρ (k.map PyData.int)) (hlk : k.length ≤ 1000) (hv : Ed K tv (ρ.set j (.dat (kT k))) d) (hl : s.length < 100000)
    (hn : Run K t2 ((ρ.set j (.dat (kT k))).set i (.own p (.dt (putD s k d)))) r) : Run K (tSeq (tAsg (tTup ta) (gName j)) (tSeq (sDPut (tVar i) (tVar j) tv) t2)) ρ r := fun σ H0 D H E t sl q =>
  hk σ D H0 H t.s sl _ fun vs D1 H1 t1 p1 => ⟨sz100 (by rw [dpA_len p1, List.length_map]; omega), fun b hb => by
    have t2' := t1.tr (Stp.new (o := .tup vs) t1.s hb)
    have pk : Dp K (upd D1 b (.tup vs)) (.ref b) (kT k) := .tup (SqT.of upd_same) (dpA (Ex.new (Evl.fresh_back t1.s hb)) p1)
    have s2 := (sl.mono t2').set j pk
    have hi2 : (ρ.set j (.dat (kT k)))[i]? = some (.own p (.dt s)) := by rw [List.getElem?_set_ne (Ne.symm hij)]; exact hi
    refine hv _ _ H0 _ t2'.s s2 _ fun v D3 H3 t3 p3 => ?_
    have s3 := s2.mono t3
    obtain ⟨a, _, r', hr, hd⟩ := dtM_own s3 hi2
    have ev : vs = (kI k).map kV := by rw [kI_kV, dpA_ints p1]
    have hkey : H3 b = some (.tup ((kI k).map kV)) := t3.h b _ (by rw [upd_same, ev])
    have t4 := t.go t2'
    obtain ⟨k1, k2⟩ := own_chg (t4.go t3) s3 hi2 (OdV.dt (dicV_put hd (k := k) p3))
    exact ⟨_, a, _, List.getElem?_set_self (by rw [sl.len]; exact hj), p, _, rfl, DPut.t hr hkey (Nat.lt_of_lt_of_le (by rw [dicV_len hd]; exact hl) (by decide)), hn _ H0 _ _ E k1 k2 (q.of ((t.up t2').tr0 (t4.up t3)))⟩⟩
/-! ### fresh things -/
def EdF (K : PySem.W.Frag) (te : TE) (ρ : Ro) (o : OD) : Prop := ∀ (σ : L2.St) (D H0 H : Hp), Ex D H → Sl K σ D H0 H ρ → ∀ Q : VK, (∀ p u D' H1, Stp D H D' H1 → H1 p = none → OdV K D' u o → Q (.ref p) (upd H1 p u)) → te σ H Q
theorem run_newF {i : Nat} {t2 : TS} {r : Rs} {o : OD} (h : EdF K te ρ o) (hn : ∀ p, Run K t2 (ρ.set i (.own p o)) r) : Run K (tSeq (tAsg te (gName i)) t2) ρ r := fun σ H0 D H E t sl q =>
  h σ D H0 H t.s sl _ fun p v D1 H1 t1 hp p1 => by
    have u := t.go t1
    exact hn p _ H0 D1 _ E ⟨Ex.refl D1, u.h.trans (Ex.new hp), u.s.trans (Ex.new hp), fun _ _ _ _ h => h⟩ ((sl.mono t1).new i u.h u.s hp p1) (q.of (t.up t1))
theorem run_retF {t2 : TS} {o : OD} (h : EdF K te ρ o) : Run K (tSeq (tRet te) t2) ρ (.ro o) := fun σ H0 D H E t sl q =>
  h σ D H0 H t.s sl _ fun p v D1 H1 t1 hp p1 => by
    have u := t.up t1
    refine q p D1 _ v ⟨u.d, u.h.trans (Ex.new hp), u.s.trans (Ex.new hp), u.n⟩ (Evl.fresh_back u.s hp) (Evl.fresh_back u.h hp) upd_same p1
theorem ef_dnewT : EdF K tDNewT ρ (.dt []) := fun σ D H0 H e sl Q q => fun p hp => q p _ D H (Stp.rfl' e) hp (.dt .nil)
/-- the pairs of a display -/
def EdP (K : PySem.W.Frag) (trs : List (TE × TE)) (ρ : Ro) (s : KVD) : Prop := ∀ (σ : L2.St) (D H0 H : Hp), Ex D H → Sl K σ D H0 H ρ → ∀ Q : List (V × V) → Hp → Prop, (∀ (kbs : List (List Key × Addr × V)) D' H', Stp D H D' H' → (∀ x ∈ kbs, D' x.2.1 = some (.tup (x.1.map kV))) → DicV K D' (kbs.map fun x => (x.1, x.2.2)) s → Q (kbs.map fun x => (V.ref x.2.1, x.2.2)) H') → tPairs trs σ H Q
theorem ep_nil : EdP K [] ρ [] := fun σ D H0 H e sl Q q => q [] D H (Stp.rfl' e) (fun x hx => absurd hx List.not_mem_nil) .nil
theorem ep_cons {ta : TA} {trs : List (TE × TE)} (hk : EdA K ta ρ (k.map PyData.int)) (hlk : k.length ≤ 1000) (hv : Ed K tv ρ d) (h : EdP K trs ρ s) : EdP K ((tTup ta, tv) :: trs) ρ ((k, d) :: s) := fun σ D H0 H e sl Q q =>
  hk σ D H0 H e sl _ fun vs D1 H1 t1 p1 => ⟨sz100 (by rw [dpA_len p1, List.length_map]; omega), fun b hb => by
    have t2 := t1.tr (Stp.new (o := .tup vs) t1.s hb)
    have ev : vs = (kI k).map kV := by rw [kI_kV, dpA_ints p1]
    refine hv σ _ H0 _ t2.s (sl.mono t2) _ fun v D3 H3 t3 p3 => h σ D3 H0 H3 t3.s (sl.mono (t2.tr t3)) _ fun kbs D4 H4 t4 a1 a2 => ?_
    refine q ((kI k, b, v) :: kbs) D4 H4 ((t2.tr t3).tr t4) (fun x hx => ?_) (.cons (dpX t4.d p3) a2)
    rcases List.mem_cons.mp hx with rfl | hx
    · exact t4.d b _ (t3.d b _ (by rw [upd_same, ev]))
    · exact a1 x hx⟩
/-- pairs stored one behind another -/
def putsD (acc more : KVD) : KVD := more.foldl (fun a x => putD a x.1 x.2) acc
theorem dicV_puts {D : Hp} : ∀ {kbs : List (List Key × Addr × V)} {more : KVD} {r : List (List Key × V)} {acc : KVD}, DicV K D (kbs.map fun x => (x.1, x.2.2)) more → DicV K D r acc → DicV K D (mergeT r kbs) (putsD acc more)
  | [], _, _, _, h, k => by
    cases h
    exact k
  | x :: kbs, _, r, acc, h, h2 => by
    rw [List.map_cons] at h
    generalize e : (x.1, x.2.2) = y at h
    cases h with
    | @cons k v d r' s p t =>
      injection e with e1 e2
      have h3 := dicV_put h2 (k := k) p
      show DicV K D (mergeT (putK r x.1 x.2.2) kbs) (putsD (putD acc k d) s)
      rw [e1, e2]
      exact dicV_puts t h3
theorem ef_dispT {trs : List (TE × TE)} (h : EdP K trs ρ s) (hl : s.length ≤ 15) : EdF K (tDispT trs) ρ (.dt (putsD [] s)) := fun σ D H0 H e sl Q q => fun p hp => by
  have t0 : Stp D H D (upd H p (.dT [])) := Stp.tmp e hp
  refine h σ D H0 _ t0.s (sl.mono t0) _ fun kbs D1 H1 t1 a1 a2 => ?_
  have e1 : H1 p = some (.dT []) := t1.h p _ upd_same
  have n1 : D1 p = none := t1.n p _ upd_same (fun _ z => nomatch z) (Evl.fresh_back e hp)
  refine ⟨e1, kbs, rfl, fun x hx => t1.s _ _ (a1 x hx), by have := dicV_len a2; rw [List.length_map] at this; omega, ?_⟩
  have e2 : upd (fun a => if a = p then none else H1 a) p (.dT (mergeT [] kbs)) = upd H1 p (.dT (mergeT [] kbs)) := by
    funext a
    by_cases z : a = p
    · subst z
      rw [upd_same, upd_same]
    · rw [upd_ne z, upd_ne z, if_neg z]
  rw [← e2]
  have t := t0.tr t1
  refine q p _ D1 _ ⟨t.d, fun a u z => ?_, fun a u z => ?_, t.n⟩ (if_pos rfl) (.dt (dicV_puts a2 .nil))
  · rw [if_neg (ne_of_none z hp)]
    exact t.h a u z
  · rw [if_neg (ne_of_none z n1)]
    exact t.s a u z
/-! ### dict(comprehension) -/
def rlP (K : PySem.W.Frag) : Rl := ⟨fun D v d => ∃ T b w k c, v = .ref T ∧ D T = some (.tup [.ref b, w]) ∧ D b = some (.tup ((kI k).map kV)) ∧ Dp K D w c ∧ d = .tuple [kT k, c], fun e h => by
  obtain ⟨T, b, w, k, c, h1, h2, h3, h4, h5⟩ := h
  exact ⟨T, b, w, k, c, h1, e _ _ h2, e _ _ h3, dpX e h4, h5⟩⟩
theorem eg_pair {ta : TA} (hk : EdA K ta ρ (k.map PyData.int)) (hlk : k.length ≤ 1000) (hv : Ed K tv ρ d) : EdG (rlP K) K (tTup (tCons (tTup ta) (tCons tv tNil))) ρ (.tuple [kT k, d]) := fun σ D H0 H e sl Q q =>
  hk σ D H0 H e sl _ fun vs D1 H1 t1 p1 => ⟨sz100 (by rw [dpA_len p1, List.length_map]; omega), fun b hb => by
    have t2 := t1.tr (Stp.new (o := .tup vs) t1.s hb)
    have ev : vs = (kI k).map kV := by rw [kI_kV, dpA_ints p1]
    refine hv σ _ H0 _ t2.s (sl.mono t2) _ fun v D3 H3 t3 p3 => ⟨by show 2 ≤ sizeLine; decide, fun T hT => ?_⟩
    have hn := Evl.fresh_back t3.s hT
    refine q (.ref T) _ _ ((t2.tr t3).tr (Stp.new t3.s hT)) ⟨T, b, v, k, d, rfl, upd_same, ?_, dpX (Ex.new hn) p3, rfl⟩
    exact Ex.new hn b _ (t3.d b _ (by rw [upd_same, ev]))⟩
def pairKV (d : PyData) : List Int × PyData := match d with
  | .tuple [.tuple ks, c] => (ks.map fun x => match x with | .int i => i | _ => 0, c)
  | _ => ([], .none)
theorem pairKV_of (k : List Int) (c : PyData) : pairKV (.tuple [kT k, c]) = (k, c) := by
  show (((k.map PyData.int).map fun x => match x with | .int i => i | _ => 0), c) = (k, c)
  rw [List.map_map]
  congr 1
  conv => rhs; rw [← List.map_id k]
  exact List.map_congr_left fun _ _ => rfl
theorem rlA_kbs {D : Hp} : ∀ {vs : List V} {ds : List PyData}, RlA (rlP K) D vs ds → ∃ kbs : List (Addr × List Key × Addr × V), vs = kbs.map (fun x => V.ref x.1) ∧ (∀ x ∈ kbs, D x.1 = some (.tup [.ref x.2.2.1, x.2.2.2]) ∧ D x.2.2.1 = some (.tup (x.2.1.map kV))) ∧ DicV K D ((kbs.map (·.2)).map fun x => (x.1, x.2.2)) (ds.map pairKV)
  | _, _, .nil => ⟨[], rfl, fun x hx => absurd hx List.not_mem_nil, .nil⟩
  | _, _, .cons h t => by
    obtain ⟨kbs, h1, h2, h3⟩ := rlA_kbs t
    obtain ⟨T, b, w, k, c, rfl, g2, g3, g4, rfl⟩ := h
    refine ⟨(T, kI k, b, w) :: kbs, by rw [h1]; rfl, fun x hx => ?_, ?_⟩
    · rcases List.mem_cons.mp hx with rfl | hx
      · exact ⟨g2, g3⟩
      · exact h2 x hx
    · rw [List.map_cons, List.map_cons, List.map_cons, pairKV_of]
      exact .cons g4 h3
theorem ef_dictT {wi : TI} {g : TG} {tt : TT} {vs : List Nat} (p : PyData → Bool) (f : PyData → PyData) (hw : EdIH K wi ρ xs) (hl : xs.length ≤ 100000)
    (hs : ∀ (i : Nat) (x : PyData), xs[i]? = some x → ∃ ρ' is, Bd K g x (wipeR ρ vs) ρ' is ∧ (∀ j ∈ is, j ∈ vs) ∧ EdT K tt ρ' (p x) ∧ (p x = true → EdG (rlP K) K te ρ' (f x))) : EdF K (tCB (rDictT K) (tCons (tLc wi g tt te vs) tNil)) ρ (.dt (putsD [] ((keep p f xs).map pairKV))) := fun σ D H0 H e sl Q q => by
  show tLc wi g tt te vs σ H fun v H1 => rDictT K [v] H1 Q
  exact ed_lcG (R := rlP K) p f hw hl hs σ D H0 H e sl _ fun L ws D' H' t n hL l a => by
    obtain ⟨kbs, h1, h2, h3⟩ := rlA_kbs a
    refine ⟨L, kbs, rfl, ?_, fun x hx => ⟨SqT.of (t.s _ _ (h2 x hx).1), t.s _ _ (h2 x hx).2⟩, fun p hp => q p _ D' H' t hp (.dt (dicV_puts h3 .nil))⟩
    rw [← h1]
    exact SqL.of l
/-! ### promises -/
/-- a def that gives a new thing -/
def spO (K : PySem.W.Frag) (R : List PyData → OD → Prop) : Sp := fun vs H Q _ => ∃ ds o D, R ds o ∧ Ex D H ∧ DpAll K D vs ds ∧ ∀ p u D' H1, Stp D H D' H1 → H1 p = none → OdV K D' u o → Q (.ref p) (upd H1 p u)
theorem ef_call {R : List PyData → OD → Prop} {E : XK} {t : TA} {o : OD} (h : EdA K t ρ ds) (hR : R ds o) : EdF K (tCall (spO K R) [] E t) ρ o := fun σ D H0 H s sl Q q =>
  h σ D H0 H s sl _ fun vs D1 H1 t1 p1 => ⟨ds, o, D1, hR, t1.s, by rw [List.append_nil]; exact p1, fun p u D' H' t' hp p' => q p u D' H' (t1.tr t') hp p'⟩
/-- the heap without a thing -/
def del (H : Hp) (p : Addr) : Hp := fun a => if a = p then none else H a
theorem upd_del {H : Hp} {p : Addr} {u : HO} (h : H p = some u) : upd (del H p) p u = H := by
  funext a
  by_cases z : a = p
  · subst z
    rw [upd_same, h]
  · rw [upd_ne z]
    exact if_neg z
theorem ex_del {D H : Hp} {p : Addr} (e : Ex D H) (n : D p = none) : Ex D (del H p) := fun a u z => by
  show (if a = p then none else H a) = some u
  rw [if_neg (ne_of_none z n)]
  exact e a u z
theorem del_ex {H : Hp} {p : Addr} : Ex (del H p) H := fun a u z => by
  have z : (if a = p then none else H a) = some u := z
  by_cases h : a = p
  · rw [if_pos h] at z
    cases z
  · rwa [if_neg h] at z
/-- a def that fills the dict that is its second argument -/
def spM (K : PySem.W.Frag) (R : List PyData → KVD → KVD → Prop) : Sp := fun vs H Q _ => ∃ v0 p v2 v3 d0 d2 d3 r s s' D, vs = [v0, .ref p, v2, v3] ∧ R [d0, d2, d3] s s' ∧ Ex D H ∧ D p = none ∧ H p = some (.dT r) ∧ DicV K D r s ∧ DpAll K D [v0, v2, v3] [d0, d2, d3] ∧
  ∀ D' H1 r', Stp D (del H p) D' H1 → H1 p = none → DicV K D' r' s' → Q .non (upd H1 p (.dT r'))
theorem run_fill {i : Nat} {p : Addr} {R : List PyData → KVD → KVD → Prop} {E0' : XK} {t0 t2 t3 : TE} {d0 d2 d3 : PyData} {s' : KVD} {ts : TS} {r : Rs} (hi : ρ[i]? = some (.own p (.dt s))) (h0 : Ed K t0 ρ d0) (h2 : Ed K t2 ρ d2) (h3 : Ed K t3 ρ d3) (hR : R [d0, d2, d3] s s')
    (hn : Run K ts (ρ.set i (.own p (.dt s'))) r) : Run K (tSeq (tDrop (tCall (spM K R) [] E0' (tCons t0 (tCons (tVar i) (tCons t2 (tCons t3 tNil)))))) ts) ρ r := fun σ H0 D H E t sl q =>
  h0 σ D H0 H t.s sl _ fun v0 D1 H1 t1 p1 => by
    obtain ⟨a, _⟩ := dtM_own (sl.mono t1) hi
    refine ⟨_, a, h2 σ D1 H0 H1 t1.s (sl.mono t1) _ fun v2 D2 H2 u2 p2 => h3 σ D2 H0 H2 u2.s (sl.mono (t1.tr u2)) _ fun v3 D3 H3 u3 p3 => ?_⟩
    have u := (t1.tr u2).tr u3
    have s3 := sl.mono u
    obtain ⟨_, b, r', hr, hd⟩ := dtM_own s3 hi
    have z3 := (s3.own i p _ hi).2.2.1
    refine ⟨v0, p, v2, v3, d0, d2, d3, r', s, s', D3, rfl, hR, u.s, b, hr, hd, .cons (dpX (u2.d.trans u3.d) p1) (.cons (dpX u3.d p2) (.cons p3 .nil)), fun D' H4 r4 t4 hp hd4 => ?_⟩
    have tg := t.go u
    -- the slots ahead of the dict's change
    have e3 : upd (del H3 p) p (.dT r') = H3 := upd_del hr
    have b4 : D' p = none := Evl.fresh_back t4.s hp
    have t5 : Stp D3 H3 D' (upd H4 p (.dT r')) := ⟨t4.d, fun a w z => by
      by_cases h : a = p
      · subst h
        rw [upd_same, ← z, hr]
      · rw [upd_ne h]
        exact t4.h a w (by show (if a = p then none else H3 a) = some w; rw [if_neg h]; exact z), fun a w z => by
      rw [upd_ne (ne_of_none z b4)]
      exact t4.s a w z, fun a w h1 h2 h3 => by
      by_cases h : a = p
      · rw [h]
        exact b4
      · exact t4.n a w (by show (if a = p then none else H3 a) = some w; rw [if_neg h]; exact h1) h2 h3⟩
    obtain ⟨k1, k2⟩ := own_chg (tg.go t5) (s3.mono t5) hi (OdV.dt hd4)
    rw [upd_upd] at k1 k2
    exact hn σ H0 D' _ E k1 k2 (q.of ((t.up u).tr0 (tg.up t5)))
/-- a def that reads the dict that is its argument -/
def spQ (K : PySem.W.Frag) (R : KVD → PyData → Prop) : Sp := fun vs H Q _ => ∃ p r s d D, vs = [.ref p] ∧ R s d ∧ Ex D H ∧ D p = none ∧ H p = some (.dT r) ∧ DicV K D r s ∧ ∀ v D' H', Stp D H D' H' → Dp K D' v d → Q v H'
theorem ed_readV {i : Nat} {p : Addr} {R : KVD → PyData → Prop} {E0' : XK} (hi : ρ[i]? = some (.own p (.dt s))) (hR : R s d) : Ed K (tCall (spQ K R) [] E0' (tCons (tVar i) tNil)) ρ d := fun σ D H0 H e sl Q q => by
  obtain ⟨a, b, r, hr, hd⟩ := dtM_own sl hi
  exact ⟨_, a, p, r, s, d, D, rfl, hR, e, b, hr, hd, q⟩
theorem ed_readF {R : KVD → PyData → Prop} {E0' : XK} (h : EdF K te ρ (.dt s)) (hR : R s d) : Ed K (tCall (spQ K R) [] E0' (tCons te tNil)) ρ d := fun σ D H0 H e sl Q q =>
  h σ D H0 H e sl _ fun p u D1 H1 t1 hp p1 => by
    cases p1 with
    | @dt r' s p1 =>
      have t2 : Stp D1 H1 D1 (upd H1 p (.dT r')) := Stp.tmp t1.s hp
      exact ⟨p, _, s, d, D1, rfl, hR, t2.s, Evl.fresh_back t1.s hp, upd_same, p1, fun v D' H' t' p' => q v D' H' ((t1.tr t2).tr t') p'⟩
/-! ### the keys of a dict, locked -/
theorem ed_lockK {i : Nat} {p : Addr} (hi : ρ[i]? = some (.own p (.dt s))) (h : Ed K te (ρ.set i (.own p (.ft s))) d) : Ed K (tLockE te) ρ d := fun σ D H0 H e sl Q q => by
  obtain ⟨a, b, r, hr, hd⟩ := dtM_own sl hi
  refine ⟨p, .dT r, hr, True.intro, fun od => ?_⟩
  have s1 : Sl K σ D H0 (upd H p (.frz od (.dT r))) (ρ.set i (.own p (.ft s))) := sl.chg hi (.ft hd)
  have e1 : Ex D (upd H p (.frz od (.dT r))) := fun c u z => by
    rw [upd_ne (ne_of_none z b)]
    exact e c u z
  refine h σ D H0 _ e1 s1 _ fun v D1 H1 t1 p1 => ⟨t1.h p _ upd_same, q v D1 _ ⟨t1.d, fun c u z => ?_, fun c u z => ?_, fun c u h1 h2 h3 => ?_⟩ p1⟩
  · by_cases y : c = p
    · subst y
      rw [upd_same, ← z, hr]
    · rw [upd_ne y]
      exact t1.h c u (by rw [upd_ne y]; exact z)
  · rw [upd_ne (ne_of_none z (t1.n p _ upd_same (fun _ z => nomatch z) b))]
    exact t1.s c u z
  · by_cases y : c = p
    · rw [y]
      exact t1.n p _ upd_same (fun _ z => nomatch z) b
    · exact t1.n c u (by rw [upd_ne y]; exact h1) h2 h3
theorem dicV_at {D : Hp} {r : List (List Key × V)} : ∀ {s : KVD}, DicV K D r s → ∀ {i : Nat} {x : List Int × PyData}, s[i]? = some x → ∃ v, r[i]? = some (kI x.1, v) ∧ Dp K D v x.2 := fun {s} h => by
  induction h with
  | nil => intro i x e; simp at e
  | @cons k v d r s p t ih =>
    intro i x e
    cases i with
    | zero =>
      cases e
      exact ⟨v, rfl, p⟩
    | succ i => exact ih (by simpa using e)
theorem ei_keysO {i : Nat} {p : Addr} (hi : ρ[i]? = some (.own p (.ft s))) : EdIH K (iKeys (tVar i)) ρ (s.map fun x => kT x.1) := fun σ D H0 H e sl R q => by
  obtain ⟨a, b, _, u, hu, ho⟩ := sl.own i p _ hi
  cases ho with
  | @ft o r s hd =>
    refine ⟨_, a, p, o, rfl, .inr ⟨r, hu, q _ D H (Stp.rfl' e) fun D1 H1 t => ⟨fun j x hx => ?_, ?_⟩⟩⟩
    · rw [List.getElem?_map] at hx
      cases c : s[j]? with
      | none => rw [c] at hx; cases hx
      | some y =>
        rw [c] at hx
        cases hx
        obtain ⟨v, hv, _⟩ := dicV_at hd c
        refine ⟨⟨t.h p _ hu, (List.getElem?_eq_some_iff.mp hv).1⟩, fun w H' hy => ?_⟩
        obtain ⟨rfl, k, v', b', e1, rfl, e3⟩ := hy
        rw [hv] at e1
        injection e1 with e1
        injection e1 with e1 e2
        rw [← e1, kI_kV] at e3
        refine ⟨_, Stp.tell t.s e3, .tup (SqT.of upd_same) ?_⟩
        exact dpA_of_ints y.1
    · exact ⟨t.h p _ hu, by rw [List.length_map, ← dicV_len hd]; exact Nat.le_refl _⟩
end
end K19

/-! TEXT K19W7 -/
set_option Elab.async false
set_option linter.all false
set_option maxRecDepth 100000
set_option maxHeartbeats 4000000
set_option autoImplicit false
/-! The walks, 7: polynomials in two letters. -/
theorem L2.Room.u1 {k : Nat} {A : PySem.Around} (r : L2.Room k A) : A.units + 1 < PySem.cLine := by have := r.un; omega
namespace K19
open PySem PySem.Spec PyProof.Rows L2
open Evl (Ex)
section
variable {P : Program} {w : World} {K : PySem.W.Frag} {mg : Str → Option Value} {base : Heap}
theorem has_ofO {x : Str} {params : Arguments} {body : List Stmt} {scope : Scope} {f : Addr} {fd : FuncData} {N ps : List Str} {k : Nat} {R : List PyData → OD → Prop} (g : mg x = some (.ref f)) (F : FunD K x x params body scope [] [] f fd) (S : FnScope N ps scope)
    (hb : ∀ (kV doc pm : Value) (an : Option Addr) (cdv ct : Value) (us : List Value), us.length = ps.length → bindArgs (PySem.W.fnOf x x params body scope .none kV doc pm an cdv ct) ⟨us, []⟩ = pure (ps.zip us))
    (hl : ∀ ds o, R ds o → ds.length = ps.length)
    (hbody : ∀ (cdv : Value) (A : Around) (outer : List Env) (s : Shared) (H : Hp) (E : XK), Room k (A.deeper (envOfC x scope s.heap.objs.size f cdv)) → ∀ ds o, R ds o →
      ∃ t, PSs (cxOf CX0 P w K mg base N x scope f cdv A outer s H E).nox body t ∧ Run K t (startR N ds) (.ro o)) : Has P w K mg base (k + 1) x ps (spO K R) := by
  refine ⟨f, fd, g, F.kp, F.bindsN hb, F.ok S (fun vs H Q E h => ?_) fun cdv A outer s H vs Q E hr h => ?_⟩
  · obtain ⟨ds, o, D, h1, _, h3, _⟩ := h
    rw [dpA_len h3]
    exact hl ds o h1
  · obtain ⟨ds, o, D, h1, h2, h3, h4⟩ := h
    obtain ⟨t, p1, p2⟩ := hbody cdv A outer s H E hr ds o h1
    refine ⟨t, p1.nox, p2 (L2.start N vs) H D H _ (Stp.rfl' h2) (sl_start h3) fun p D' H' u t' n1 n2 n3 od => ?_⟩
    have z := h4 p u D' (del H' p) ⟨t'.d, fun a w e => by
      show (if a = p then none else H' a) = some w
      rw [if_neg (ne_of_none e n2)]
      exact t'.h a w e, ex_del t'.s n1, t'.n⟩ (if_pos rfl) od
    rw [upd_del n3] at z
    exact z
theorem has_ofM {x : Str} {params : Arguments} {body : List Stmt} {scope : Scope} {f : Addr} {fd : FuncData} {N ps : List Str} {k : Nat} {R : List PyData → KVD → KVD → Prop} (g : mg x = some (.ref f)) (F : FunD K x x params body scope [] [] f fd) (S : FnScope N ps scope)
    (hb : ∀ (kV doc pm : Value) (an : Option Addr) (cdv ct : Value) (us : List Value), us.length = ps.length → bindArgs (PySem.W.fnOf x x params body scope .none kV doc pm an cdv ct) ⟨us, []⟩ = pure (ps.zip us))
    (hl : 4 = ps.length)
    (hbody : ∀ (cdv : Value) (A : Around) (outer : List Env) (s : Shared) (H : Hp) (E : XK), Room k (A.deeper (envOfC x scope s.heap.objs.size f cdv)) → ∀ d0 d2 d3 s0 s1, R [d0, d2, d3] s0 s1 →
      ∃ t, PSs (cxOf CX0 P w K mg base N x scope f cdv A outer s H E).nox body t ∧ ∀ p, ∃ ρ, ρ[1]? = some (.own p (.dt s1)) ∧ Run K t ([.dat d0, .own p (.dt s0), .dat d2, .dat d3] ++ List.replicate (N.length - 4) .no) (.nx ρ)) : Has P w K mg base (k + 1) x ps (spM K R) := by
  refine ⟨f, fd, g, F.kp, F.bindsN hb, F.ok S (fun vs H Q E h => ?_) fun cdv A outer s H vs Q E hr h => ?_⟩
  · obtain ⟨v0, p, v2, v3, d0, d2, d3, r, s, s', D, rfl, _⟩ := h
    exact hl
  · obtain ⟨v0, p, v2, v3, d0, d2, d3, r, s0, s1, D, rfl, h1, h2, h3, h4, h5, h6, h7⟩ := h
    obtain ⟨t, p1, p2⟩ := hbody cdv A outer s H E hr d0 d2 d3 s0 s1 h1
    obtain ⟨ρ, e1, p3⟩ := p2 p
    cases h6 with
    | cons a0 h6 =>
      cases h6 with
      | cons a2 h6 =>
        cases h6 with
        | cons a3 h6 =>
          have sl0 : Sl K (L2.start N [v0, .non, v2, v3]) D (del H p) H (startR N [d0, .none, d2, d3]) := sl_start (.cons a0 (.cons .non (.cons a2 (.cons a3 .nil))))
          have sl1 := sl0.put 1 (some (.ref p)) (.own p (.dt s0)) (fun d z => nomatch z) (fun p' o' z => by cases z; exact ⟨rfl, h3, if_pos rfl, _, h4, .dt h5⟩) fun j b p' hj hb z mb => by
            rcases startR_at hb with rfl | ⟨d, _, rfl⟩ <;> cases mb
          refine ⟨t, p1.nox, p3 (L2.start N [v0, .ref p, v2, v3]) (del H p) D H _ ⟨Ex.refl D, del_ex, h2, fun _ _ _ _ h => h⟩ sl1 fun σ' D' H' t' s' => ?_⟩
          obtain ⟨_, b1, _, u, b2, b3⟩ := s'.own 1 p _ e1
          cases b3 with
          | @dt r' s1 b3 =>
            have z := h7 D' (del H' p) r' ⟨t'.d, fun a w e => by
              have hne : a ≠ p := fun q => by
                have e : (if a = p then none else H a) = some w := e
                rw [if_pos q] at e
                cases e
              show (if a = p then none else H' a) = some w
              rw [if_neg hne]
              exact t'.h a w e, ex_del t'.s b1, t'.n⟩ (if_pos rfl) b3
            rw [upd_del b2] at z
            exact z
theorem has_ofQ {x : Str} {params : Arguments} {body : List Stmt} {scope : Scope} {f : Addr} {fd : FuncData} {N ps : List Str} {k : Nat} {R : KVD → PyData → Prop} (g : mg x = some (.ref f)) (F : FunD K x x params body scope [] [] f fd) (S : FnScope N ps scope)
    (hb : ∀ (kV doc pm : Value) (an : Option Addr) (cdv ct : Value) (us : List Value), us.length = ps.length → bindArgs (PySem.W.fnOf x x params body scope .none kV doc pm an cdv ct) ⟨us, []⟩ = pure (ps.zip us))
    (hl : 1 = ps.length)
    (hbody : ∀ (cdv : Value) (A : Around) (outer : List Env) (s : Shared) (H : Hp) (E : XK), Room k (A.deeper (envOfC x scope s.heap.objs.size f cdv)) → ∀ s0 d, R s0 d →
      ∃ te, PSs (cxOf CX0 P w K mg base N x scope f cdv A outer s H E).nox body (tRet te) ∧ ∀ p, Ed K te ([.own p (.dt s0)] ++ List.replicate (N.length - 1) .no) d) : Has P w K mg base (k + 1) x ps (spQ K R) := by
  refine ⟨f, fd, g, F.kp, F.bindsN hb, F.ok S (fun vs H Q E h => ?_) fun cdv A outer s H vs Q E hr h => ?_⟩
  · obtain ⟨p, r, s, d, D, rfl, _⟩ := h
    exact hl
  · obtain ⟨p, r, s0, d, D, rfl, h1, h2, h3, h4, h5, h7⟩ := h
    obtain ⟨te, p1, p2⟩ := hbody cdv A outer s H E hr s0 d h1
    have sl0 : Sl K (L2.start N [.non]) D (del H p) H (startR N [.none]) := sl_start (.cons .non .nil)
    have sl1 := sl0.put 0 (some (.ref p)) (.own p (.dt s0)) (fun d z => nomatch z) (fun p' o' z => by cases z; exact ⟨rfl, h3, if_pos rfl, _, h4, .dt h5⟩) fun j b p' hj hb z mb => by
      rcases startR_at hb with rfl | ⟨d, _, rfl⟩ <;> cases mb
    exact ⟨_, p1.nox, p2 p (L2.start N [.ref p]) D (del H p) H h2 sl1 _ h7⟩
end
section
variable {q : Nat} [Fld q]
abbrev kz (k : Nat × Nat) : List Int := [(k.1 : Int), (k.2 : Int)]
abbrev tmD (t : (Nat × Nat) × F q) : PyData := .tuple [.int t.1.1, .int t.1.2, nD t.2]
abbrev PT (l : PL q) : PyData := .tuple (l.map tmD)
def kvD (l : PL q) : KVD := l.map fun t => (kz t.1, nD t.2)
def leK : Le q := fun t s => leD (tmD t) (tmD s)
theorem kz_inj {k l : Nat × Nat} : kz k = kz l ↔ k = l := by
  constructor
  · intro h
    injection h with h1 h2
    injection h2 with h2
    exact Prod.ext (by omega) (by omega)
  · intro h
    rw [h]
theorem kvD_any (l : PL q) (k : Nat × Nat) : ((kvD l).any fun x => decide (x.1 = kz k)) = l.any fun t => decide (t.1 = k) := by
  unfold kvD
  rw [List.any_map]
  congr 1
  funext t
  exact decide_eq_decide.mpr kz_inj
theorem kvD_put (l : PL q) (k : Nat × Nat) (c : F q) : putD (kvD l) (kz k) (nD c) = kvD (putP l k c) := by
  unfold putD putP
  rw [kvD_any]
  split
  · unfold kvD
    rw [List.map_map, List.map_map]
    refine List.map_congr_left fun t _ => ?_
    show (if kz t.1 = kz k then (kz t.1, nD c) else (kz t.1, nD t.2)) = (kz (if t.1 = k then (t.1, c) else t).1, nD (if t.1 = k then (t.1, c) else t).2)
    by_cases h : t.1 = k
    · rw [if_pos (kz_inj.mpr h), if_pos h]
    · rw [if_neg (fun e => h (kz_inj.mp e)), if_neg h]
  · unfold kvD
    rw [List.map_append]
    rfl
theorem kvD_look (l : PL q) (k : Nat × Nat) : (lkD (kvD l) (kz k)).getD (.int 0) = nD (getP l k) := by
  induction l with
  | nil =>
    show PyData.int 0 = nD (0 : F q)
    rw [nD0]
  | cons t l ih =>
    have e : lkD (kvD (t :: l)) (kz k) = if t.1 = k then some (nD t.2) else lkD (kvD l) (kz k) := by
      unfold lkD kvD
      rw [List.map_cons, List.find?_cons]
      by_cases h : t.1 = k
      · rw [decide_eq_true (kz_inj.mpr h), if_pos h]
        rfl
      · rw [decide_eq_false (fun e => h (kz_inj.mp e)), if_neg h]
    rw [e, getP_cons]
    by_cases h : t.1 = k
    · rw [if_pos h, if_pos h]
      rfl
    · rw [if_neg h, if_neg h]
      exact ih
theorem kvD_mem {l : PL q} (h : ND l) {t : (Nat × Nat) × F q} (ht : t ∈ l) : lkD (kvD l) (kz t.1) = some (nD t.2) := by
  induction l with
  | nil => cases ht
  | cons s l ih =>
    unfold ND at h
    rw [List.map_cons, List.nodup_cons] at h
    unfold lkD kvD
    rw [List.map_cons, List.find?_cons]
    rcases List.mem_cons.mp ht with rfl | ht
    · rw [decide_eq_true rfl]
      rfl
    · have hne : ¬ kz s.1 = kz t.1 := fun e => h.1 (by rw [kz_inj.mp e]; exact List.mem_map.mpr ⟨t, ht, rfl⟩)
      show ((match decide (kz s.1 = kz t.1) with | true => _ | false => _) : Option _).map _ = _
      rw [decide_eq_false hne]
      exact ih h.2 ht
theorem kvD_puts (l : PL q) : putsD [] (l.map fun t => (kz t.1, nD t.2)) = kvD (dicP l) := by
  have aux : ∀ (l acc : PL q), putsD (kvD acc) (l.map fun t => (kz t.1, nD t.2)) = kvD (l.foldl (fun fd t => putP fd t.1 t.2) acc) := fun l => by
    induction l with
    | nil => exact fun acc => rfl
    | cons t l ih =>
      intro acc
      show putsD (putD (kvD acc) (kz t.1) (nD t.2)) _ = _
      rw [kvD_put]
      exact ih _
  exact aux l []
theorem kvD_len (l : PL q) : (kvD l).length = l.length := List.length_map ..
end
inductive R_dict_of : List PyData → OD → Prop
  | mk (q : Nat) [Fld q] (l : PL q) (hl : l.length ≤ 50000) : R_dict_of [PT l] (.dt (kvD (dicP l)))
inductive R_poly_of : KVD → PyData → Prop
  | mk (q : Nat) [Fld q] (l : PL q) (h : ND l) (hl : l.length ≤ 50000) : R_poly_of (kvD l) (PT (canon leK l))
inductive R_add_poly : List PyData → KVD → KVD → Prop
  | mk (q : Nat) [Fld q] (fd p : PL q) (n : F q) (hl : fd.length + p.length ≤ 50000) : R_add_poly [.int q, PT p, nD n] (kvD fd) (kvD (addP fd p n))
inductive R_sum_poly : List PyData → PyData → Prop
  | mk (q : Nat) [Fld q] (a b : PL q) (n : F q) (ha : ND a) (hl : a.length + b.length ≤ 20000) : R_sum_poly [.int q, PT a, PT b, nD n] (PT (sumP leK a b n))
inductive R_product_poly : List PyData → PyData → Prop
  | mk (q : Nat) [Fld q] (a b : PL q) (m n : Nat) (ha : Pn m a) (hb : Pn n b) (hl : m + n ≤ 100) : R_product_poly [.int q, PT a, PT b] (PT (prodP leK a b))
section
variable {q : Nat} [Fld q]
theorem incP_len (l : PL q) (k : Nat × Nat) (c : F q) : (incP l k c).length ≤ l.length + 1 := by
  unfold incP putP
  split <;> simp
theorem addP_len (n : F q) (p : PL q) : ∀ fd : PL q, (addP fd p n).length ≤ fd.length + p.length := by
  induction p with
  | nil => exact fun fd => Nat.le_refl _
  | cons t p ih =>
    intro fd
    have h1 := ih (incP fd t.1 (t.2 * n))
    have h2 := incP_len fd t.1 (t.2 * n)
    show (addP (incP fd t.1 (t.2 * n)) p n).length ≤ _
    rw [List.length_cons]
    omega
theorem addP_snoc (fd : PL q) (p : PL q) (t : (Nat × Nat) × F q) (n : F q) : addP fd (p ++ [t]) n = incP (addP fd p n) t.1 (t.2 * n) := by
  unfold addP
  rw [List.foldl_append]
  rfl
theorem at_tm {l : PL q} {i : Nat} {x : PyData} (h : (l.map tmD)[i]? = some x) : ∃ t, l[i]? = some t ∧ x = tmD t := by
  rw [List.getElem?_map] at h
  cases c : l[i]? with
  | none => rw [c] at h; cases h
  | some t =>
    rw [c] at h
    exact ⟨t, rfl, (Option.some.inj h).symm⟩
end
section
variable {P : Program} {w : World} {K : PySem.W.Frag} {mg : Str → Option Value} {base : Heap}
abbrev N_dict_of : List Str := ["poly", "i", "j", "c"]
theorem sc_dict_of : FnScope N_dict_of ["poly"] (defScope s_dict_of) := ⟨rfl, rfl, rfl, by decide +kernel, rfl, by decide +kernel, by decide +kernel⟩
theorem ok_dict_of (T : Top K mg) : Has P w K mg base 1 "dict_of" ["poly"] (spO K R_dict_of) := by
  obtain ⟨f, fd, g, Fd⟩ := T.def_ 18 d_dict_of rfl
  have nd := sc_dict_of.nd
  refine has_ofO g Fd sc_dict_of (fun _ _ _ _ _ _ us hl => match us, hl with | [_], _ => rfl) (fun _ _ h => by cases h <;> rfl) fun cdv A outer s H E hr ds d h => ?_
  refine ⟨_, (pss_one (ps_ret (pe_callTy (call_dictT rfl hr.units) rfl (T.free 2 _ rfl) (by decide +kernel) (pa_cons (pe_lc (own := [("i", 1), ("j", 2), ("c", 3)]) rfl nd (pi_tup (pv 0)) (blkOk_by (own := [("i", 1), ("j", 2), ("c", 3)]) (N := N_dict_of) (sc := defScope s_dict_of) (by decide +kernel)) (fun _ _ _ _ _ => (pg_tupK (K := K) (n := 3) rfl rfl (pgs_cons (pg_name (i := 1) nd rfl (Or.inl rfl)) (pgs_cons (pg_name (i := 2) nd rfl (Or.inl rfl)) (pgs_cons (pg_name (i := 3) nd rfl (Or.inl rfl)) pgs_nil))))) (fun _ _ _ _ _ => pts_nil) (fun _ _ _ _ _ => (pe_tup (pa_cons (pe_tup (pa_cons (pv 1) (pa_cons (pv 2) pa_nil))) (pa_cons (pv 3) pa_nil))))) pa_nil)))), ?_⟩
  cases h with
  | mk q l hl =>
  have e : (keep (fun _ => true) (fun d => match d with | .tuple [i, j, c] => .tuple [.tuple [i, j], c] | _ => .none) (l.map tmD)).map pairKV = l.map fun t => (kz t.1, nD t.2) := by
    unfold keep
    rw [List.filter_eq_self.mpr fun _ _ => rfl, List.map_map, List.map_map]
    refine List.map_congr_left fun t _ => ?_
    exact pairKV_of (kz t.1) (nD t.2)
  rw [← kvD_puts, ← e]
  refine run_last (run_retF (ef_dictT (fun _ => true) (fun d => match d with | .tuple [i, j, c] => .tuple [.tuple [i, j], c] | _ => .none) (EdI.h (ei_tup (ed_var rfl))) (by rw [List.length_map]; omega) fun i x hx => ?_))
  obtain ⟨t, _, rfl⟩ := at_tm hx
  exact ⟨_, _, bd_tup rfl (bds_cons (bds_cons (bds_cons bds_nil))), fun j hj => hj, et_yes, fun _ => eg_pair (k := kz t.1) (ea2 (ed_var rfl) (ed_var rfl)) (Nat.le_of_ble_eq_true rfl) (ed_var rfl)⟩
end
end K19

/-! TEXT K19W8 -/
set_option Elab.async false
set_option linter.all false
set_option maxRecDepth 100000
set_option maxHeartbeats 4000000
set_option autoImplicit false
/-! The walks, 8: polynomials in two letters. -/
namespace K19
open PySem PySem.Spec PyProof.Rows L2
open Evl (Ex)
def pkP {q : Nat} [Fld q] (l : PL q) (d : PyData) : Bool := match d with
  | .tuple [.int i, .int j] => !decide (getP l (i.toNat, j.toNat) = 0)
  | _ => false
def pkF {q : Nat} [Fld q] (l : PL q) (d : PyData) : PyData := match d with
  | .tuple [.int i, .int j] => .tuple [.int i, .int j, nD (getP l (i.toNat, j.toNat))]
  | _ => .none
section
variable {P : Program} {w : World} {K : PySem.W.Frag} {mg : Str → Option Value} {base : Heap}
abbrev N_poly_of : List Str := ["found", "spot"]
theorem sc_poly_of : FnScope N_poly_of ["found"] (defScope s_poly_of) := ⟨rfl, rfl, rfl, by decide +kernel, rfl, by decide +kernel, by decide +kernel⟩
theorem ok_poly_of (T : Top K mg) : Has P w K mg base 1 "poly_of" ["found"] (spQ K R_poly_of) := by
  obtain ⟨f, fd, g, Fd⟩ := T.def_ 19 d_poly_of rfl
  have nd := sc_poly_of.nd
  refine has_ofQ g Fd sc_poly_of (fun _ _ _ _ _ _ us hl => match us, hl with | [_], _ => rfl) rfl fun cdv A outer s H E hr s0 d h => ?_
  refine ⟨_, (pss_one (ps_ret (pe_callTy call_tuple_of rfl (T.free 13 _ rfl) boot_tuple (pa_cons (pe_callB (cr_sortD (K := K) rfl hr.units) rfl (T.free 12 _ rfl) (by decide +kernel) (pa_cons (pe_lock (pe_lc (own := [("spot", 1)]) rfl nd (pi_keys (pv 0)) (blkOk_by (own := [("spot", 1)]) (N := N_poly_of) (sc := defScope s_poly_of) (by decide +kernel)) (fun _ _ _ _ _ => (pg_name (i := 1) nd rfl (Or.inl rfl))) (fun _ _ _ _ _ => (pts_one (pt_cmpR op_ne (pe_dgetS (K := K) rfl hr.u1 (pv 0) (pv 1) (fun _ _ => rfl)) pe_int (nomark _)))) (fun _ _ _ _ _ => (pe_tup (pa_cons (pe_ix (ix_tupK (K := K) rfl) (pv 1) pe_int (fun _ _ => rfl)) (pa_cons (pe_ix (ix_tupK (K := K) rfl) (pv 1) pe_int (fun _ _ => rfl)) (pa_cons (pe_dgetS (K := K) rfl hr.u1 (pv 0) (pv 1) (fun _ _ => rfl)) pa_nil))))))) pa_nil)) pa_nil)))), ?_⟩
  cases h with
  | mk q l h hl =>
  intro p
  have e1 : ((kvD l).map fun x => kT x.1) = l.map fun t => kT (kz t.1) := by
    unfold kvD
    rw [List.map_map]
    rfl
  have hd : ∀ {t : (Nat × Nat) × F q} {σ : Ro}, t ∈ l → isDt σ 0 p (kvD l) → σ[1]? = some (.dat (kT (kz t.1))) → Ed K (tDGetS K (tVar 0) (tVar 1)) σ (nD t.2) := fun ht h0 h1 => ed_dgetO h0 (ed_var h1) (kvD_mem h ht)
  have gp : ∀ t ∈ l, getP l t.1 = t.2 := fun t ht => by
    have z := kvD_mem h ht
    have z2 := kvD_look l t.1
    rw [z] at z2
    exact F.ext' (by injection z2 with z2; exact_mod_cast z2.symm)
  have ek : keep (pkP l) (pkF l) (l.map fun t => kT (kz t.1)) = (l.filter nz).map tmD := by
    unfold keep
    rw [List.filter_map, List.map_map]
    have e3 : l.filter ((pkP l) ∘ fun t => kT (kz t.1)) = l.filter nz := List.filter_congr fun t ht => by
      show (!decide (getP l ((t.1.1 : Int).toNat, (t.1.2 : Int).toNat) = 0)) = nz t
      rw [Int.toNat_natCast, Int.toNat_natCast, gp t ht]
      rfl
    rw [e3]
    refine List.map_congr_left fun t ht => ?_
    have ht := (List.mem_filter.mp ht).1
    show PyData.tuple [.int (t.1.1 : Int), .int (t.1.2 : Int), nD (getP l ((t.1.1 : Int).toNat, (t.1.2 : Int).toNat))] = tmD t
    rw [Int.toNat_natCast, Int.toNat_natCast, gp t ht]
  have lf : ((l.filter nz).map tmD).length ≤ 50000 := by
    rw [List.length_map]
    exact Nat.le_trans (List.length_filter_le _ _) hl
  have es : ((l.filter nz).map tmD).mergeSort leD = (canon leK l).map tmD := by
    unfold canon
    exact (List.map_mergeSort (r := leK) (s := leD) (f := tmD) (l := l.filter nz) fun _ _ _ _ => rfl).symm
  refine ed_to (ed_cb (ea1 (EdL.mk (ed_cb (ea1 (EdL.mk (ed_lockK (i := 0) rfl (en_lcH (pkP l) (pkF l) (ei_keysO (i := 0) rfl) (by rw [List.length_map, kvD_len]; omega) fun i x hx => ?_)) ?_)) (rc_sortD (ds := (l.filter nz).map tmD) (fun d hd => ?_) (by omega))) es)) rc_tupL) rfl
  · rw [e1, List.getElem?_map] at hx
    cases c : l[i]? with
    | none => rw [c] at hx; cases hx
    | some t =>
      rw [c] at hx
      cases hx
      have ht := List.mem_of_getElem? c
      refine ⟨_, _, bd_name, fun j hj => hj, et_test (ed_to (ed_op (hd ht (.inr rfl) rfl) ed_int rd_neI) ?_), fun _ => ed_to (ed_tup (ea3 (ed_op (ed_var (d := kT (kz t.1)) rfl) ed_int (rd_ixT (d := .int (t.1.1 : Int)) rfl)) (ed_op (ed_var (d := kT (kz t.1)) rfl) ed_int (rd_ixT (d := .int (t.1.2 : Int)) rfl)) (hd ht (.inr rfl) rfl)) (le5 rfl)) ?_⟩
      · show PyData.bool (!decide ((t.2.v : Int) = 0)) = .bool (!decide (getP l ((t.1.1 : Int).toNat, (t.1.2 : Int).toNat) = 0))
        rw [Int.toNat_natCast, Int.toNat_natCast, gp t ht, dec0]
      · show _ = PyData.tuple [.int (t.1.1 : Int), .int (t.1.2 : Int), nD (getP l ((t.1.1 : Int).toNat, (t.1.2 : Int).toNat))]
        rw [Int.toNat_natCast, Int.toNat_natCast, gp t ht]
  · rw [e1]
    exact ek
  · obtain ⟨t, _, rfl⟩ := List.mem_map.mp hd
    exact ⟨_, _, _, rfl⟩
abbrev N_add_poly : List Str := ["q", "found", "poly", "number", "i", "j", "c"]
theorem sc_add_poly : FnScope N_add_poly ["q", "found", "poly", "number"] (defScope s_add_poly) := ⟨rfl, rfl, rfl, by decide +kernel, rfl, by decide +kernel, by decide +kernel⟩
theorem ok_add_poly (T : Top K mg) : Has P w K mg base 2 "add_poly" ["q", "found", "poly", "number"] (spM K R_add_poly) := by
  obtain ⟨f, fd, g, Fd⟩ := T.def_ 20 d_add_poly rfl
  have nd := sc_add_poly.nd
  have h_plus := ok_plus (P := P) (w := w) (base := base) T
  have h_times := ok_times (P := P) (w := w) (base := base) T
  refine has_ofM g Fd sc_add_poly (fun _ _ _ _ _ _ us hl => match us, hl with | [_, _, _, _], _ => rfl) rfl fun cdv A outer s H E hr d0 d2 d3 s0 s1 h => ?_
  refine ⟨_, (pss_one (ps_for PassesOwn.never rfl (pi_tup (pv 2)) (pg_tup rfl (pgs_cons (pg_name (i := 4) nd rfl (Or.inl rfl)) (pgs_cons (pg_name (i := 5) nd rfl (Or.inl rfl)) (pgs_cons (pg_name (i := 6) nd rfl (Or.inl rfl)) pgs_nil)))) (pss_one (ps_dput hr.u1 (pv 1) (pe_tup (pa_cons (pv 4) (pa_cons (pv 5) pa_nil))) (pe_callH h_plus hr (by decide) rfl (pa_cons (pv 0) (pa_cons (pe_dget2S hr.u1 (pv 1) (pe_tup (pa_cons (pv 4) (pa_cons (pv 5) pa_nil))) pe_int ⟨rfl, rfl, rfl, rfl⟩) (pa_cons (pe_callH h_times hr (by decide) rfl (pa_cons (pv 0) (pa_cons (pv 6) (pa_cons (pv 3) pa_nil)))) pa_nil)))) rfl)))), ?_⟩
  cases h with
  | mk q fd pl n hl =>
  refine fun p => ⟨[.dat (.int q), .own p (.dt (kvD (addP fd pl n))), .dat (PT pl), .dat (nD n), prv (pl.map fun t => .int t.1.1) pl.length, prv (pl.map fun t => .int t.1.2) pl.length, prv (pl.map fun t => nD t.2) pl.length], rfl, ?_⟩
  refine run_last (run_for (fun i => [.dat (.int q), .own p (.dt (kvD (addP fd (pl.take i) n))), .dat (PT pl), .dat (nD n), prv (pl.map fun t => .int t.1.1) i, prv (pl.map fun t => .int t.1.2) i, prv (pl.map fun t => nD t.2) i]) (ei_tup (ed_var rfl)) rfl (fun i x hx => ?_) (run_end.to ?_))
  · obtain ⟨t, ht, rfl⟩ := at_tm hx
    have hi : i < pl.length := (List.getElem?_eq_some_iff.mp ht).1
    have e1 : pl.take (i + 1) = pl.take i ++ [t] := by
      rw [List.take_add_one, ht]
      rfl
    have c1 : prv (pl.map fun t => PyData.int t.1.1) (i + 1) = .dat (.int t.1.1) := prv_at (by rw [List.getElem?_map, ht]; rfl)
    have c2 : prv (pl.map fun t => PyData.int t.1.2) (i + 1) = .dat (.int t.1.2) := prv_at (by rw [List.getElem?_map, ht]; rfl)
    have c3 : prv (pl.map fun t => nD t.2) (i + 1) = .dat (nD t.2) := prv_at (by rw [List.getElem?_map, ht]; rfl)
    have hb := addP_len n (pl.take i) fd
    rw [List.length_take] at hb
    refine ⟨_, _, bd_tup rfl (bds_cons (bds_cons (bds_cons bds_nil))), run_last (run_dput (k := kz t.1) rfl (ed_call (ea3 (ed_var rfl) (ed_to (ed_dget2O (i := 1) (.inl rfl) (ed_tup (ds := [.int t.1.1, .int t.1.2]) (ea2 (ed_var rfl) (ed_var rfl)) (le5 rfl)) ed_int) (kvD_look _ t.1)) (ed_call (ea3 (ed_var rfl) (ed_var rfl) (ed_var rfl)) (R_times.mk q t.2 n))) (R_plus.mk q _ _)) (ea2 (ed_var rfl) (ed_var rfl)) (Nat.le_of_ble_eq_true rfl) (by rw [kvD_len]; omega) (run_end.to ?_))⟩
    rw [c1, c2, c3, e1, addP_snoc, kvD_put]
    rfl
  · rw [List.length_map, List.take_length]
end
end K19

/-! TEXT K19W9 -/
set_option Elab.async false
set_option linter.all false
set_option maxRecDepth 100000
set_option maxHeartbeats 4000000
set_option autoImplicit false
/-! The walks, 9: polynomials in two letters. -/
namespace K19
open PySem PySem.Spec PyProof.Rows L2
open Evl (Ex)
def prw (z : Sd) (xs : List PyData) : Nat → Sd
  | 0 => z
  | i + 1 => match xs[i]? with
    | some d => .dat d
    | none => .no
theorem prw_at {z : Sd} {xs : List PyData} {i : Nat} {d : PyData} (h : xs[i]? = some d) : prw z xs (i + 1) = .dat d := by
  show (match xs[i]? with | some d => Sd.dat d | none => .no) = _
  rw [h]
/-- a slot by the turns of an outer loop, where an inner loop over xs i leaves its last -/
def lstS (xs : Nat → List PyData) : Nat → Sd
  | 0 => .no
  | i + 1 => prw (lstS xs i) (xs i) (xs i).length
inductive R_powers_poly : List PyData → PyData → Prop
  | mk (q : Nat) [Fld q] (p : PL q) (e most : Nat) (hp : Pn e p) (hl : (most + 1) * e ≤ 100) (hm : most ≤ 1000) : R_powers_poly [.int q, PT p, .int most] (.list ((List.range (most + 1)).map fun k => PT (powP leK p k)))
inductive R_slope : List PyData → PyData → Prop
  | x (q : Nat) [Fld q] (l : PL q) (h : ND l) (hl : l.length ≤ 50000) : R_slope [.int q, PT l, .str "x"] (PT (slopeX leK l))
  | y (q : Nat) [Fld q] (l : PL q) (h : ND l) (hl : l.length ≤ 50000) : R_slope [.int q, PT l, .str "y"] (PT (slopeY leK l))
inductive R_map_pair : List PyData → PyData → Prop
  | mk (q : Nat) [Fld q] (m : SM q) : R_map_pair [mD m] (.tuple [PT (pairM leK m).1, PT (pairM leK m).2])
inductive R_bend_pair : List PyData → PyData → Prop
  | mk (q : Nat) [Fld q] (b : List (F q)) (hl : b.length ≤ 1000) : R_bend_pair [tD b] (.tuple [PT (pairB leK b).1, PT (pairB leK b).2])
inductive R_determinant : List PyData → PyData → Prop
  | mk (q : Nat) [Fld q] (a b : PL q) (n : Nat) (ha : Pn n a) (hb : Pn n b) (hl : n ≤ 40) : R_determinant [.int q, .tuple [PT a, PT b]] (PT (detP leK a b))
section
variable {q : Nat} [Fld q]
theorem pn_len {n : Nat} {l : PL q} (h : Pn n l) (hn : n ≤ 100) : l.length ≤ 10201 := by
  have h1 := pl_len h.po.nd h.dg
  have h2 : (n + 1) * (n + 1) ≤ 101 * 101 := Nat.mul_le_mul (by omega) (by omega)
  omega
theorem mulI_snoc (fd : PL q) (t : (Nat × Nat) × F q) (p : PL q) (s : (Nat × Nat) × F q) : mulI fd t (p ++ [s]) = incP (mulI fd t p) (t.1.1 + s.1.1, t.1.2 + s.1.2) (t.2 * s.2) := by
  unfold mulI
  rw [List.foldl_append]
  rfl
theorem mulL_snoc (a b : PL q) (t : (Nat × Nat) × F q) : mulL (a ++ [t]) b = mulI (mulL a b) t b := by
  unfold mulL
  rw [List.foldl_append]
  rfl
def trow (t : (Nat × Nat) × F q) (b : PL q) : List PyData := b.map fun s => kT (kz (t.1.1 + s.1.1, t.1.2 + s.1.2))
theorem prw_map {α : Type} {z : Sd} {f : α → PyData} {l : List α} {i : Nat} {x : α} (h : l[i]? = some x) : prw z (l.map f) (i + 1) = .dat (f x) := prw_at (by rw [List.getElem?_map, h]; rfl)
theorem prv_map {α : Type} {f : α → PyData} {l : List α} {i : Nat} {x : α} (h : l[i]? = some x) : prv (l.map f) (i + 1) = .dat (f x) := prv_at (by rw [List.getElem?_map, h]; rfl)
end
section
variable {P : Program} {w : World} {K : PySem.W.Frag} {mg : Str → Option Value} {base : Heap}
abbrev N_sum_poly : List Str := ["q", "one", "other", "number", "found"]
theorem sc_sum_poly : FnScope N_sum_poly ["q", "one", "other", "number"] (defScope s_sum_poly) := ⟨rfl, rfl, rfl, by decide +kernel, rfl, by decide +kernel, by decide +kernel⟩
theorem ok_sum_poly (T : Top K mg) : Has P w K mg base 3 "sum_poly" ["q", "one", "other", "number"] (spR K R_sum_poly) := by
  obtain ⟨f, fd, g, Fd⟩ := T.def_ 21 d_sum_poly rfl
  have nd := sc_sum_poly.nd
  have h_poly_of := ok_poly_of (P := P) (w := w) (base := base) T
  have h_add_poly := ok_add_poly (P := P) (w := w) (base := base) T
  have h_dict_of := ok_dict_of (P := P) (w := w) (base := base) T
  refine has_of g Fd sc_sum_poly (fun _ _ _ _ _ _ us hl => match us, hl with | [_, _, _, _], _ => rfl) (fun _ _ h => by cases h <;> rfl) fun cdv A outer s H E hr ds d h => ?_
  refine ⟨_, (pss_cons (ps_set (i := 4) nd rfl (Or.inl rfl) (pe_callH h_dict_of hr (by decide) rfl (pa_cons (pv 1) pa_nil))) (pss_cons (ps_expr (pe_callH h_add_poly hr (by decide) rfl (pa_cons (pv 0) (pa_cons (pv 4) (pa_cons (pv 2) (pa_cons (pv 3) pa_nil)))))) (pss_one (ps_ret (pe_callH h_poly_of hr (by decide) rfl (pa_cons (pv 4) pa_nil)))))), ?_⟩
  cases h with
  | mk q a b n ha hl =>
  have hb := addP_len n b (dicP a)
  have hda : dicP a = a := dicP_id ha
  have h1 : ND (addP (dicP a) b n) := addP_nd n b (by rw [hda]; exact ha)
  have hdl : (dicP a).length ≤ a.length := by rw [hda]; exact Nat.le_refl _
  exact run_newF (ef_call (ea1 (ed_var rfl)) (R_dict_of.mk q a (by omega))) fun p => run_fill (i := 4) rfl (ed_var rfl) (ed_var rfl) (ed_var rfl) (R_add_poly.mk q (dicP a) b n (by omega)) (run_last (run_ret (ed_readV (i := 4) rfl (R_poly_of.mk q _ h1 (by omega)))))
abbrev N_product_poly : List Str := ["q", "one", "other", "found", "i", "j", "c", "k", "m", "d", "spot"]
theorem sc_product_poly : FnScope N_product_poly ["q", "one", "other"] (defScope s_product_poly) := ⟨rfl, rfl, rfl, by decide +kernel, rfl, by decide +kernel, by decide +kernel⟩
theorem ok_product_poly (T : Top K mg) : Has P w K mg base 2 "product_poly" ["q", "one", "other"] (spR K R_product_poly) := by
  obtain ⟨f, fd, g, Fd⟩ := T.def_ 22 d_product_poly rfl
  have nd := sc_product_poly.nd
  have h_poly_of := ok_poly_of (P := P) (w := w) (base := base) T
  have h_plus := ok_plus (P := P) (w := w) (base := base) T
  have h_times := ok_times (P := P) (w := w) (base := base) T
  refine has_of g Fd sc_product_poly (fun _ _ _ _ _ _ us hl => match us, hl with | [_, _, _], _ => rfl) (fun _ _ h => by cases h <;> rfl) fun cdv A outer s H E hr ds d h => ?_
  refine ⟨_, (pss_cons (ps_set (i := 3) nd rfl (Or.inl rfl) pe_dnewT) (pss_cons (ps_for PassesOwn.never rfl (pi_tup (pv 1)) (pg_tup rfl (pgs_cons (pg_name (i := 4) nd rfl (Or.inl rfl)) (pgs_cons (pg_name (i := 5) nd rfl (Or.inl rfl)) (pgs_cons (pg_name (i := 6) nd rfl (Or.inl rfl)) pgs_nil)))) (pss_one (ps_for PassesOwn.never rfl (pi_tup (pv 2)) (pg_tup rfl (pgs_cons (pg_name (i := 7) nd rfl (Or.inl rfl)) (pgs_cons (pg_name (i := 8) nd rfl (Or.inl rfl)) (pgs_cons (pg_name (i := 9) nd rfl (Or.inl rfl)) pgs_nil)))) (pss_cons (ps_set (i := 10) nd rfl (Or.inl rfl) (pe_tup (pa_cons (pe_op op_add (pv 4) (pv 7)) (pa_cons (pe_op op_add (pv 5) (pv 8)) pa_nil)))) (pss_one (ps_dput hr.u1 (pv 3) (pv 10) (pe_callH h_plus hr (by decide) rfl (pa_cons (pv 0) (pa_cons (pe_dget2S hr.u1 (pv 3) (pv 10) pe_int ⟨rfl, rfl, rfl, rfl⟩) (pa_cons (pe_callH h_times hr (by decide) rfl (pa_cons (pv 0) (pa_cons (pv 6) (pa_cons (pv 9) pa_nil)))) pa_nil)))) rfl)))))) (pss_one (ps_ret (pe_callH h_poly_of hr (by decide) rfl (pa_cons (pv 3) pa_nil)))))), ?_⟩
  cases h with
  | mk q a b m n ha hb hl =>
  have la := pn_len ha (by omega)
  have lb := pn_len hb (by omega)
  refine run_newF ef_dnewT fun p => ?_
  refine run_for (fun i => [.dat (.int q), .dat (PT a), .dat (PT b), .own p (.dt (kvD (mulL (a.take i) b))), prv (a.map fun t => .int t.1.1) i, prv (a.map fun t => .int t.1.2) i, prv (a.map fun t => nD t.2) i,
      lstS (fun _ => b.map fun s => .int s.1.1) i, lstS (fun _ => b.map fun s => .int s.1.2) i, lstS (fun _ => b.map fun s => nD s.2) i, lstS (fun i => trow (a.getD i ((0, 0), 0)) b) i]) (ei_tup (ed_var rfl)) rfl (fun i x hx => ?_) ?_
  · obtain ⟨t, ht, rfl⟩ := at_tm hx
    have hi : i < a.length := (List.getElem?_eq_some_iff.mp ht).1
    have eg : a.getD i ((0, 0), 0) = t := by
      rw [List.getD_eq_getElem?_getD, ht]
      rfl
    have e1 : a.take (i + 1) = a.take i ++ [t] := by
      rw [List.take_add_one, ht]
      rfl
    have ok := mulL_ok ha.dg hb.dg i
    have hdeg := ha.dg t (List.mem_of_getElem? ht)
    refine ⟨_, _, bd_tup rfl (bds_cons (bds_cons (bds_cons bds_nil))), run_last (run_for (fun j => [.dat (.int q), .dat (PT a), .dat (PT b), .own p (.dt (kvD (mulI (mulL (a.take i) b) t (b.take j)))), .dat (.int t.1.1), .dat (.int t.1.2), .dat (nD t.2),
      prw (lstS (fun _ => b.map fun s => .int s.1.1) i) (b.map fun s => .int s.1.1) j, prw (lstS (fun _ => b.map fun s => .int s.1.2) i) (b.map fun s => .int s.1.2) j, prw (lstS (fun _ => b.map fun s => nD s.2) i) (b.map fun s => nD s.2) j, prw (lstS (fun i => trow (a.getD i ((0, 0), 0)) b) i) (trow t b) j]) (ei_tup (ed_var rfl)) rfl (fun j y hy => ?_) ?_)⟩
    · obtain ⟨s2, hs, rfl⟩ := at_tm hy
      have e2 : b.take (j + 1) = b.take j ++ [s2] := by
        rw [List.take_add_one, hs]
        rfl
      have ok2 : ND (mulI (mulL (a.take i) b) t (b.take j)) ∧ Dg (m + n) (mulI (mulL (a.take i) b) t (b.take j)) := ⟨mulI_nd t _ ok.1, mulI_dg hdeg (fun x hx => hb.dg x (List.mem_of_mem_take hx)) ok.2⟩
      have lk := pl_len ok2.1 ok2.2
      have lk2 : (m + n + 1) * (m + n + 1) ≤ 101 * 101 := Nat.mul_le_mul (by omega) (by omega)
      refine ⟨_, _, bd_tup rfl (bds_cons (bds_cons (bds_cons bds_nil))), run_spot (i := 3) (j := 10) (k := kz (t.1.1 + s2.1.1, t.1.2 + s2.1.2)) (by decide) rfl (by show 10 < 11; decide) (ea2 (ed_to (ed_op (ed_var rfl) (ed_var rfl) (rd_I0 fun _ => .int _)) (congrArg PyData.int nat_add)) (ed_to (ed_op (ed_var rfl) (ed_var rfl) (rd_I0 fun _ => .int _)) (congrArg PyData.int nat_add))) (Nat.le_of_ble_eq_true rfl)
        (ed_call (ea3 (ed_var rfl) (ed_to (ed_dget2O (i := 3) (.inl rfl) (ed_var (d := kT (kz (t.1.1 + s2.1.1, t.1.2 + s2.1.2))) rfl) ed_int) (kvD_look _ (t.1.1 + s2.1.1, t.1.2 + s2.1.2))) (ed_call (ea3 (ed_var rfl) (ed_var rfl) (ed_var rfl)) (R_times.mk q t.2 s2.2))) (R_plus.mk q _ _)) (by rw [kvD_len]; omega) (run_end.to ?_)⟩
      rw [prw_map hs, prw_map hs, prw_map hs, e2, mulI_snoc, kvD_put]
      have c4 : prw (lstS (fun i => trow (a.getD i ((0, 0), 0)) b) i) (trow t b) (j + 1) = .dat (kT (kz (t.1.1 + s2.1.1, t.1.2 + s2.1.2))) := prw_map hs
      rw [c4]
      rfl
    · refine run_end.to ?_
      rw [prv_map ht, prv_map ht, prv_map ht, e1, mulL_snoc, List.length_map, List.take_length]
      show _ = Rs.nx [_, _, _, _, _, _, _, prw _ (b.map fun s => .int s.1.1) (b.map fun s => PyData.int s.1.1).length, prw _ (b.map fun s => .int s.1.2) (b.map fun s => PyData.int s.1.2).length, prw _ (b.map fun s => nD s.2) (b.map fun s => nD s.2).length, prw _ (trow (a.getD i ((0, 0), 0)) b) (trow (a.getD i ((0, 0), 0)) b).length]
      rw [eg, List.length_map, List.length_map, List.length_map]
      have e9 : (trow t b).length = b.length := List.length_map _
      rw [e9]
  · rw [List.length_map, List.take_length]
    have ok := mulL_ok ha.dg hb.dg a.length
    rw [List.take_length] at ok
    have lk := pl_len ok.1 ok.2
    have lk2 : (m + n + 1) * (m + n + 1) ≤ 101 * 101 := Nat.mul_le_mul (by omega) (by omega)
    exact run_last (run_ret (ed_readV (i := 3) rfl (R_poly_of.mk q _ ok.1 (by omega))))
abbrev N_powers_poly : List Str := ["q", "poly", "most", "found", "_"]
theorem sc_powers_poly : FnScope N_powers_poly ["q", "poly", "most"] (defScope s_powers_poly) := ⟨rfl, rfl, rfl, by decide +kernel, rfl, by decide +kernel, by decide +kernel⟩
theorem ok_powers_poly (T : Top K mg) : Has P w K mg base 3 "powers_poly" ["q", "poly", "most"] (spR K R_powers_poly) := by
  obtain ⟨f, fd, g, Fd⟩ := T.def_ 23 d_powers_poly rfl
  have nd := sc_powers_poly.nd
  have h_product_poly := ok_product_poly (P := P) (w := w) (base := base) T
  refine has_of g Fd sc_powers_poly (fun _ _ _ _ _ _ us hl => match us, hl with | [_, _, _], _ => rfl) (fun _ _ h => by cases h <;> rfl) fun cdv A outer s H E hr ds d h => ?_
  refine ⟨_, (pss_cons (ps_set (i := 3) nd rfl (Or.inl rfl) (pe_lst (pa_cons (pe_tup (pa_cons (pe_tup (pa_cons pe_int (pa_cons pe_int (pa_cons pe_int pa_nil)))) pa_nil)) pa_nil))) (pss_cons (ps_for PassesOwn.never rfl (pi_range1 rfl (T.free 9 _ rfl) (pa_cons (pv 2) pa_nil)) (pg_name (i := 4) nd rfl (Or.inl rfl)) (pss_one (ps_expr (pe_bm PySem.F.plainAttrs_list PySem.F.slot_list_append PySem.F.type_list_append mt_append (pv 3) (pa_cons (pe_callH h_product_poly hr (by decide) rfl (pa_cons (pv 0) (pa_cons (pe_ix ix_list (pv 3) (pe_un un_neg pe_int) (fun _ _ => rfl)) (pa_cons (pv 1) pa_nil)))) pa_nil))))) (pss_one (ps_ret (pv 3))))), ?_⟩
  cases h with
  | mk q p e most hp hl hm =>
  have e0 : PT (powP leK p 0) = .tuple [.tuple [.int 0, .int 0, .int 1]] := by
    show PyData.tuple [.tuple [.int (0 : Nat), .int (0 : Nat), nD (1 : F q)]] = _
    rw [nD1]
    rfl
  refine run_new (xs := (List.range (0 + 1)).map fun k => PT (powP leK p k)) ((en_lst (ea1 (ed_tup (ea1 (ed_tup (ea3 ed_int ed_int ed_int) (le5 rfl))) (le5 rfl))) (le5 rfl)).to ?_) fun a => ?_
  · show _ = [PT (powP leK p 0)]
    rw [e0]
  · have hlr : (rgD 0 (most : Int).toNat).length = most := by rw [rgD_len, Int.toNat_natCast]
    refine run_for (fun i => [.dat (.int q), .dat (PT p), .dat (.int most), .own a (.lst ((List.range (i + 1)).map fun k => PT (powP leK p k))), prv (rgD 0 (most : Int).toNat) i]) (ei_range1 (ea1 (ed_var rfl)) (by omega) (by omega)) rfl (fun i x hx => ?_) ?_
    · have hi : i < most := by
        have := (List.getElem?_eq_some_iff.mp hx).1
        omega
      have ok := powP_ok (le := leK) hp i
      have hb : i * e + e ≤ 100 := by
        have : (i + 1) * e ≤ (most + 1) * e := Nat.mul_le_mul_right e (by omega)
        rw [Nat.add_mul] at this
        omega
      have hlast : atI ((List.range (i + 1)).map fun k => PT (powP leK p k)) (-1) = some (PT (powP leK p i)) := atI_last (by rw [List.length_map, List.length_range, List.getElem?_map, List.getElem?_range (by omega)]; rfl) (by rw [List.length_map, List.length_range]; omega)
      refine ⟨_, _, bd_name, run_last (run_append (i := 3) rfl (ed_call (ea3 (ed_var rfl) (ed_ixO (i := 3) rfl ed_m1 hlast) (ed_var rfl)) (R_product_poly.mk q _ _ (i * e) e ok.1 hp hb)) (by rw [List.length_map, List.length_range]; omega) (run_end.to ?_))⟩
      rw [prv_at hx, List.range_succ (n := i + 1), List.map_append]
      rfl
    · rw [hlr]
      exact run_fz (i := 3) rfl (run_last (run_ret (ed_var rfl)))
abbrev N_slope : List Str := ["q", "F", "letter", "i", "j", "c"]
theorem sc_slope : FnScope N_slope ["q", "F", "letter"] (defScope s_slope) := ⟨rfl, rfl, rfl, by decide +kernel, rfl, by decide +kernel, by decide +kernel⟩
theorem ok_slope (T : Top K mg) : Has P w K mg base 3 "slope" ["q", "F", "letter"] (spR K R_slope) := by
  obtain ⟨f, fd, g, Fd⟩ := T.def_ 27 d_slope rfl
  have nd := sc_slope.nd
  have h_poly_of := ok_poly_of (P := P) (w := w) (base := base) T
  have h_multiple := ok_multiple (P := P) (w := w) (base := base) T
  refine has_of g Fd sc_slope (fun _ _ _ _ _ _ us hl => match us, hl with | [_, _, _], _ => rfl) (fun _ _ h => by cases h <;> rfl) fun cdv A outer s H E hr ds d h => ?_
  refine ⟨_, (pss_cons (ps_if (pt_cmpR op_eq (pv 2) pe_str (nomark _)) (pss_one (ps_ret (pe_callH h_poly_of hr (by decide) rfl (pa_cons (pe_callTy (call_dictT rfl hr.units) rfl (T.free 2 _ rfl) (by decide +kernel) (pa_cons (pe_lc (own := [("i", 3), ("j", 4), ("c", 5)]) rfl nd (pi_tup (pv 1)) (blkOk_by (own := [("i", 3), ("j", 4), ("c", 5)]) (N := N_slope) (sc := defScope s_slope) (by decide +kernel)) (fun _ _ _ _ _ => (pg_tupK (K := K) (n := 3) rfl rfl (pgs_cons (pg_name (i := 3) nd rfl (Or.inl rfl)) (pgs_cons (pg_name (i := 4) nd rfl (Or.inl rfl)) (pgs_cons (pg_name (i := 5) nd rfl (Or.inl rfl)) pgs_nil))))) (fun _ _ _ _ _ => (pts_one (pt_cmpR op_gt (pv 3) pe_int (nomark _)))) (fun _ _ _ _ _ => (pe_tup (pa_cons (pe_tup (pa_cons (pe_op op_sub (pv 3) pe_int) (pa_cons (pv 4) pa_nil))) (pa_cons (pe_callH h_multiple hr (by decide) rfl (pa_cons (pv 0) (pa_cons (pv 3) (pa_cons (pv 5) pa_nil)))) pa_nil))))) pa_nil)) pa_nil)))) pss_nil) (pss_one (ps_ret (pe_callH h_poly_of hr (by decide) rfl (pa_cons (pe_callTy (call_dictT rfl hr.units) rfl (T.free 2 _ rfl) (by decide +kernel) (pa_cons (pe_lc (own := [("i", 3), ("j", 4), ("c", 5)]) rfl nd (pi_tup (pv 1)) (blkOk_by (own := [("i", 3), ("j", 4), ("c", 5)]) (N := N_slope) (sc := defScope s_slope) (by decide +kernel)) (fun _ _ _ _ _ => (pg_tupK (K := K) (n := 3) rfl rfl (pgs_cons (pg_name (i := 3) nd rfl (Or.inl rfl)) (pgs_cons (pg_name (i := 4) nd rfl (Or.inl rfl)) (pgs_cons (pg_name (i := 5) nd rfl (Or.inl rfl)) pgs_nil))))) (fun _ _ _ _ _ => (pts_one (pt_cmpR op_gt (pv 4) pe_int (nomark _)))) (fun _ _ _ _ _ => (pe_tup (pa_cons (pe_tup (pa_cons (pv 3) (pa_cons (pe_op op_sub (pv 4) pe_int) pa_nil))) (pa_cons (pe_callH h_multiple hr (by decide) rfl (pa_cons (pv 0) (pa_cons (pv 4) (pa_cons (pv 5) pa_nil)))) pa_nil))))) pa_nil)) pa_nil))))), ?_⟩
  have aux : ∀ (q : Nat) [Fld q] (l : PL q) (p : PyData → Bool) (f : PyData → PyData) (S : PL q) (g : (Nat × Nat) × F q → Bool) (h : (Nat × Nat) × F q → (Nat × Nat) × F q), S = (l.filter g).map h → (∀ t ∈ l, p (tmD t) = g t) → (∀ t ∈ l, g t = true → f (tmD t) = .tuple [kT (kz (h t).1), nD (h t).2]) → (keep p f (l.map tmD)).map pairKV = S.map fun t => (kz t.1, nD t.2) := by
    intro q _ l p f S g h hS h1 h2
    subst hS
    unfold keep
    rw [List.filter_map, List.map_map, List.map_map, List.map_map]
    have e3 : l.filter (p ∘ tmD) = l.filter g := List.filter_congr fun t ht => h1 t ht
    rw [e3]
    refine List.map_congr_left fun t ht => ?_
    obtain ⟨a1, a2⟩ := List.mem_filter.mp ht
    show pairKV (f (tmD t)) = (kz (h t).1, nD (h t).2)
    rw [h2 t a1 a2]
    exact pairKV_of _ _
  cases h with
  | x q l h hl =>
    have ndx := slX_nd h
    have lx : (slX l).length ≤ l.length := by
      unfold slX
      rw [List.length_map]
      exact List.length_filter_le _ _
    have hd := dicP_id ndx
    refine run_yes ((et_test (ed_op (ed_var rfl) ed_str rd_eqS)).to (decide_eq_true rfl)) (run_ret (ed_readF (s := kvD (dicP (slX l))) ?_ (R_poly_of.mk q _ (by rw [hd]; exact ndx) (by rw [hd]; omega))))
    have e := aux q l (fun d => match d with | .tuple [.int i, _, _] => decide (i > 0) | _ => false) (fun d => match d with | .tuple [.int i, j, c] => .tuple [.tuple [.int (i - 1), j], nD (((i.toNat : Nat) : F q) * toF c)] | _ => .none) (slX l) _ _ rfl (fun t ht => decide_eq_decide.mpr ⟨fun h => by omega, fun h => by omega⟩) fun t ht hg => by
      have hg := of_decide_eq_true hg
      show PyData.tuple [.tuple [.int ((t.1.1 : Int) - 1), .int (t.1.2 : Int)], nD ((((t.1.1 : Int).toNat : Nat) : F q) * toF (nD t.2))] = .tuple [.tuple [.int ((t.1.1 - 1 : Nat) : Int), .int (t.1.2 : Int)], nD (((t.1.1 : Nat) : F q) * t.2)]
      rw [toF_nD, Int.toNat_natCast]
      have : (t.1.1 : Int) - 1 = ((t.1.1 - 1 : Nat) : Int) := by omega
      rw [this]
    rw [← kvD_puts, ← e]
    refine ef_dictT _ _ (EdI.h (ei_tup (ed_var rfl))) (by rw [List.length_map]; omega) fun i x hx => ?_
    obtain ⟨t, _, rfl⟩ := at_tm hx
    refine ⟨_, _, bd_tup rfl (bds_cons (bds_cons (bds_cons bds_nil))), fun j hj => hj, et_test (ed_op (ed_var rfl) ed_int (rd_I0 fun _ => .bl _)), fun hp => ?_⟩
    have hp : 0 < t.1.1 := by have := of_decide_eq_true (show decide ((t.1.1 : Int) > 0) = true from hp); omega
    show EdG (rlP K) K _ _ (.tuple [kT [(t.1.1 : Int) - 1, (t.1.2 : Int)], nD ((((t.1.1 : Int).toNat : Nat) : F q) * toF (nD t.2))])
    rw [toF_nD, Int.toNat_natCast]
    exact eg_pair (ea2 (ed_op (ed_var rfl) ed_int (rd_I0 fun _ => .int _)) (ed_var rfl)) (Nat.le_of_ble_eq_true rfl) (ed_call (ea3 (ed_var rfl) (ed_var rfl) (ed_var rfl)) (R_multiple.mk q t.1.1 t.2))
  | y q l h hl =>
    have ndx := slY_nd h
    have lx : (slY l).length ≤ l.length := by
      unfold slY
      rw [List.length_map]
      exact List.length_filter_le _ _
    have hd := dicP_id ndx
    refine run_no ((et_test (ed_op (ed_var rfl) ed_str rd_eqS)).to (by decide +kernel)) (run_last (run_ret (ed_readF (s := kvD (dicP (slY l))) ?_ (R_poly_of.mk q _ (by rw [hd]; exact ndx) (by rw [hd]; omega)))))
    have e := aux q l (fun d => match d with | .tuple [_, .int i, _] => decide (i > 0) | _ => false) (fun d => match d with | .tuple [j, .int i, c] => .tuple [.tuple [j, .int (i - 1)], nD (((i.toNat : Nat) : F q) * toF c)] | _ => .none) (slY l) _ _ rfl (fun t ht => decide_eq_decide.mpr ⟨fun h => by omega, fun h => by omega⟩) fun t ht hg => by
      have hg := of_decide_eq_true hg
      show PyData.tuple [.tuple [.int (t.1.1 : Int), .int ((t.1.2 : Int) - 1)], nD ((((t.1.2 : Int).toNat : Nat) : F q) * toF (nD t.2))] = .tuple [.tuple [.int (t.1.1 : Int), .int ((t.1.2 - 1 : Nat) : Int)], nD (((t.1.2 : Nat) : F q) * t.2)]
      rw [toF_nD, Int.toNat_natCast]
      have : (t.1.2 : Int) - 1 = ((t.1.2 - 1 : Nat) : Int) := by omega
      rw [this]
    rw [← kvD_puts, ← e]
    refine ef_dictT _ _ (EdI.h (ei_tup (ed_var rfl))) (by rw [List.length_map]; omega) fun i x hx => ?_
    obtain ⟨t, _, rfl⟩ := at_tm hx
    refine ⟨_, _, bd_tup rfl (bds_cons (bds_cons (bds_cons bds_nil))), fun j hj => hj, et_test (ed_op (ed_var rfl) ed_int (rd_I0 fun _ => .bl _)), fun hp => ?_⟩
    show EdG (rlP K) K _ _ (.tuple [kT [(t.1.1 : Int), (t.1.2 : Int) - 1], nD ((((t.1.2 : Int).toNat : Nat) : F q) * toF (nD t.2))])
    rw [toF_nD, Int.toNat_natCast]
    exact eg_pair (ea2 (ed_var rfl) (ed_op (ed_var rfl) ed_int (rd_I0 fun _ => .int _))) (Nat.le_of_ble_eq_true rfl) (ed_call (ea3 (ed_var rfl) (ed_var rfl) (ed_var rfl)) (R_multiple.mk q t.1.2 t.2))
abbrev N_map_pair : List Str := ["m", "a", "b", "c", "d", "e", "f"]
theorem sc_map_pair : FnScope N_map_pair ["m"] (defScope s_map_pair) := ⟨rfl, rfl, rfl, by decide +kernel, rfl, by decide +kernel, by decide +kernel⟩
theorem ok_map_pair (T : Top K mg) : Has P w K mg base 2 "map_pair" ["m"] (spR K R_map_pair) := by
  obtain ⟨f, fd, g, Fd⟩ := T.def_ 25 d_map_pair rfl
  have nd := sc_map_pair.nd
  have h_poly_of := ok_poly_of (P := P) (w := w) (base := base) T
  refine has_of g Fd sc_map_pair (fun _ _ _ _ _ _ us hl => match us, hl with | [_], _ => rfl) (fun _ _ h => by cases h <;> rfl) fun cdv A outer s H E hr ds d h => ?_
  refine ⟨_, (pss_cons (ps_asg (pv 0) (pg_tup rfl (pgs_cons (pg_name (i := 1) nd rfl (Or.inl rfl)) (pgs_cons (pg_name (i := 2) nd rfl (Or.inl rfl)) (pgs_cons (pg_name (i := 3) nd rfl (Or.inl rfl)) (pgs_cons (pg_name (i := 4) nd rfl (Or.inl rfl)) (pgs_cons (pg_name (i := 5) nd rfl (Or.inl rfl)) (pgs_cons (pg_name (i := 6) nd rfl (Or.inl rfl)) pgs_nil)))))))) (pss_one (ps_ret (pe_tup (pa_cons (pe_callH h_poly_of hr (by decide) rfl (pa_cons (pe_dispT hr.units (pps_cons (pe_tup (pa_cons pe_int (pa_cons pe_int pa_nil))) (pv 1) (pps_cons (pe_tup (pa_cons pe_int (pa_cons pe_int pa_nil))) (pv 2) (pps_cons (pe_tup (pa_cons pe_int (pa_cons pe_int pa_nil))) (pv 3) pps_nil))) (by rfl) (by rfl) (fun z => by cases z) (by decide)) pa_nil)) (pa_cons (pe_callH h_poly_of hr (by decide) rfl (pa_cons (pe_dispT hr.units (pps_cons (pe_tup (pa_cons pe_int (pa_cons pe_int pa_nil))) (pv 4) (pps_cons (pe_tup (pa_cons pe_int (pa_cons pe_int pa_nil))) (pv 5) (pps_cons (pe_tup (pa_cons pe_int (pa_cons pe_int pa_nil))) (pv 6) pps_nil))) (by rfl) (by rfl) (fun z => by cases z) (by decide)) pa_nil)) pa_nil)))))), ?_⟩
  cases h with
  | mk q m =>
  have lin : ∀ a b c : F q, kvD (linL a b c) = putsD [] [([1, 0], nD a), ([0, 1], nD b), ([0, 0], nD c)] := fun a b c => by rfl
  exact run_asg (ed_var rfl) (bd_tup rfl (bds_cons (bds_cons (bds_cons (bds_cons (bds_cons (bds_cons bds_nil))))))) (run_last (run_ret (ed_tup (ea2
    (ed_readF (s := kvD (linL m.a m.b m.c)) (by rw [lin]; exact ef_dispT (ep_cons (ea2 ed_int ed_int) (Nat.le_of_ble_eq_true rfl) (ed_var rfl) (ep_cons (ea2 ed_int ed_int) (Nat.le_of_ble_eq_true rfl) (ed_var rfl) (ep_cons (ea2 ed_int ed_int) (Nat.le_of_ble_eq_true rfl) (ed_var rfl) ep_nil))) (Nat.le_of_ble_eq_true rfl)) (R_poly_of.mk q _ (linL_nd _ _ _) (Nat.le_of_ble_eq_true rfl)))
    (ed_readF (s := kvD (linL m.d m.e m.f)) (by rw [lin]; exact ef_dispT (ep_cons (ea2 ed_int ed_int) (Nat.le_of_ble_eq_true rfl) (ed_var rfl) (ep_cons (ea2 ed_int ed_int) (Nat.le_of_ble_eq_true rfl) (ed_var rfl) (ep_cons (ea2 ed_int ed_int) (Nat.le_of_ble_eq_true rfl) (ed_var rfl) ep_nil))) (Nat.le_of_ble_eq_true rfl)) (R_poly_of.mk q _ (linL_nd _ _ _) (Nat.le_of_ble_eq_true rfl)))) (le5 rfl))))
end
end K19

/-! TEXT K19R7 -/
set_option Elab.async false
set_option linter.all false
set_option maxRecDepth 100000
set_option maxHeartbeats 2000000
set_option autoImplicit false
/-! FURTHER RULES, 7: rows (a dict of lists, ints its keys), list sums, max, range downwards. -/
namespace K19
open PySem PySem.Spec PyProof.Rows L2
open Evl (Ex)
abbrev KVI := List (Int × List PyData)
def lkI (s : KVI) (k : Int) : Option (List PyData) := (s.find? fun x => decide (x.1 = k)).map Prod.snd
def putI (s : KVI) (k : Int) (d : List PyData) : KVI := if (s.any fun x => decide (x.1 = k)) = true then s.map (fun x => if x.1 = k then (x.1, d) else x) else s ++ [(k, d)]
theorem putI_len (s : KVI) (k : Int) (d : List PyData) : (putI s k d).length ≤ s.length + 1 := by
  unfold putI
  split <;> simp
theorem inl_inj {k l : Int} : (Sum.inl k : Key) = .inl l ↔ k = l := ⟨fun h => Sum.inl.inj h, fun h => by rw [h]⟩
section
variable {K : PySem.W.Frag} {D : Hp} {r : List (Key × V)} {s : KVI}
theorem dikV_any (h : DikV K D r s) (k : Int) : (r.any fun x => decide (x.1 = Sum.inl k)) = (s.any fun x => decide (x.1 = k)) := by
  induction h with
  | nil => rfl
  | cons _ _ t ih =>
    rw [List.any_cons, List.any_cons, ih]
    congr 1
    exact decide_eq_decide.mpr inl_inj
theorem dikV_map (h : DikV K D r s) (k : Int) {l : Addr} {ws : List V} {d : List PyData} (p : D l = some (.lst ws)) (a : DpAll K D ws d) : DikV K D (r.map fun x => if x.1 = Sum.inl k then (x.1, V.ref l) else x) (s.map fun x => if x.1 = k then (x.1, d) else x) := by
  induction h with
  | nil => exact .nil
  | @cons k' l' ws' ds' r s p2 a2 t ih =>
    rw [List.map_cons, List.map_cons]
    by_cases z : k' = k
    · subst z
      rw [if_pos rfl, if_pos rfl]
      exact .cons p a ih
    · rw [if_neg (fun e => z (inl_inj.mp e)), if_neg z]
      exact .cons p2 a2 ih
theorem dikV_snoc {k : Int} {l : Addr} {ws : List V} {d : List PyData} (p : D l = some (.lst ws)) (a : DpAll K D ws d) (h : DikV K D r s) : DikV K D (r ++ [(.inl k, .ref l)]) (s ++ [(k, d)]) := by
  induction h with
  | nil => exact .cons p a .nil
  | cons p2 a2 t ih => exact .cons p2 a2 ih
theorem dikV_put (h : DikV K D r s) {k : Int} {l : Addr} {ws : List V} {d : List PyData} (p : D l = some (.lst ws)) (a : DpAll K D ws d) : DikV K D (putK r (.inl k) (.ref l)) (putI s k d) := by
  unfold putK putI
  rw [dikV_any h k]
  split
  · exact dikV_map h k p a
  · exact dikV_snoc p a h
theorem dikV_len (h : DikV K D r s) : r.length = s.length := by
  induction h with
  | nil => rfl
  | cons _ _ _ ih => rw [List.length_cons, List.length_cons, ih]
theorem dikV_keys (h : DikV K D r s) : r.map (fun kv => kV kv.1) = (s.map Prod.fst).map V.int := by
  induction h with
  | nil => rfl
  | cons _ _ _ ih =>
    rw [List.map_cons, List.map_cons, List.map_cons, ih]
    rfl
theorem dikV_look (h : DikV K D r s) (k : Int) : match lkI s k with
    | none => valV r (.inl k) = none
    | some ds => ∃ l ws, valV r (.inl k) = some (.ref l) ∧ D l = some (.lst ws) ∧ DpAll K D ws ds := by
  induction h with
  | nil => rfl
  | @cons k' l' ws' ds' r s p a t ih =>
    by_cases z : k' = k
    · subst z
      have e1 : lkI ((k', ds') :: s) k' = some ds' := by
        unfold lkI
        rw [List.find?_cons, decide_eq_true rfl]
        rfl
      rw [e1]
      exact ⟨l', ws', valV_pos rfl, p, a⟩
    · have e1 : lkI ((k', ds') :: s) k = lkI s k := by
        unfold lkI
        rw [List.find?_cons, decide_eq_false z]
      rw [e1, valV_neg (fun e => z (inl_inj.mp e))]
      exact ih
end
section
variable {K : PySem.W.Frag} {ρ ρ' : Ro} {xs ys ds : List PyData} {te ta tb tc tx ty tv : TE} {d x z : PyData} {s : KVI} {k : Int}
theorem dk_own {σ : L2.St} {D H0 H : Hp} {i : Nat} {p : Addr} (sl : Sl K σ D H0 H ρ) (h : ρ[i]? = some (.own p (.dk s))) : σ[i]? = some (some (.ref p)) ∧ D p = none ∧ ∃ r, H p = some (.dK r) ∧ DikV K D r s := by
  obtain ⟨a, b, _, u, e, o⟩ := sl.own i p _ h
  cases o with
  | dk o => exact ⟨a, b, _, e, o⟩
theorem ef_dnewK : EdF K tDNewK ρ (.dk []) := fun σ D H0 H e sl Q q => fun p hp => q p _ D H (Stp.rfl' e) hp (.dk .nil)
theorem run_par3F {i j l : Nat} {t2 : TS} {r : Rs} {o : OD} (h : Ed K ta ρ x) (h2 : EdF K tb ρ o) (h3 : Ed K tc ρ z) (hij : i ≠ j) (hn : ∀ p, Run K t2 (((ρ.set j (.own p o)).set i (.dat x)).set l (.dat z)) r) : Run K (tSeq (tPar3 i j l (tCons ta (tCons tb (tCons tc tNil)))) t2) ρ r := fun σ H0 D H E t sl q =>
  h σ D H0 H t.s sl _ fun v D1 H1 t1 p1 => h2 σ D1 H0 H1 t1.s (sl.mono t1) _ fun p u D2 H2 t2' hp p2 => by
    have tt := t1.tr t2'
    have ug := t.go tt
    have s2 := (sl.mono tt).new j ug.h ug.s hp p2
    have t4 : Stp D2 H0 D2 (upd H2 p u) := ⟨Ex.refl D2, ug.h.trans (Ex.new hp), ug.s.trans (Ex.new hp), fun _ _ _ _ h => h⟩
    refine h3 σ D2 H0 _ t4.s (sl.mono (tt.tr (Stp.tmp (o := u) tt.s hp))) _ fun w D3 H3 t5 p3 => ⟨v, .ref p, w, rfl, ?_⟩
    have s3 := ((s2.mono t5).set i (dpX (t2'.d.trans t5.d) p1)).set l p3
    have e : ((σ.set j (some (.ref p))).set i (some v)).set l (some w) = ((σ.set i (some v)).set j (some (.ref p))).set l (some w) := by rw [List.set_comm _ _ hij]
    rw [e] at s3
    exact hn p _ H0 D3 H3 E (t4.go t5) s3 (q.of ((t.up tt).tr0 (t4.up t5)))
/-- rows[j] = rows.get(j, []) + [e] -/
theorem run_rput {i j : Nat} {p : Addr} {t2 : TS} {r : Rs} (hi : ρ[i]? = some (.own p (.dk s))) (hj : ρ[j]? = some (.dat (.int k))) (he : Ed K te ρ d) (hl : s.length < 100000) (hl2 : ((lkI s k).getD []).length < 100000) (hn : Run K t2 (ρ.set i (.own p (.dk (putI s k ((lkI s k).getD [] ++ [d]))))) r) :
    Run K (tSeq (sDPut (tVar i) (tVar j) (tOp rCat (tDGet2 (tVar i) (tVar j) (tLst tNil)) (tLst (tCons te tNil)))) t2) ρ r := fun σ H0 D H E t sl q => by
  obtain ⟨a, _, r0, hr0, _⟩ := dk_own sl hi
  obtain ⟨vk, k1, k2⟩ := sl.at_ j _ hj
  rw [dp_int k2] at k1
  refine ⟨_, a, p, rfl, .inl ⟨r0, .inl hr0⟩, _, k1, by show 0 ≤ sizeLine; exact Nat.zero_le _, fun a0 ha0 => ?_⟩
  have t1 : Stp D H D (upd H a0 (.lst [])) := Stp.tmp t.s ha0
  obtain ⟨_, _, r1, hr1, hd1⟩ := dk_own (sl.mono t1) hi
  refine ⟨valV r1 (.inl k), .inl ⟨r1, .inl k, .inl hr1, rfl, rfl⟩, he σ D H0 _ t1.s (sl.mono t1) _ fun v D2 H2 u2 p2 => ⟨by show 1 ≤ sizeLine; decide, fun b hb => ?_⟩⟩
  have t2' := t1.tr u2
  have t3 := t2'.tr (Stp.tmp (o := .lst [v]) t2'.s hb)
  -- the row so far
  have row : ∃ l ws, (valV r1 (.inl k)).getD (.ref a0) = .ref l ∧ upd H2 b (.lst [v]) l = some (.lst ws) ∧ DpAll K D2 ws ((lkI s k).getD []) := by
    have z := dikV_look hd1 k
    cases c : lkI s k with
    | none =>
      rw [c] at z
      rw [z]
      exact ⟨a0, [], rfl, (u2.tr (Stp.tmp (o := .lst [v]) u2.s hb)).h _ _ upd_same, .nil⟩
    | some ds =>
      rw [c] at z
      obtain ⟨l, ws, z1, z2, z3⟩ := z
      rw [z1]
      exact ⟨l, ws, rfl, t3.s _ _ (u2.d _ _ z2), dpA u2.d z3⟩
  obtain ⟨l, ws, e1, e2, e3⟩ := row
  rw [e1]
  refine ⟨l, b, ws, [v], rfl, rfl, e2, upd_same, sz100 (by rw [dpA_len e3]; show _ + 1 ≤ _; omega), fun c hc => ?_⟩
  have t4 := t3.tr (Stp.new (o := .lst (ws ++ [v])) t3.s hc)
  obtain ⟨a', _, r4, hr4, hd4⟩ := dk_own (sl.mono t4) hi
  have nn := Evl.fresh_back t3.s hc
  obtain ⟨w1, w2⟩ := own_chg (t.go t4) (sl.mono t4) hi (OdV.dk (dikV_put hd4 (k := k) (l := c) upd_same (dpA (Ex.new nn) (dpA_app e3 (.cons p2 .nil)))))
  exact ⟨_, a', _, k1, p, _, rfl, DPut.k (k := .inl k) hr4 (Nat.lt_of_lt_of_le (by rw [dikV_len hd4]; exact hl) (by decide)), hn σ H0 _ _ E w1 w2 (q.of (t.up t4))⟩
/-- rows.get(j, []) -/
theorem ed_rget {i : Nat} {p : Addr} (hi : ρ[i]? = some (.own p (.dk s))) (hj : Ed K ty ρ (.int k)) : Ed K (tDGet2 (tVar i) ty (tLst tNil)) ρ (.list ((lkI s k).getD [])) := fun σ D H0 H e sl Q q => by
  obtain ⟨a, _, r0, hr0, _⟩ := dk_own sl hi
  refine ⟨_, a, p, rfl, .inl ⟨r0, .inl hr0⟩, hj σ D H0 H e sl _ fun v D1 H1 t1 p1 => ⟨Nat.zero_le _, fun a0 ha0 => ?_⟩⟩
  have t2 := t1.tr (Stp.tmp (o := .lst []) t1.s ha0)
  obtain ⟨_, _, r1, hr1, hd1⟩ := dk_own (sl.mono t2) hi
  refine ⟨valV r1 (.inl k), .inl ⟨r1, .inl k, .inl hr1, dp_int p1, rfl⟩, ?_⟩
  have z := dikV_look hd1 k
  cases c : lkI s k with
  | none =>
    rw [c] at z q
    rw [z]
    exact q (.ref a0) _ _ (t1.tr (Stp.new (o := .lst []) t1.s ha0)) (.lst (SqL.of upd_same) .nil)
  | some ds =>
    rw [c] at z q
    obtain ⟨l, ws, z1, z2, z3⟩ := z
    rw [z1]
    exact q (.ref l) _ _ t2 (.lst (SqL.of z2) z3)
/-- list(rows) -/
theorem en_keysR {i : Nat} {p : Addr} (hi : ρ[i]? = some (.own p (.dk s))) : EdN K (tCB rListD (tCons (tVar i) tNil)) ρ ((s.map Prod.fst).map PyData.int) := fun σ D H0 H e sl Q q => by
  obtain ⟨a, _, r0, hr0, hd⟩ := dk_own sl hi
  refine ⟨_, a, p, r0, rfl, hr0, fun l hl => q l _ D H (Stp.rfl' e) hl ?_⟩
  rw [dikV_keys hd]
  exact dpA_of_ints _
theorem en_cat (h : EdN K ta ρ xs) (h2 : EdN K tb ρ ys) (hl : xs.length + ys.length ≤ 100000) : EdN K (tOp rCat ta tb) ρ (xs ++ ys) := fun σ D H0 H e sl Q q =>
  h σ D H0 H e sl _ fun a vs D1 H1 t1 ha p1 => by
    have t2 := t1.tr (Stp.tmp (o := .lst vs) t1.s ha)
    refine h2 σ D1 H0 _ t2.s (sl.mono t2) _ fun b ws D2 H2 t3 hb p2 => ?_
    have g : H2 a = some (.lst vs) := t3.h a _ upd_same
    have t4 := (t2.tr t3).tr (Stp.tmp (o := .lst ws) t3.s hb)
    have p1' := dpA t3.d p1
    exact ⟨a, b, vs, ws, rfl, rfl, by rw [upd_ne (ne_of_none g hb)]; exact g, upd_same, sz100 (by rw [dpA_len p1', dpA_len p2]; exact hl), fun c hc => q c _ D2 _ t4 hc (dpA_app p1' p2)⟩
theorem en_lc {wi : TI} {g : TG} {tt : TT} {vs : List Nat} (p : PyData → Bool) (f : PyData → PyData) (hw : EdIH K wi ρ xs) (hl : xs.length ≤ 100000)
    (hs : ∀ (i : Nat) (x : PyData), xs[i]? = some x → ∃ ρ' is, Bd K g x (wipeR ρ vs) ρ' is ∧ (∀ j ∈ is, j ∈ vs) ∧ EdT K tt ρ' (p x) ∧ (p x = true → Ed K te ρ' (f x))) : EdN K (tLc wi g tt te vs) ρ (keep p f xs) := fun σ D H0 H s sl Q q =>
  ed_lcG (R := rlD K) p f hw hl hs σ D H0 H s sl Q fun L ws D' H' t n hL l a => by
    have z := q L ws D' (del H' L) ⟨t.d, fun a w e => by
      show (if a = L then none else H' a) = some w
      rw [if_neg (ne_of_none e hL)]
      exact t.h a w e, ex_del t.s n, t.n⟩ (if_pos rfl) (rlA_dp a)
    rw [upd_del l] at z
    exact z
theorem rc_max {ns : List Int} {m : Int} (h1 : m ∈ ns) (h2 : ∀ y ∈ ns, y ≤ m) : RdC K (rMax K) [.list (ns.map PyData.int)] (.int m) := fun vs D H s p Q q => by
  obtain ⟨v, rfl, p1⟩ := dpA1 p
  obtain ⟨a, ws, rfl, g1, g2⟩ := dp_lst p1
  have e := dpA_ints g2
  subst e
  refine ⟨a, ns, rfl, Evl.ex_l s g1, List.length_pos_of_mem h1, fun m' a1 a2 => ?_⟩
  have : m' = m := by
    have b1 := h2 m' a1
    have b2 := a2 m h1
    omega
  rw [this]
  exact q _ D H (Stp.rfl' s) (.int _)
/-- range(hi, -1, -1) -/
theorem ei_rangeD {ta : TA} {hi : Int} (h : EdA K ta ρ [.int hi, .int (-1), .int (-1)]) (h1 : -(2 ^ 62) ≤ hi) (h2 : hi < 2 ^ 62) : EdI K (iRng3 ta) ρ ((List.range (hi + 1).toNat).map fun i : Nat => PyData.int (hi - i)) := fun σ D H0 H s sl R q =>
  h σ D H0 H s sl _ fun vs D1 H1 t1 p1 => by
    obtain ⟨v, u, w, rfl, pv, pu, pw⟩ := dpA3 p1
    rw [dp_int pv, dp_int pu, dp_int pw]
    refine ⟨hi, -1, -1, (hi - -1).toNat, rfl, RgC.neg h1 h2 (by decide) (by decide), q _ D1 H1 t1 fun D2 H2 e s2 => ⟨fun i x hx => ?_, ?_⟩⟩
    · have hi2 : i < (hi + 1).toNat := by
        have := (List.getElem?_eq_some_iff.mp hx).1
        simpa using this
      rw [List.getElem?_map, List.getElem?_range hi2] at hx
      cases hx
      refine ⟨by show i < (hi - -1).toNat; omega, fun v H' hy => ?_⟩
      obtain ⟨rfl, rfl⟩ := hy
      have : hi + (i : Int) * -1 = hi - i := by omega
      rw [this]
      exact ⟨D2, Stp.rfl' s2, .int _⟩
    · show (hi - -1).toNat ≤ _
      rw [List.length_map, List.length_range]
      omega
end
end K19

/-! TEXT K19W10 -/
set_option Elab.async false
set_option linter.all false
set_option maxRecDepth 100000
set_option maxHeartbeats 4000000
set_option autoImplicit false
/-! The walks, 10: one polynomial put into another; the pair of a step. -/
namespace K19
open PySem PySem.Spec PyProof.Rows L2
open Evl (Ex)
theorem run_unset {K : PySem.W.Frag} {ρ : Ro} {t : TS} {r : Rs} (i : Nat) (h : Run K t (ρ.set i .no) r) : Run K t ρ r := fun σ H0 D H E t' sl q => h σ H0 D H E t' (sl.hold i .no (fun d h => nomatch h) fun p o h => nomatch h) q
section
variable {q : Nat} [Fld q]
theorem bndI_snoc (c : F q) : ∀ (b : List (F q)) (j : Nat), bndI j (b ++ [c]) = bndI j b ++ [((0, j + b.length), c)]
  | [], j => rfl
  | x :: b, j => by
    show ((0, j), x) :: bndI (j + 1) (b ++ [c]) = ((0, j), x) :: (bndI (j + 1) b ++ _)
    rw [bndI_snoc c b (j + 1), List.length_cons]
    have : j + 1 + b.length = j + (b.length + 1) := by omega
    rw [this]
theorem bndL_put (b : List (F q)) (c : F q) : putP (bndL b) (0, b.length) c = bndL (b ++ [c]) := by
  have hn : ((bndL b).any fun t => decide (t.1 = (0, b.length))) = false := by
    rw [Bool.eq_false_iff]
    intro e
    obtain ⟨t, ht, e⟩ := List.any_eq_true.mp e
    have e := of_decide_eq_true e
    rcases List.mem_cons.mp ht with rfl | ht
    · have := congrArg Prod.fst e
      exact absurd (show (1 : Nat) = 0 from this) (by decide)
    · obtain ⟨_, _, h3⟩ := bndI_key b 0 t ht
      rw [e] at h3
      have h3 : b.length < 0 + b.length := h3
      omega
  unfold putP
  rw [if_neg (by rw [hn]; exact Bool.false_ne_true)]
  unfold bndL
  rw [bndI_snoc, Nat.zero_add]
  rfl
theorem bndL_len (b : List (F q)) : (bndL b).length = b.length + 1 := by
  have : ∀ (b : List (F q)) (j : Nat), (bndI j b).length = b.length := fun b => by
    induction b with
    | nil => exact fun j => rfl
    | cons x b ih => exact fun j => congrArg Nat.succ (ih (j + 1))
  exact congrArg Nat.succ (this b 0)
/-! ### rows -/
abbrev rxD (x : Nat × F q) : PyData := .tuple [.int x.1, nD x.2]
def rowsF (acc : KVI) (l : PL q) : KVI := l.foldl (fun s t => putI s t.1.2 ((lkI s t.1.2).getD [] ++ [rxD (t.1.1, t.2)])) acc
theorem lkI_put (s : KVI) (k k' : Int) (d : List PyData) : (lkI (putI s k d) k').getD [] = if k = k' then d else (lkI s k').getD [] := by
  have lm : ∀ (s : KVI), lkI (s.map fun x => if x.1 = k then (x.1, d) else x) k' = if k = k' ∧ (s.any fun x => decide (x.1 = k)) = true then some d else lkI s k' := fun s => by
    induction s with
    | nil =>
      rw [if_neg (fun z => by simp at z)]
      rfl
    | cons x s ih =>
      unfold lkI at ih ⊢
      rw [List.map_cons, List.find?_cons, List.find?_cons, List.any_cons]
      by_cases e : x.1 = k
      · rw [if_pos e]
        by_cases e2 : k = k'
        · rw [decide_eq_true (e.trans e2), if_pos ⟨e2, by rw [decide_eq_true e]; rfl⟩]
          rfl
        · rw [decide_eq_false (fun z => e2 (e.symm.trans z)), ih, if_neg (fun z => e2 z.1), if_neg (fun z => e2 z.1)]
      · rw [if_neg e, decide_eq_false e, Bool.false_or]
        by_cases e2 : x.1 = k'
        · rw [decide_eq_true e2, if_neg (fun z => e (e2.trans z.1.symm))]
        · rw [decide_eq_false e2]
          exact ih
  have la : ∀ (s : KVI), (s.any fun x => decide (x.1 = k)) = false → lkI (s ++ [(k, d)]) k' = if k = k' then some d else lkI s k' := fun s => by
    induction s with
    | nil =>
      intro _
      unfold lkI
      show ((match decide (k = k') with | true => some (k, d) | false => none) : Option _).map _ = _
      by_cases e : k = k'
      · rw [decide_eq_true e, if_pos e] <;> rfl
      · rw [decide_eq_false e, if_neg e] <;> rfl
    | cons x s ih =>
      intro h
      rw [List.any_cons, Bool.or_eq_false_iff] at h
      have h1 := of_decide_eq_false h.1
      have h2 := ih h.2
      unfold lkI at h2 ⊢
      rw [List.cons_append, List.find?_cons, List.find?_cons]
      by_cases e : x.1 = k'
      · rw [decide_eq_true e, if_neg (fun z => h1 (e.trans z.symm))]
      · rw [decide_eq_false e]
        exact h2
  unfold putI
  by_cases c : (s.any fun x => decide (x.1 = k)) = true
  · rw [if_pos c, lm]
    by_cases e : k = k'
    · rw [if_pos ⟨e, c⟩, if_pos e]
      rfl
    · rw [if_neg (fun z => e z.1), if_neg e]
  · rw [if_neg c, la s (Bool.not_eq_true _ ▸ c)]
    by_cases e : k = k'
    · rw [if_pos e, if_pos e]
      rfl
    · rw [if_neg e, if_neg e]
theorem rowsF_look (j : Nat) : ∀ (l : PL q) (acc : KVI), (lkI (rowsF acc l) j).getD [] = (lkI acc j).getD [] ++ (rowP l j).map rxD
  | [], acc => (List.append_nil _).symm
  | t :: l, acc => by
    show (lkI (rowsF (putI acc t.1.2 _) l) j).getD [] = _
    rw [rowsF_look j l, lkI_put]
    unfold rowP
    rw [List.filter_cons]
    by_cases e : t.1.2 = j
    · rw [if_pos (by omega), if_pos (decide_eq_true e), List.map_cons, List.map_cons, List.append_assoc, e]
      rfl
    · rw [if_neg (by omega), if_neg (by simpa using e)]
theorem keys_putI (s : KVI) (k : Int) (d : List PyData) (x : Int) : x ∈ (putI s k d).map Prod.fst ↔ x ∈ s.map Prod.fst ∨ x = k := by
  unfold putI
  split
  · rename_i c
    have e : (s.map fun y => if y.1 = k then (y.1, d) else y).map Prod.fst = s.map Prod.fst := by
      rw [List.map_map]
      refine List.map_congr_left fun y _ => ?_
      show (if y.1 = k then (y.1, d) else y).1 = y.1
      split <;> rfl
    rw [e]
    constructor
    · exact .inl
    · rintro (h | rfl)
      · exact h
      · obtain ⟨y, hy, e⟩ := List.any_eq_true.mp c
        exact List.mem_map.mpr ⟨y, hy, of_decide_eq_true e⟩
  · rw [List.map_append, List.mem_append]
    constructor
    · rintro (h | h)
      · exact .inl h
      · exact .inr (List.mem_singleton.mp h)
    · rintro (h | h)
      · exact .inl h
      · exact .inr (List.mem_singleton.mpr h)
theorem rowsF_keys (x : Int) : ∀ (l : PL q) (acc : KVI), x ∈ (rowsF acc l).map Prod.fst ↔ x ∈ acc.map Prod.fst ∨ ∃ t ∈ l, x = (t.1.2 : Int)
  | [], acc => by
    constructor
    · exact .inl
    · rintro (h | ⟨t, h, _⟩)
      · exact h
      · cases h
  | t :: l, acc => by
    show x ∈ (rowsF (putI acc t.1.2 _) l).map Prod.fst ↔ _
    rw [rowsF_keys x l, keys_putI]
    constructor
    · rintro ((h | h) | ⟨s, h, e⟩)
      · exact .inl h
      · exact .inr ⟨t, List.mem_cons_self, h⟩
      · exact .inr ⟨s, List.mem_cons_of_mem _ h, e⟩
    · rintro (h | ⟨s, h, e⟩)
      · exact .inl (.inl h)
      · rcases List.mem_cons.mp h with rfl | h
        · exact .inl (.inr e)
        · exact .inr ⟨s, h, e⟩
theorem rowsF_len : ∀ (l : PL q) (acc : KVI), (rowsF acc l).length ≤ acc.length + l.length
  | [], acc => Nat.le_refl _
  | t :: l, acc => by
    show (rowsF (putI acc t.1.2 _) l).length ≤ _
    have h1 := rowsF_len l (putI acc t.1.2 ((lkI acc t.1.2).getD [] ++ [rxD (t.1.1, t.2)]))
    have h2 := putI_len acc t.1.2 ((lkI acc t.1.2).getD [] ++ [rxD (t.1.1, t.2)])
    rw [List.length_cons]
    omega
theorem rowsF_snoc (l : PL q) (t : (Nat × Nat) × F q) : rowsF [] (l ++ [t]) = putI (rowsF [] l) t.1.2 ((lkI (rowsF [] l) t.1.2).getD [] ++ [rxD (t.1.1, t.2)]) := by
  unfold rowsF
  rw [List.foldl_append]
  rfl
theorem rowP_len (l : PL q) (j : Nat) : (rowP l j).length ≤ l.length := by
  unfold rowP
  rw [List.length_map]
  exact List.length_filter_le _ _
def mxP (l : PL q) : Nat := l.foldr (fun t m => max m t.1.1) 0
theorem mxP_ge : ∀ {l : PL q}, ∀ t ∈ l, t.1.1 ≤ mxP l
  | x :: l, t, h => by
    show t.1.1 ≤ max (mxP l) x.1.1
    rcases List.mem_cons.mp h with rfl | h
    · omega
    · have := mxP_ge t h
      omega
theorem mxP_in : ∀ l : PL q, mxP l = 0 ∨ ∃ t ∈ l, mxP l = t.1.1
  | [] => .inl rfl
  | x :: l => by
    have e : mxP (x :: l) = max (mxP l) x.1.1 := rfl
    by_cases c : mxP l ≤ x.1.1
    · exact .inr ⟨x, List.mem_cons_self, by omega⟩
    · rcases mxP_in l with h | ⟨t, h, h2⟩
      · omega
      · exact .inr ⟨t, List.mem_cons_of_mem _ h, by omega⟩
theorem topJ_in : ∀ l : PL q, topJ l = 0 ∨ ∃ t ∈ l, topJ l = t.1.2 + 1
  | [] => .inl rfl
  | x :: l => by
    have e : topJ (x :: l) = max (topJ l) (x.1.2 + 1) := rfl
    by_cases c : topJ l ≤ x.1.2 + 1
    · exact .inr ⟨x, List.mem_cons_self, by omega⟩
    · rcases topJ_in l with h | ⟨t, h, h2⟩
      · omega
      · exact .inr ⟨t, List.mem_cons_of_mem _ h, by omega⟩
end
inductive R_put_poly : List PyData → PyData → Prop
  | mk (q : Nat) [Fld q] (l f g : PL q) (d e : Nat) (hl : Pn d l) (hf : Pn e f) (hg : Pn e g) (hb : (d + 1) * (e + 1) ≤ 100) : R_put_poly [.int q, PT l, .tuple [PT f, PT g]] (PT (plugP leK l f g))
section
variable {P : Program} {w : World} {K : PySem.W.Frag} {mg : Str → Option Value} {base : Heap}
abbrev N_bend_pair : List Str := ["bend", "found", "j", "c"]
theorem sc_bend_pair : FnScope N_bend_pair ["bend"] (defScope s_bend_pair) := ⟨rfl, rfl, rfl, by decide +kernel, rfl, by decide +kernel, by decide +kernel⟩
theorem ok_bend_pair (T : Top K mg) : Has P w K mg base 2 "bend_pair" ["bend"] (spR K R_bend_pair) := by
  obtain ⟨f, fd, g, Fd⟩ := T.def_ 26 d_bend_pair rfl
  have nd := sc_bend_pair.nd
  have h_poly_of := ok_poly_of (P := P) (w := w) (base := base) T
  refine has_of g Fd sc_bend_pair (fun _ _ _ _ _ _ us hl => match us, hl with | [_], _ => rfl) (fun _ _ h => by cases h <;> rfl) fun cdv A outer s H E hr ds d h => ?_
  refine ⟨_, (pss_cons (ps_set (i := 1) nd rfl (Or.inl rfl) (pe_dispT hr.units (pps_cons (pe_tup (pa_cons pe_int (pa_cons pe_int pa_nil))) pe_int pps_nil) (by rfl) (by rfl) (fun z => by cases z) (by decide))) (pss_cons (ps_for PassesOwn.never rfl (pi_enumT rfl (T.free 3 _ rfl) (pa_cons (pv 0) pa_nil)) (pg_tup rfl (pgs_cons (pg_name (i := 2) nd rfl (Or.inl rfl)) (pgs_cons (pg_name (i := 3) nd rfl (Or.inl rfl)) pgs_nil))) (pss_one (ps_dput hr.u1 (pv 1) (pe_tup (pa_cons pe_int (pa_cons (pv 2) pa_nil))) (pv 3) rfl))) (pss_one (ps_ret (pe_tup (pa_cons (pe_callH h_poly_of hr (by decide) rfl (pa_cons (pv 1) pa_nil)) (pa_cons (pe_tup (pa_cons (pe_tup (pa_cons pe_int (pa_cons pe_int (pa_cons pe_int pa_nil)))) pa_nil)) pa_nil))))))), ?_⟩
  cases h with
  | mk q b hl =>
  refine run_newF (o := .dt (kvD (bndL (b.take 0)))) (ef_dispT (s := [([1, 0], nD (1 : F q))]) (ep_cons (k := [1, 0]) (ea2 ed_int ed_int) (Nat.le_of_ble_eq_true rfl) (ed_to ed_int nD1.symm) ep_nil) (Nat.le_of_ble_eq_true rfl)) fun p => ?_
  have bl : (enD (b.map nD)).length = b.length := by rw [enD_len, len_tD]
  refine run_for (fun i => [.dat (tD b), .own p (.dt (kvD (bndL (b.take i)))), (if i = 0 then .no else .dat (.int ((i - 1 : Nat) : Int))), prv (b.map nD) i]) (ei_enumT (ea1 (ed_var rfl))) rfl (fun i x hx => ?_) ?_
  · have hi : i < b.length := by
      have := (List.getElem?_eq_some_iff.mp hx).1
      omega
    obtain ⟨y, hy, rfl⟩ := enD_at hx
    have hy2 := hy
    rw [at_nD hi] at hy2
    cases hy2
    have e1 : b.take (i + 1) = b.take i ++ [co b i] := by
      rw [List.take_add_one, co_some hi]
      rfl
    have lt : (b.take i).length = i := by rw [List.length_take]; omega
    refine ⟨_, _, bd_tup rfl (bds_cons (bds_cons bds_nil)), run_last (run_dput (k := kz (0, i)) rfl (ed_var rfl) (ea2 ed_int (ed_var rfl)) (Nat.le_of_ble_eq_true rfl) (by rw [kvD_len, bndL_len]; omega) (run_end.to ?_))⟩
    rw [prv_at hy, if_neg (Nat.succ_ne_zero i), kvD_put, e1, ← bndL_put, lt]
    rfl
  · rw [bl, List.take_length]
    refine run_last (run_ret (ed_to (ed_tup (ea2 (ed_readV (i := 1) rfl (R_poly_of.mk q _ (bndL_nd b) (by rw [bndL_len]; omega))) (ed_tup (ea1 (ed_tup (ea3 ed_int ed_int ed_int) (le5 rfl))) (le5 rfl))) (le5 rfl)) ?_))
    show PyData.tuple [_, .tuple [.tuple [.int 0, .int 1, .int 1]]] = PyData.tuple [_, .tuple [.tuple [.int (0 : Nat), .int (1 : Nat), nD (1 : F q)]]]
    rw [nD1]
    rfl
abbrev N_determinant : List Str := ["q", "pair", "F", "G", "one", "other"]
theorem sc_determinant : FnScope N_determinant ["q", "pair"] (defScope s_determinant) := ⟨rfl, rfl, rfl, by decide +kernel, rfl, by decide +kernel, by decide +kernel⟩
theorem ok_determinant (T : Top K mg) : Has P w K mg base 4 "determinant" ["q", "pair"] (spR K R_determinant) := by
  obtain ⟨f, fd, g, Fd⟩ := T.def_ 29 d_determinant rfl
  have nd := sc_determinant.nd
  have h_sum_poly := ok_sum_poly (P := P) (w := w) (base := base) T
  have h_opposite := ok_opposite (P := P) (w := w) (base := base) T
  have h_product_poly := ok_product_poly (P := P) (w := w) (base := base) T
  have h_slope := ok_slope (P := P) (w := w) (base := base) T
  refine has_of g Fd sc_determinant (fun _ _ _ _ _ _ us hl => match us, hl with | [_, _], _ => rfl) (fun _ _ h => by cases h <;> rfl) fun cdv A outer s H E hr ds d h => ?_
  refine ⟨_, (pss_cons (ps_asg (pv 1) (pg_tup rfl (pgs_cons (pg_name (i := 2) nd rfl (Or.inl rfl)) (pgs_cons (pg_name (i := 3) nd rfl (Or.inl rfl)) pgs_nil)))) (pss_cons (ps_set (i := 4) nd rfl (Or.inl rfl) (pe_callH h_product_poly hr (by decide) rfl (pa_cons (pv 0) (pa_cons (pe_callH h_slope hr (by decide) rfl (pa_cons (pv 0) (pa_cons (pv 2) (pa_cons pe_str pa_nil)))) (pa_cons (pe_callH h_slope hr (by decide) rfl (pa_cons (pv 0) (pa_cons (pv 3) (pa_cons pe_str pa_nil)))) pa_nil))))) (pss_cons (ps_set (i := 5) nd rfl (Or.inl rfl) (pe_callH h_product_poly hr (by decide) rfl (pa_cons (pv 0) (pa_cons (pe_callH h_slope hr (by decide) rfl (pa_cons (pv 0) (pa_cons (pv 2) (pa_cons pe_str pa_nil)))) (pa_cons (pe_callH h_slope hr (by decide) rfl (pa_cons (pv 0) (pa_cons (pv 3) (pa_cons pe_str pa_nil)))) pa_nil))))) (pss_one (ps_ret (pe_callH h_sum_poly hr (by decide) rfl (pa_cons (pv 0) (pa_cons (pv 4) (pa_cons (pv 5) (pa_cons (pe_callH h_opposite hr (by decide) rfl (pa_cons (pv 0) (pa_cons pe_int pa_nil))) pa_nil)))))))))), ?_⟩
  cases h with
  | mk q a b n ha hb hl =>
  obtain ⟨x1, _⟩ := slopeX_ok (le := leK) ha
  obtain ⟨y1, _⟩ := slopeY_ok (le := leK) ha
  obtain ⟨z1, _⟩ := slopeX_ok (le := leK) hb
  obtain ⟨w1, _⟩ := slopeY_ok (le := leK) hb
  obtain ⟨p1, _⟩ := prodP_ok (le := leK) x1 w1
  obtain ⟨r1, _⟩ := prodP_ok (le := leK) y1 z1
  have la := pn_len ha (by omega)
  have lb := pn_len hb (by omega)
  have m1 := pl_len p1.po.nd p1.dg
  have m2 := pl_len r1.po.nd r1.dg
  have m3 : (n + n + 1) * (n + n + 1) ≤ 81 * 81 := Nat.mul_le_mul (by omega) (by omega)
  exact run_asg (ed_var rfl) (bd_tup rfl (bds_cons (bds_cons bds_nil))) (run_set (ed_call (ea3 (ed_var rfl) (ed_call (ea3 (ed_var rfl) (ed_var rfl) ed_str) (R_slope.x q a ha.po.nd (by omega))) (ed_call (ea3 (ed_var rfl) (ed_var rfl) ed_str) (R_slope.y q b hb.po.nd (by omega)))) (R_product_poly.mk q _ _ n n x1 w1 (by omega)))
    (run_set (ed_call (ea3 (ed_var rfl) (ed_call (ea3 (ed_var rfl) (ed_var rfl) ed_str) (R_slope.y q a ha.po.nd (by omega))) (ed_call (ea3 (ed_var rfl) (ed_var rfl) ed_str) (R_slope.x q b hb.po.nd (by omega)))) (R_product_poly.mk q _ _ n n y1 z1 (by omega)))
    (run_last (run_ret (ed_call (ea4 (ed_var rfl) (ed_var rfl) (ed_var rfl) (ed_call (ea2 (ed_var rfl) (ed_to ed_int nD1.symm)) (R_opposite.mk q 1))) (R_sum_poly.mk q _ _ (-1) p1.po.nd (by omega)))))))
end
end K19

/-! TEXT K19W11 -/
set_option Elab.async false
set_option linter.all false
set_option maxRecDepth 100000
set_option maxHeartbeats 4000000
set_option autoImplicit false
/-! The walks, 11: one polynomial put into another; the pair of a step. -/
namespace K19
open PySem PySem.Spec PyProof.Rows L2
open Evl (Ex)
inductive R_pair_then : List PyData → PyData → Prop
  | mk (q : Nat) [Fld q] (x y : PL q × PL q) (d e : Nat) (h1 : Pn d y.1) (h2 : Pn d y.2) (h3 : Pn e x.1) (h4 : Pn e x.2) (hb : (d + 1) * (e + 1) ≤ 100) : R_pair_then [.int q, .tuple [PT x.1, PT x.2], .tuple [PT y.1, PT y.2]] (.tuple [PT (thenP leK x y).1, PT (thenP leK x y).2])
inductive R_pair_of_row : List PyData → PyData → Prop
  | mk (q : Nat) [Fld q] (row : List (Pc q)) (hr : ∀ p ∈ row, ST.pcOk p) (hl : row.length ≤ 1000) (hb : rowDeg row ≤ 6) : R_pair_of_row [.int q, .tuple (row.map pD)] (.tuple [PT (rowPair leK row).1, PT (rowPair leK row).2])
inductive R_pair_of : List PyData → PyData → Prop
  | mk (q : Nat) [Fld q] (s : ST q) (hs : s.Ok) (hl : s.bends.length ≤ 100) (hb : rowDeg s.pieces ≤ 6) : R_pair_of [.int q, sD s] (.tuple [PT (rowPair leK s.pieces).1, PT (rowPair leK s.pieces).2])
section
variable {P : Program} {w : World} {K : PySem.W.Frag} {mg : Str → Option Value} {base : Heap}
abbrev N_put_poly : List Str := ["q", "poly", "pair", "most", "rows", "found", "i", "j", "c", "powers", "part"]
theorem sc_put_poly : FnScope N_put_poly ["q", "poly", "pair"] (defScope s_put_poly) := ⟨rfl, rfl, rfl, by decide +kernel, rfl, by decide +kernel, by decide +kernel⟩
theorem ok_put_poly (T : Top K mg) : Has P w K mg base 4 "put_poly" ["q", "poly", "pair"] (spR K R_put_poly) := by
  obtain ⟨f, fd, g, Fd⟩ := T.def_ 24 d_put_poly rfl
  have nd := sc_put_poly.nd
  have h_poly_of := ok_poly_of (P := P) (w := w) (base := base) T
  have h_add_poly := ok_add_poly (P := P) (w := w) (base := base) T
  have h_dict_of := ok_dict_of (P := P) (w := w) (base := base) T
  have h_product_poly := ok_product_poly (P := P) (w := w) (base := base) T
  have h_powers_poly := ok_powers_poly (P := P) (w := w) (base := base) T
  refine has_of g Fd sc_put_poly (fun _ _ _ _ _ _ us hl => match us, hl with | [_, _, _], _ => rfl) (fun _ _ h => by cases h <;> rfl) fun cdv A outer s H E hr ds d h => ?_
  refine ⟨_, (pss_cons (ps_par3 (i := 3) (j := 4) (l := 5) rfl nd rfl rfl rfl (by decide) (by decide) (by decide) rfl rfl rfl (pa_cons (pe_callB (cr_max rfl) rfl (T.free 8 _ rfl) (by decide +kernel) (pa_cons (pe_op op_cat (pe_lst (pa_cons pe_int pa_nil)) (pe_lc (own := [("i", 6), ("j", 7), ("c", 8)]) rfl nd (pi_tup (pv 1)) (blkOk_by (own := [("i", 6), ("j", 7), ("c", 8)]) (N := N_put_poly) (sc := defScope s_put_poly) (by decide +kernel)) (fun _ _ _ _ _ => (pg_tupK (K := K) (n := 3) rfl rfl (pgs_cons (pg_name (i := 6) nd rfl (Or.inl rfl)) (pgs_cons (pg_name (i := 7) nd rfl (Or.inl rfl)) (pgs_cons (pg_name (i := 8) nd rfl (Or.inl rfl)) pgs_nil))))) (fun _ _ _ _ _ => pts_nil) (fun _ _ _ _ _ => (pv 6)))) pa_nil)) (pa_cons pe_dnewK (pa_cons (pe_tup pa_nil) pa_nil))) rfl) (pss_cons (ps_for PassesOwn.never rfl (pi_tup (pv 1)) (pg_tup rfl (pgs_cons (pg_name (i := 6) nd rfl (Or.inl rfl)) (pgs_cons (pg_name (i := 7) nd rfl (Or.inl rfl)) (pgs_cons (pg_name (i := 8) nd rfl (Or.inl rfl)) pgs_nil)))) (pss_one (ps_dput hr.u1 (pv 4) (pv 7) (pe_op op_cat (pe_dget2 hr.u1 (pv 4) (pv 7) (pe_lst pa_nil) ⟨rfl, rfl, rfl, rfl⟩) (pe_lst (pa_cons (pe_tup (pa_cons (pv 6) (pa_cons (pv 8) pa_nil))) pa_nil))) rfl))) (pss_cons (ps_set (i := 9) nd rfl (Or.inl rfl) (pe_callH h_powers_poly hr (by decide) rfl (pa_cons (pv 0) (pa_cons (pe_ix ix_tup (pv 2) pe_int (fun _ _ => rfl)) (pa_cons (pv 3) pa_nil))))) (pss_cons (ps_for PassesOwn.never rfl (pi_range3 rfl (T.free 9 _ rfl) (pa_cons (pe_callB (cr_max rfl) rfl (T.free 8 _ rfl) (by decide +kernel) (pa_cons (pe_op op_cat (pe_lst (pa_cons (pe_un un_neg pe_int) pa_nil)) (pe_callTy (call_list_dK rfl) rfl (T.free 7 _ rfl) boot_list (pa_cons (pv 4) pa_nil))) pa_nil)) (pa_cons (pe_un un_neg pe_int) (pa_cons (pe_un un_neg pe_int) pa_nil)))) (pg_name (i := 7) nd rfl (Or.inl rfl)) (pss_cons (ps_set (i := 10) nd rfl (Or.inl rfl) (pe_callH h_dict_of hr (by decide) rfl (pa_cons (pe_callH h_product_poly hr (by decide) rfl (pa_cons (pv 0) (pa_cons (pv 5) (pa_cons (pe_ix ix_tup (pv 2) pe_int (fun _ _ => rfl)) pa_nil)))) pa_nil))) (pss_cons (ps_for PassesOwn.never rfl (pi_list (pe_dget2 hr.u1 (pv 4) (pv 7) (pe_lst pa_nil) ⟨rfl, rfl, rfl, rfl⟩)) (pg_tup rfl (pgs_cons (pg_name (i := 6) nd rfl (Or.inl rfl)) (pgs_cons (pg_name (i := 8) nd rfl (Or.inl rfl)) pgs_nil))) (pss_one (ps_expr (pe_callH h_add_poly hr (by decide) rfl (pa_cons (pv 0) (pa_cons (pv 10) (pa_cons (pe_ix ix_list (pv 9) (pv 6) (fun _ _ => rfl)) (pa_cons (pv 8) pa_nil)))))))) (pss_one (ps_set (i := 5) nd rfl (Or.inl rfl) (pe_callH h_poly_of hr (by decide) rfl (pa_cons (pv 10) pa_nil))))))) (pss_one (ps_ret (pv 5))))))), ?_⟩
  cases h with
  | mk q l f g d e hl hf hg hb =>
  have hd1 : d + 1 ≤ 100 := by
    have : (d + 1) * 1 ≤ (d + 1) * (e + 1) := Nat.mul_le_mul_left _ (by omega)
    omega
  have hde : (d + 1) * e ≤ 100 := Nat.le_trans (Nat.mul_le_mul_left _ (Nat.le_succ e)) hb
  have ll := pn_len hl (by omega)
  have hn := topJ_le hl.dg
  have hmx : mxP l ≤ d := by
    rcases mxP_in l with h | ⟨t, ht, h⟩
    · omega
    · have := hl.dg t ht
      omega
  have hne : (l.map fun t => PyData.int (t.1.1 : Nat)) = (l.map fun t => (t.1.1 : Int)).map PyData.int := by rw [List.map_map]; rfl
  refine run_par3F (ed_cb (ea1 (EdN.ed (EdN.to (en_cat (en_lst (ea1 ed_int) (le5 rfl)) (en_lc (fun _ => true) (fun d => match d with | .tuple [i, _, _] => i | _ => .none) (EdI.h (ei_tup (ed_var rfl))) (by rw [List.length_map]; omega) fun i x hx => ?_) ?_) (ys := (0 :: l.map fun t => (t.1.1 : Int)).map PyData.int) ?_))) (rc_max (m := (mxP l : Nat)) ?_ ?_)) ef_dnewK (ed_tup ea_nil (le5 rfl)) (by decide) fun p => ?_
  · obtain ⟨t, _, rfl⟩ := at_tm hx
    exact ⟨_, _, bd_tup rfl (bds_cons (bds_cons (bds_cons bds_nil))), fun j hj => hj, et_yes, fun _ => ed_var rfl⟩
  · have := keep_len (fun _ => true) (fun d : PyData => match d with | .tuple [i, _, _] => i | _ => .none) (l.map tmD)
    rw [List.length_map] at this
    show 1 + _ ≤ _
    omega
  · unfold keep
    rw [List.filter_eq_self.mpr fun _ _ => rfl, List.map_map, List.map_cons, List.map_map]
    rfl
  · rcases mxP_in l with h | ⟨t, ht, h⟩
    · rw [h]
      exact List.mem_cons_self
    · rw [h]
      exact List.mem_cons_of_mem _ (List.mem_map.mpr ⟨t, ht, rfl⟩)
  · intro y hy
    rcases List.mem_cons.mp hy with rfl | hy
    · omega
    · obtain ⟨t, ht, rfl⟩ := List.mem_map.mp hy
      have := mxP_ge t ht
      omega
  refine run_for (fun i => [.dat (.int q), .dat (PT l), .dat (.tuple [PT f, PT g]), .dat (.int (mxP l : Nat)), .own p (.dk (rowsF [] (l.take i))), .dat (.tuple []), prv (l.map fun t => .int t.1.1) i, prv (l.map fun t => .int t.1.2) i, prv (l.map fun t => nD t.2) i, .no, .no]) (ei_tup (ed_var rfl)) rfl (fun i x hx => ?_) ?_
  · obtain ⟨t, ht, rfl⟩ := at_tm hx
    have e1 : l.take (i + 1) = l.take i ++ [t] := by
      rw [List.take_add_one, ht]
      rfl
    have r1 := rowsF_len (l.take i) []
    rw [List.length_take] at r1
    have r2 : ((lkI (rowsF [] (l.take i)) (t.1.2 : Int)).getD []).length < 100000 := by
      rw [rowsF_look t.1.2 (l.take i) []]
      show ([] ++ _ : List PyData).length < _
      rw [List.nil_append, List.length_map]
      have := rowP_len (l.take i) t.1.2
      rw [List.length_take] at this
      omega
    refine ⟨_, _, bd_tup rfl (bds_cons (bds_cons (bds_cons bds_nil))), run_last (run_rput (i := 4) (j := 7) (k := (t.1.2 : Int)) rfl rfl (ed_tup (ea2 (ed_var rfl) (ed_var rfl)) (le5 rfl)) (by simp at r1; omega) r2 (run_end.to ?_))⟩
    rw [prv_map ht, prv_map ht, prv_map ht, e1, rowsF_snoc]
    rfl
  have ltk : l.take (l.map tmD).length = l := by rw [List.length_map, List.take_length]
  rw [ltk]
  refine run_unset 6 (run_unset 7 (run_unset 8 (run_set (ed_call (ea3 (ed_var rfl) (ed_op (ed_var rfl) ed_int (rd_ixT (d := PT f) rfl)) (ed_var rfl)) (R_powers_poly.mk q f e (mxP l) hf (Nat.le_trans (Nat.mul_le_mul_right e (by omega)) hde) (by omega))) ?_)))
  have hkeys : ∀ y : Int, y ∈ (rowsF [] l).map Prod.fst ↔ ∃ t ∈ l, y = (t.1.2 : Int) := fun y => by
    rw [rowsF_keys y l []]
    constructor
    · rintro (h | h)
      · cases h
      · exact h
    · exact .inr
  have rl := rowsF_len l []
  have etj : ((topJ l : Int) - 1 + 1).toNat = topJ l := by omega
  refine run_for (fun i => [.dat (.int q), .dat (PT l), .dat (.tuple [PT f, PT g]), .dat (.int (mxP l : Nat)), .own p (.dk (rowsF [] l)), .dat (PT (horP leK l f g (topJ l) i)), .no, .no, .no, .dat (.list ((List.range (mxP l + 1)).map fun k => PT (powP leK f k))), .no])
    (ei_rangeD (hi := (topJ l : Int) - 1) (ea3 (ed_cb (ea1 (EdN.ed (EdN.to (en_cat (en_lst (ea1 ed_m1) (le5 rfl)) (en_keysR (i := 4) rfl) ?_) (ys := (-1 :: (rowsF [] l).map Prod.fst).map PyData.int) rfl))) (rc_max ?_ ?_)) ed_m1 ed_m1) (by omega) (by omega)) rfl (fun i x hx => ?_) ?_
  · rw [List.length_map, List.length_map]
    simp at rl
    show 1 + _ ≤ _
    omega
  · rcases topJ_in l with h | ⟨t, ht, h⟩
    · rw [h]
      exact List.mem_cons_self
    · refine List.mem_cons_of_mem _ ((hkeys _).mpr ⟨t, ht, ?_⟩)
      omega
  · intro y hy
    rcases List.mem_cons.mp hy with rfl | hy
    · omega
    · obtain ⟨t, ht, rfl⟩ := (hkeys y).mp hy
      have := topJ_lt t ht
      omega
  · have hi : i < topJ l := by
      have := (List.getElem?_eq_some_iff.mp hx).1
      rw [List.length_map, List.length_range, etj] at this
      exact this
    rw [List.getElem?_map, List.getElem?_range (by rw [etj]; exact hi)] at hx
    cases hx
    have ej : (topJ l : Int) - 1 - (i : Int) = ((topJ l - 1 - i : Nat) : Int) := by omega
    have e9 : (fun i : Nat => PyData.int ((topJ l : Int) - 1 - i)) i = PyData.int ((topJ l - 1 - i : Nat) : Int) := congrArg PyData.int ej
    rw [e9]
    obtain ⟨h1, h2, _⟩ := horP_ok (le := leK) hl.dg hf hg hn i (by omega)
    obtain ⟨m, hm, hpm⟩ : ∃ m, m + e ≤ 100 ∧ Pn m (horP leK l f g (topJ l) i) := by
      rcases h1 with h1 | h1
      · subst h1
        have he : e ≤ 100 := by
          have : 1 * (e + 1) ≤ (d + 1) * (e + 1) := Nat.mul_le_mul_right _ (by omega)
          omega
        exact ⟨0, by omega, ⟨h2, fun t ht => absurd ht List.not_mem_nil⟩⟩
      · refine ⟨_, ?_, h1⟩
        have e2 : (d + i - topJ l) * e + e = (d + i - topJ l + 1) * e := by rw [Nat.add_mul, Nat.one_mul]
        rw [e2]
        exact Nat.le_trans (Nat.mul_le_mul_right e (by omega)) hde
    obtain ⟨pp, _⟩ := prodP_ok (le := leK) hpm hg
    have lp := pn_len pp (by omega)
    have hdi := dicP_id pp.po.nd
    have lrow := rowP_len l (topJ l - 1 - i)
    have hok : ∀ k, ND (addRow (powP leK f) (dicP (prodP leK (horP leK l f g (topJ l) i) g)) ((rowP l (topJ l - 1 - i)).take k)) ∧ Dg 100 (addRow (powP leK f) (dicP (prodP leK (horP leK l f g (topJ l) i) g)) ((rowP l (topJ l - 1 - i)).take k)) := fun k => by
      have := addRow_ok (le := leK) (m := 100) hf ((rowP l (topJ l - 1 - i)).take k) (dicP (prodP leK (horP leK l f g (topJ l) i) g)) (fun x hx => ?_) (by rw [hdi]; exact pp.po.nd) (by rw [hdi]; exact fun t ht => Nat.le_trans (pp.dg t ht) hm)
      · exact ⟨this.1, this.2.1⟩
      · obtain ⟨t, ht, rfl⟩ := List.mem_map.mp (List.mem_of_mem_take hx)
        have := hl.dg t (List.mem_filter.mp ht).1
        exact Nat.le_trans (Nat.mul_le_mul_right e (show t.1.1 ≤ d + 1 by omega)) hde
    have hlen : ∀ k, (addRow (powP leK f) (dicP (prodP leK (horP leK l f g (topJ l) i) g)) ((rowP l (topJ l - 1 - i)).take k)).length ≤ 10201 := fun k => by
      have := pl_len (hok k).1 (hok k).2
      omega
    have erow : (lkI (rowsF [] l) ((topJ l - 1 - i : Nat) : Int)).getD [] = (rowP l (topJ l - 1 - i)).map rxD := by
      rw [rowsF_look]
      rfl
    refine ⟨_, _, bd_name, run_newF (ef_call (ea1 (ed_call (ea3 (ed_var rfl) (ed_var rfl) (ed_op (ed_var rfl) ed_int (rd_ixT (d := PT g) rfl))) (R_product_poly.mk q _ g m e hpm hg hm))) (R_dict_of.mk q _ (by omega))) fun p2 => ?_⟩
    refine run_for (fun k => [.dat (.int q), .dat (PT l), .dat (.tuple [PT f, PT g]), .dat (.int (mxP l : Nat)), .own p (.dk (rowsF [] l)), .dat (PT (horP leK l f g (topJ l) i)), prv ((rowP l (topJ l - 1 - i)).map fun x => .int x.1) k, .dat (.int (topJ l - 1 - i : Nat)), prv ((rowP l (topJ l - 1 - i)).map fun x => nD x.2) k, .dat (.list ((List.range (mxP l + 1)).map fun k => PT (powP leK f k))), .own p2 (.dt (kvD (addRow (powP leK f) (dicP (prodP leK (horP leK l f g (topJ l) i) g)) ((rowP l (topJ l - 1 - i)).take k))))])
      (ei_lst (EdL.mk (ed_rget (i := 4) rfl (ed_var rfl)) erow)) rfl (fun k y hy => ?_) ?_
    · rw [List.getElem?_map] at hy
      cases c : (rowP l (topJ l - 1 - i))[k]? with
      | none => rw [c] at hy; cases hy
      | some z =>
        rw [c] at hy
        cases hy
        obtain ⟨t, ht, rfl⟩ := List.mem_map.mp (List.mem_of_getElem? c)
        have ht1 := mxP_ge t (List.mem_filter.mp ht).1
        have e3 : (rowP l (topJ l - 1 - i)).take (k + 1) = (rowP l (topJ l - 1 - i)).take k ++ [(t.1.1, t.2)] := by
          rw [List.take_add_one, c]
          rfl
        have pw := powP_ok (le := leK) hf t.1.1
        have lpw := pn_len pw.1 (Nat.le_trans (Nat.mul_le_mul_right e (show t.1.1 ≤ d + 1 by omega)) hde)
        have hl3 := hlen k
        refine ⟨_, _, bd_tup rfl (bds_cons (bds_cons bds_nil)), run_last (run_fill (i := 10) rfl (ed_var rfl) (ed_op (ed_var rfl) (ed_var rfl) (rd_ixL (d := PT (powP leK f t.1.1)) (atI_nat (by rw [List.getElem?_map, List.getElem?_range (by omega)]; rfl)))) (ed_var rfl) (R_add_poly.mk q _ (powP leK f t.1.1) t.2 (by omega)) (run_end.to ?_))⟩
        rw [prv_map c, prv_map c, e3]
        show _ = Rs.nx [_, _, _, _, _, _, _, _, _, _, .own p2 (.dt (kvD (addRow _ _ (_ ++ [(t.1.1, t.2)]))))]
        unfold addRow
        rw [List.foldl_append]
        rfl
    · have e4 : (rowP l (topJ l - 1 - i)).take ((rowP l (topJ l - 1 - i)).map rxD).length = rowP l (topJ l - 1 - i) := by rw [List.length_map, List.take_length]
      have hk := hok (rowP l (topJ l - 1 - i)).length
      have hk2 := hlen (rowP l (topJ l - 1 - i)).length
      rw [List.take_length] at hk hk2
      rw [e4]
      exact run_last (run_set (ed_readV (i := 10) rfl (R_poly_of.mk q _ hk.1 (by omega))) (run_unset 6 (run_unset 7 (run_unset 8 (run_unset 10 run_end)))))
  · rw [List.length_map, List.length_range, etj]
    exact run_last (run_ret (ed_var rfl))
abbrev N_pair_then : List Str := ["q", "one", "other"]
theorem sc_pair_then : FnScope N_pair_then ["q", "one", "other"] (defScope s_pair_then) := ⟨rfl, rfl, rfl, by decide +kernel, rfl, by decide +kernel, by decide +kernel⟩
theorem ok_pair_then (T : Top K mg) : Has P w K mg base 5 "pair_then" ["q", "one", "other"] (spR K R_pair_then) := by
  obtain ⟨f, fd, g, Fd⟩ := T.def_ 28 d_pair_then rfl
  have nd := sc_pair_then.nd
  have h_put_poly := ok_put_poly (P := P) (w := w) (base := base) T
  refine has_of g Fd sc_pair_then (fun _ _ _ _ _ _ us hl => match us, hl with | [_, _, _], _ => rfl) (fun _ _ h => by cases h <;> rfl) fun cdv A outer s H E hr ds d h => ?_
  refine ⟨_, (pss_one (ps_ret (pe_tup (pa_cons (pe_callH h_put_poly hr (by decide) rfl (pa_cons (pv 0) (pa_cons (pe_ix ix_tup (pv 2) pe_int (fun _ _ => rfl)) (pa_cons (pv 1) pa_nil)))) (pa_cons (pe_callH h_put_poly hr (by decide) rfl (pa_cons (pv 0) (pa_cons (pe_ix ix_tup (pv 2) pe_int (fun _ _ => rfl)) (pa_cons (pv 1) pa_nil)))) pa_nil))))), ?_⟩
  cases h with
  | mk q x y d e h1 h2 h3 h4 hb =>
  exact run_last (run_ret (ed_tup (ea2 (ed_call (ea3 (ed_var rfl) (ed_op (ed_var rfl) ed_int (rd_ixT (d := PT y.1) rfl)) (ed_var rfl)) (R_put_poly.mk q y.1 x.1 x.2 d e h1 h3 h4 hb)) (ed_call (ea3 (ed_var rfl) (ed_op (ed_var rfl) ed_int (rd_ixT (d := PT y.2) rfl)) (ed_var rfl)) (R_put_poly.mk q y.2 x.1 x.2 d e h2 h3 h4 hb))) (le5 rfl)))
end
end K19

/-! TEXT K19W12 -/
set_option Elab.async false
set_option linter.all false
set_option maxRecDepth 100000
set_option maxHeartbeats 4000000
set_option autoImplicit false
/-! The walks, 12: the pair of a step. -/
namespace K19
open PySem PySem.Spec PyProof.Rows L2
open Evl (Ex)
section
variable {q : Nat} [Fld q]
theorem rowDeg_app (a b : List (Pc q)) : rowDeg (a ++ b) = rowDeg a * rowDeg b := by
  induction a with
  | nil =>
    show rowDeg b = 1 * rowDeg b
    omega
  | cons p a ih =>
    show pcDeg p * rowDeg (a ++ b) = pcDeg p * rowDeg a * rowDeg b
    rw [ih, Nat.mul_assoc]
theorem pcDeg_pos {p : Pc q} (h : ST.pcOk p) : 1 ≤ pcDeg p := by
  cases p with
  | str m => exact Nat.le_refl 1
  | bnd b =>
    have := Bend.lo h
    show 1 ≤ b.length - 1
    omega
theorem rowDeg_pos : ∀ {a : List (Pc q)}, (∀ p ∈ a, ST.pcOk p) → 1 ≤ rowDeg a
  | [], _ => Nat.le_refl 1
  | p :: a, h => by
    have h1 := pcDeg_pos (h p List.mem_cons_self)
    have h2 := rowDeg_pos (a := a) fun x hx => h x (List.mem_cons_of_mem _ hx)
    show 1 ≤ pcDeg p * rowDeg a
    exact Nat.mul_le_mul h1 h2
theorem rowDeg_take {a : List (Pc q)} (h : ∀ p ∈ a, ST.pcOk p) (i : Nat) : rowDeg (a.take i) ≤ rowDeg a := by
  have e : rowDeg a = rowDeg (a.take i) * rowDeg (a.drop i) := by rw [← rowDeg_app, List.take_append_drop]
  have h2 := rowDeg_pos (a := a.drop i) fun p hp => h p (List.mem_of_mem_drop hp)
  rw [e]
  have := Nat.mul_le_mul_left (rowDeg (a.take i)) h2
  omega
theorem pcDeg_le {a : List (Pc q)} (h : ∀ p ∈ a, ST.pcOk p) {p : Pc q} (hp : p ∈ a) : pcDeg p ≤ rowDeg a := by
  induction a with
  | nil => cases hp
  | cons x a ih =>
    have h1 := pcDeg_pos (h x List.mem_cons_self)
    have h2 := rowDeg_pos (a := a) fun y hy => h y (List.mem_cons_of_mem _ hy)
    show pcDeg p ≤ pcDeg x * rowDeg a
    rcases List.mem_cons.mp hp with rfl | hp
    · have := Nat.mul_le_mul_left (pcDeg p) h2
      omega
    · have h3 := ih (fun y hy => h y (List.mem_cons_of_mem _ hy)) hp
      have := Nat.mul_le_mul_right (rowDeg a) h1
      omega
theorem rowPair_snoc (a : List (Pc q)) (p : Pc q) : rowPair leK (a ++ [p]) = thenP leK (rowPair leK a) (pairPc leK p) := by
  unfold rowPair
  rw [List.foldl_append]
  rfl
end
section
variable {P : Program} {w : World} {K : PySem.W.Frag} {mg : Str → Option Value} {base : Heap}
abbrev N_pair_of_row : List Str := ["q", "row", "found", "sort", "part"]
theorem sc_pair_of_row : FnScope N_pair_of_row ["q", "row"] (defScope s_pair_of_row) := ⟨rfl, rfl, rfl, by decide +kernel, rfl, by decide +kernel, by decide +kernel⟩
theorem ok_pair_of_row (T : Top K mg) : Has P w K mg base 6 "pair_of_row" ["q", "row"] (spR K R_pair_of_row) := by
  obtain ⟨f, fd, g, Fd⟩ := T.def_ 59 d_pair_of_row rfl
  have nd := sc_pair_of_row.nd
  have h_pair_then := ok_pair_then (P := P) (w := w) (base := base) T
  have h_map_pair := ok_map_pair (P := P) (w := w) (base := base) T
  have h_bend_pair := ok_bend_pair (P := P) (w := w) (base := base) T
  refine has_of g Fd sc_pair_of_row (fun _ _ _ _ _ _ us hl => match us, hl with | [_, _], _ => rfl) (fun _ _ h => by cases h <;> rfl) fun cdv A outer s H E hr ds d h => ?_
  refine ⟨_, (pss_cons (ps_set (i := 2) nd rfl (Or.inl rfl) (pe_callH h_map_pair hr (by decide) rfl (pa_cons (pe_tup (pa_cons pe_int (pa_cons pe_int (pa_cons pe_int (pa_cons pe_int (pa_cons pe_int (pa_cons pe_int pa_nil))))))) pa_nil))) (pss_cons (ps_for PassesOwn.never rfl (pi_tup (pv 1)) (pg_tup rfl (pgs_cons (pg_name (i := 3) nd rfl (Or.inl rfl)) (pgs_cons (pg_name (i := 4) nd rfl (Or.inl rfl)) pgs_nil))) (pss_one (ps_set (i := 2) nd rfl (Or.inl rfl) (pe_callH h_pair_then hr (by decide) rfl (pa_cons (pv 0) (pa_cons (pv 2) (pa_cons (pe_ifExp (pt_cmpR op_eq (pv 3) pe_str (nomark _)) (pe_callH h_map_pair hr (by decide) rfl (pa_cons (pv 4) pa_nil)) (pe_callH h_bend_pair hr (by decide) rfl (pa_cons (pv 4) pa_nil))) pa_nil))))))) (pss_one (ps_ret (pv 2))))), ?_⟩
  cases h with
  | mk q row hr hl hb =>
  have e0 : mD (SM.one : SM q) = .tuple [.int 1, .int 0, .int 0, .int 0, .int 1, .int 0] := by
    show PyData.tuple [nD (1 : F q), nD (0 : F q), nD (0 : F q), nD (0 : F q), nD (1 : F q), nD (0 : F q)] = _
    rw [nD0, nD1]
  refine run_set (ed_call (ea1 (ed_to (ed_tup (ea6 ed_int ed_int ed_int ed_int ed_int ed_int) (le5 rfl)) e0.symm)) (R_map_pair.mk q SM.one)) ?_
  refine run_for (fun i => [.dat (.int q), .dat (.tuple (row.map pD)), .dat (.tuple [PT (rowPair leK (row.take i)).1, PT (rowPair leK (row.take i)).2]), prv ((row.map pD).map pcN) i, prv ((row.map pD).map pcV) i]) (ei_tup (ed_var rfl)) rfl (fun i x hx => ?_) ?_
  · obtain ⟨p, hp, rfl⟩ := map_at hx
    have hpm := List.mem_of_getElem? hp
    have hok := hr p hpm
    have e1 : row.take (i + 1) = row.take i ++ [p] := by
      rw [List.take_add_one, hp]
      rfl
    have c1 : prv ((row.map pD).map pcN) (i + 1) = .dat (pcN (pD p)) := prv_at (by rw [List.getElem?_map, hx]; rfl)
    have c2 : prv ((row.map pD).map pcV) (i + 1) = .dat (pcV (pD p)) := prv_at (by rw [List.getElem?_map, hx]; rfl)
    obtain ⟨g1, g2, _⟩ := rowPair_aux (le := leK) (row.take i) (pairM leK SM.one) 1 (fun x hx => hr x (List.mem_of_mem_take hx)) (linP_ok _ _ _) (linP_ok _ _ _)
    rw [Nat.mul_one] at g1 g2
    obtain ⟨p1, p2⟩ := pairPc_ok (le := leK) hok
    have d1 := rowDeg_take hr i
    have d2 := pcDeg_le hr hpm
    have hb2 : (pcDeg p + 1) * (rowDeg (row.take i) + 1) ≤ 100 := Nat.le_trans (Nat.mul_le_mul (show pcDeg p + 1 ≤ 7 by omega) (show rowDeg (row.take i) + 1 ≤ 7 by omega)) (by decide)
    rw [c1, c2, e1, rowPair_snoc]
    cases p with
    | str m => exact ⟨_, _, bd_tup rfl (bds_cons (bds_cons bds_nil)), run_last (run_set (ed_call (ea3 (ed_var rfl) (ed_var rfl) (ed_if (b := true) (et_test (ed_to (ed_op (ed_var rfl) ed_str rd_eqS) (congrArg PyData.bool (decide_eq_true rfl)))) (fun _ => ed_call (ea1 (ed_var rfl)) (R_map_pair.mk q m)) fun e => nomatch e)) (R_pair_then.mk q (rowPair leK (row.take i)) (pairM leK m) _ _ p1 p2 g1 g2 hb2)) run_end)⟩
    | bnd b =>
      have hbb : Bend b := hok
      have := hbb.hi
      exact ⟨_, _, bd_tup rfl (bds_cons (bds_cons bds_nil)), run_last (run_set (ed_call (ea3 (ed_var rfl) (ed_var rfl) (ed_if (b := false) (et_test (ed_to (ed_op (ed_var rfl) ed_str rd_eqS) (congrArg PyData.bool (by decide +kernel)))) (fun e => nomatch e) fun _ => ed_call (ea1 (ed_var rfl)) (R_bend_pair.mk q b (by omega)))) (R_pair_then.mk q (rowPair leK (row.take i)) (pairB leK b) _ _ p1 p2 g1 g2 hb2)) run_end)⟩
  · have e2 : row.take (row.map pD).length = row := by rw [List.length_map, List.take_length]
    rw [e2]
    exact run_last (run_ret (ed_var rfl))
abbrev N_pair_of : List Str := ["q", "step"]
theorem sc_pair_of : FnScope N_pair_of ["q", "step"] (defScope s_pair_of) := ⟨rfl, rfl, rfl, by decide +kernel, rfl, by decide +kernel, by decide +kernel⟩
theorem ok_pair_of (T : Top K mg) : Has P w K mg base 9 "pair_of" ["q", "step"] (spR K R_pair_of) := by
  obtain ⟨f, fd, g, Fd⟩ := T.def_ 66 d_pair_of rfl
  have nd := sc_pair_of.nd
  have h_pair_of_row := ok_pair_of_row (P := P) (w := w) (base := base) T
  have h_pieces_of := ok_pieces_of (P := P) (w := w) (base := base) T
  have h_check_step := ok_check_step (P := P) (w := w) (base := base) T
  refine has_of g Fd sc_pair_of (fun _ _ _ _ _ _ us hl => match us, hl with | [_, _], _ => rfl) (fun _ _ h => by cases h <;> rfl) fun cdv A outer s H E hr ds d h => ?_
  refine ⟨_, (pss_cons (ps_expr (pe_callH h_check_step hr (by decide) rfl (pa_cons (pv 0) (pa_cons (pv 1) pa_nil)))) (pss_one (ps_ret (pe_callH h_pair_of_row hr (by decide) rfl (pa_cons (pv 0) (pa_cons (pe_callH h_pieces_of hr (by decide) rfl (pa_cons (pv 1) pa_nil)) pa_nil)))))), ?_⟩
  cases h with
  | mk q s hs hl hb =>
  have hp := ST.pieces_ok hs
  have h1 := ST.pieces_le s
  exact run_drop (ed_call (ea2 (ed_var rfl) (ed_var rfl)) (R_check_step.mk q s hs (by omega))) (run_last (run_ret (ed_call (ea2 (ed_var rfl) (ed_call (ea1 (ed_var rfl)) (R_pieces_of.mk q s hs (by omega)))) (R_pair_of_row.mk q s.pieces hp.1 (by omega) hb))))
end
end K19

/-! TEXT K19W13 -/
set_option Elab.async false
set_option linter.all false
set_option maxRecDepth 100000
set_option maxHeartbeats 4000000
set_option autoImplicit false
/-! The walks, 13: the law's own sums. -/
namespace K19
open PySem PySem.Spec PyProof.Rows L2
open Evl (Ex)
theorem inV_ints (i : Int) (ns : List Int) : inV (.int i) (ns.map V.int) = ns.any fun j => j == i := by
  unfold inV
  rw [List.any_map]
  rfl
theorem flat_ints (ns : List Int) : (ns.map V.int).all flatV = true := by
  rw [List.all_map]
  simp [flatV]
theorem rd_inT {K : PySem.W.Frag} {i : Int} {ns : List Int} : Rd K (rIn K false) (.int i) (.tuple (ns.map PyData.int)) (.bool (ns.any fun j => j == i)) := fun v u D H s p1 p2 Q q => by
  obtain ⟨a, vs, rfl, h1, h2⟩ := dp_tup p2
  have e := dpA_ints h2
  subst e
  rw [dp_int p1]
  refine ⟨a, _, rfl, .inr (Evl.ex_t s h1), rfl, flat_ints ns, ?_⟩
  rw [inV_ints]
  exact q _ D H (Stp.rfl' s) (.bl _)
inductive R_law_plus : List PyData → PyData → Prop
  | mk (q : Nat) [Fld q] (a b : F q) : R_law_plus [.int q, nD a, nD b] (nD (a + b))
inductive R_law_less : List PyData → PyData → Prop
  | mk (q : Nat) [Fld q] (a : F q) : R_law_less [.int q, nD a] (nD (-a))
inductive R_law_is_number : List PyData → PyData → Prop
  | mk (q : Nat) [Fld q] (a : F q) : R_law_is_number [.int q, nD a] (.bool true)
inductive R_law_size : List PyData → PyData → Prop
  | mk (q : Nat) [Fld q] (s : ST q) (hl : s.bends.length ≤ 1000) (hb : ∀ b ∈ s.bends, b.length ≤ 7) : R_law_size [sD s] (.int (s.bends.foldl (fun (n : Int) b => n * ((b.length : Int) - 1)) 1))
theorem in3 (q : Nat) : ([4, 8, 16] : List Int).any (fun j => j == (q : Int)) = decide (q = 4 ∨ q = 8 ∨ q = 16) := by
  by_cases h : q = 4 ∨ q = 8 ∨ q = 16
  · rw [decide_eq_true h]
    rcases h with h | h | h <;> subst h <;> rfl
  · rw [decide_eq_false h]
    simp only [List.any_cons, List.any_nil, Bool.or_false, Bool.or_eq_false_iff, beq_eq_false_iff_ne]
    omega
section
variable {P : Program} {w : World} {K : PySem.W.Frag} {mg : Str → Option Value} {base : Heap}
abbrev N_law_plus : List Str := ["_law_q", "_law_a", "_law_b"]
theorem sc_law_plus : FnScope N_law_plus ["_law_q", "_law_a", "_law_b"] (defScope s_law_plus) := ⟨rfl, rfl, rfl, by decide +kernel, rfl, by decide +kernel, by decide +kernel⟩
theorem ok_law_plus (T : Top K mg) : Has P w K mg base 1 "_law_plus" ["_law_q", "_law_a", "_law_b"] (spR K R_law_plus) := by
  obtain ⟨f, fd, g, Fd⟩ := T.def_ 73 d_law_plus rfl
  have nd := sc_law_plus.nd
  refine has_of g Fd sc_law_plus (fun _ _ _ _ _ _ us hl => match us, hl with | [_, _, _], _ => rfl) (fun _ _ h => by cases h <;> rfl) fun cdv A outer s H E hr ds d h => ?_
  refine ⟨_, (pss_cons (ps_if (pt_cmpR op_in_seq (pv 0) (pe_tup (pa_cons pe_int (pa_cons pe_int (pa_cons pe_int pa_nil)))) rfl) (pss_one (ps_ret (pe_op op_xor (pv 1) (pv 2)))) pss_nil) (pss_cons (ps_if (pt_cmpR op_eq (pv 0) pe_int (nomark _)) (pss_one (ps_ret (pe_op op_add (pe_op op_mul pe_int (pe_op op_mod (pe_callTy call_int1 rfl (T.free 4 _ rfl) boot_int (pa_cons (pe_op op_add (pe_op op_fdiv (pv 1) pe_int) (pe_op op_fdiv (pv 2) pe_int)) pa_nil)) pe_int)) (pe_op op_mod (pe_callTy call_int1 rfl (T.free 4 _ rfl) boot_int (pa_cons (pe_op op_add (pv 1) (pv 2)) pa_nil)) pe_int)))) pss_nil) (pss_one (ps_ret (pe_op op_mod (pe_callTy call_int1 rfl (T.free 4 _ rfl) boot_int (pa_cons (pe_op op_add (pv 1) (pv 2)) pa_nil)) (pv 0)))))), ?_⟩
  cases h with
  | mk q a b =>
  have hq := q_bd (q := q)
  refine run_if (b := decide (q = 4 ∨ q = 8 ∨ q = 16)) (et_test (ed_to (ed_op (ed_var rfl) (ed_tup (ds := ([4, 8, 16] : List Int).map PyData.int) (ea3 ed_int ed_int ed_int) (le5 rfl)) rd_inT) (congrArg PyData.bool (in3 q)))) (fun e => ?_) (fun e => run_next ?_)
  · have e := of_decide_eq_true e
    have n9 : q ≠ 9 := by omega
    refine run_ret (ed_to (ed_op (ed_var rfl) (ed_var rfl) (rd_I0 fun _ => .int _)) ?_)
    rw [Bits.bitXor_pp (by omega) (by omega)]
    show _ = PyData.int ((a + b).v : Int)
    rw [F.add_v]
    simp only [plusN, if_neg n9, if_pos e, Int.toNat_natCast]
  · have e := of_decide_eq_false e
    refine run_if (b := decide (q = 9)) (et_test (ed_to (ed_op (ed_var rfl) ed_int rd_eqI) (congrArg PyData.bool (decide_eq_decide.mpr ⟨fun h => by omega, fun h => by omega⟩)))) (fun c => ?_) (fun c => run_next ?_)
    · have c := of_decide_eq_true c
      subst c
      refine run_ret (ed_to (ed_op (ed_op ed_int (ed_op (ed_cb (ea1 (ed_op (ed_op (ed_var rfl) ed_int (rd_I cdiv fun _ => .int _)) (ed_op (ed_var rfl) ed_int (rd_I cdiv fun _ => .int _)) (rd_I0 fun _ => .int _))) rc_intI) ed_int (rd_I (by decide) fun _ => .int _)) (rd_I cmulL fun _ => .int _)) (ed_op (ed_cb (ea1 (ed_op (ed_var rfl) (ed_var rfl) (rd_I0 fun _ => .int _))) rc_intI) ed_int (rd_I (by decide) fun _ => .int _)) (rd_I0 fun _ => .int _)) ?_)
      show _ = PyData.int ((a + b).v : Int)
      rw [F.add_v]
      congr 1
      simp only [plusN, if_true]
      omega
    · have c := of_decide_eq_false c
      refine run_last (run_ret (ed_to (ed_op (ed_cb (ea1 (ed_op (ed_var rfl) (ed_var rfl) (rd_I0 fun _ => .int _))) rc_intI) (ed_var rfl) (rd_I (by omega) fun _ => .int _)) ?_))
      show _ = PyData.int ((a + b).v : Int)
      rw [F.add_v]
      simp only [plusN, if_neg c, if_neg e]
      simp
abbrev N_law_less : List Str := ["_law_q", "_law_a"]
theorem sc_law_less : FnScope N_law_less ["_law_q", "_law_a"] (defScope s_law_less) := ⟨rfl, rfl, rfl, by decide +kernel, rfl, by decide +kernel, by decide +kernel⟩
theorem ok_law_less (T : Top K mg) : Has P w K mg base 1 "_law_less" ["_law_q", "_law_a"] (spR K R_law_less) := by
  obtain ⟨f, fd, g, Fd⟩ := T.def_ 75 d_law_less rfl
  have nd := sc_law_less.nd
  refine has_of g Fd sc_law_less (fun _ _ _ _ _ _ us hl => match us, hl with | [_, _], _ => rfl) (fun _ _ h => by cases h <;> rfl) fun cdv A outer s H E hr ds d h => ?_
  refine ⟨_, (pss_cons (ps_if (pt_cmpR op_in_seq (pv 0) (pe_tup (pa_cons pe_int (pa_cons pe_int (pa_cons pe_int pa_nil)))) rfl) (pss_one (ps_ret (pv 1))) pss_nil) (pss_cons (ps_if (pt_cmpR op_eq (pv 0) pe_int (nomark _)) (pss_one (ps_ret (pe_op op_add (pe_op op_mul pe_int (pe_op op_mod (pe_callTy call_int1 rfl (T.free 4 _ rfl) boot_int (pa_cons (pe_op op_sub pe_int (pe_op op_fdiv (pv 1) pe_int)) pa_nil)) pe_int)) (pe_op op_mod (pe_callTy call_int1 rfl (T.free 4 _ rfl) boot_int (pa_cons (pe_op op_sub pe_int (pv 1)) pa_nil)) pe_int)))) pss_nil) (pss_one (ps_ret (pe_op op_mod (pe_callTy call_int1 rfl (T.free 4 _ rfl) boot_int (pa_cons (pe_op op_sub pe_int (pv 1)) pa_nil)) (pv 0)))))), ?_⟩
  cases h with
  | mk q a =>
  have hq := q_bd (q := q)
  have ha := a.h
  refine run_if (b := decide (q = 4 ∨ q = 8 ∨ q = 16)) (et_test (ed_to (ed_op (ed_var rfl) (ed_tup (ds := ([4, 8, 16] : List Int).map PyData.int) (ea3 ed_int ed_int ed_int) (le5 rfl)) rd_inT) (congrArg PyData.bool (in3 q)))) (fun e => ?_) (fun e => run_next ?_)
  · have e := of_decide_eq_true e
    have n9 : q ≠ 9 := by omega
    refine run_ret (ed_to (ed_var rfl) ?_)
    show _ = PyData.int ((-a).v : Int)
    rw [F.neg_v]
    simp only [oppN, if_neg n9, if_pos e]
  · have e := of_decide_eq_false e
    refine run_if (b := decide (q = 9)) (et_test (ed_to (ed_op (ed_var rfl) ed_int rd_eqI) (congrArg PyData.bool (decide_eq_decide.mpr ⟨fun h => by omega, fun h => by omega⟩)))) (fun c => ?_) (fun c => run_next ?_)
    · have c := of_decide_eq_true c
      subst c
      refine run_ret (ed_to (ed_op (ed_op ed_int (ed_op (ed_cb (ea1 (ed_op ed_int (ed_op (ed_var rfl) ed_int (rd_I cdiv fun _ => .int _)) (rd_I0 fun _ => .int _))) rc_intI) ed_int (rd_I (by decide) fun _ => .int _)) (rd_I cmulL fun _ => .int _)) (ed_op (ed_cb (ea1 (ed_op ed_int (ed_var rfl) (rd_I0 fun _ => .int _))) rc_intI) ed_int (rd_I (by decide) fun _ => .int _)) (rd_I0 fun _ => .int _)) ?_)
      show _ = PyData.int ((-a).v : Int)
      rw [F.neg_v]
      congr 1
      simp only [oppN, if_true]
      omega
    · have c := of_decide_eq_false c
      refine run_last (run_ret (ed_to (ed_op (ed_cb (ea1 (ed_op ed_int (ed_var rfl) (rd_I0 fun _ => .int _))) rc_intI) (ed_var rfl) (rd_I (by omega) fun _ => .int _)) ?_))
      show _ = PyData.int ((-a).v : Int)
      rw [F.neg_v]
      simp only [oppN, if_neg c, if_neg e]
      have e4 : ((q - a.v : Nat) : Int) = (0 - (a.v : Int)) + (q : Int) := by omega
      rw [Int.natCast_emod, e4, Int.add_emod_right]
abbrev N_law_is_number : List Str := ["_law_q", "_law_thing"]
theorem sc_law_is_number : FnScope N_law_is_number ["_law_q", "_law_thing"] (defScope s_law_is_number) := ⟨rfl, rfl, rfl, by decide +kernel, rfl, by decide +kernel, by decide +kernel⟩
theorem ok_law_is_number (T : Top K mg) : Has P w K mg base 1 "_law_is_number" ["_law_q", "_law_thing"] (spR K R_law_is_number) := by
  obtain ⟨f, fd, g, Fd⟩ := T.def_ 81 d_law_is_number rfl
  have nd := sc_law_is_number.nd
  refine has_of g Fd sc_law_is_number (fun _ _ _ _ _ _ us hl => match us, hl with | [_, _], _ => rfl) (fun _ _ h => by cases h <;> rfl) fun cdv A outer s H E hr ds d h => ?_
  refine ⟨_, (pss_one (ps_ret (pe_and (pe_callB call_isi rfl (T.free 5 _ rfl) boot_isinstance (pa_cons (pv 1) (pa_cons (pe_bltn (v := .ty "int") rfl (T.free 4 _ rfl) boot_int rfl) pa_nil))) (pe_and (pe_not (pe_callB call_isi rfl (T.free 5 _ rfl) boot_isinstance (pa_cons (pv 1) (pa_cons (pe_bltn (v := .ty "bool") rfl (T.free 1 _ rfl) boot_bool rfl) pa_nil)))) (pe_one (pe_chain op_le op_lt pe_int (pv 1) (pv 0))))))), ?_⟩
  cases h with
  | mk q a =>
  have ha := a.h
  exact run_last (run_ret (ed_and (a := true) (b := true) (ed_isII (ed_var rfl)) fun _ => ed_and (a := true) (b := true) (ed_not (ed_isIB (ed_var rfl))) fun _ => ed_to (ed_chain (a := true) (b := true) ed_int (ed_var rfl) (rd_I0 fun _ => dp_dec (by omega)) (fun _ => ed_var rfl) fun _ => rd_I0 fun _ => dp_dec (by omega)) rfl))
end
end K19

/-! TEXT K19R8 -/
set_option Elab.async false
set_option linter.all false
set_option maxRecDepth 100000
set_option maxHeartbeats 2000000
set_option autoImplicit false
/-! FURTHER RULES, 8: a tuple that is made and known (no dict of its own), its index. -/
namespace K19
open PySem PySem.Spec PyProof.Rows L2
open Evl (Ex)
section
variable {X : Cx}
def tTupF (t : TA) : TE := fun σ H Q => t σ H fun vs H1 => vs.length ≤ sizeLine ∧ ∀ p o, H1 p = none → o.cls = .type "tuple" → o.dict = none → Q (.ref p) (upd H1 p (.frz o (.tup vs)))
theorem pe_tupF {es : List Expr} {x1 : Nat} {pos : Pos} {t : TA} (h : PA X es t) : PE X (.Tuple es x1 pos) (tTupF t) := by
  refine ⟨fun pins s σ H Q I hq => wpAny_Tuple_spliced (thn (h.run pos pins s σ H _ I hq) fun us s1 ⟨xs, H1, I1, r, z, q⟩ => ⟨by rw [← r.length]; exact z, ?_⟩)⟩
  have hf : H1 s1.heap.objs.size = none := I1.hok.fresh (Nat.le_refl _)
  refine ⟨.ref s1.heap.objs.size, upd H1 s1.heap.objs.size (.frz { cls := .type "tuple", data := .seq us.toArray } (.tup xs)), I1.laid (t' := s1.toks) (fun b u e => Heap.get?_push_of_some _ e) (Nat.le_refl _) ?_, rfl, q _ { cls := .type "tuple", data := .seq us.toArray } hf rfl rfl⟩
  exact ⟨Heap.get?_push_size _ rfl, z, us, r, ⟨_, Heap.get?_push_size _ rfl, rfl, _, rfl⟩⟩
def tIdxF (K : PySem.W.Frag) (to : TE) (t : TA) : TE := fun σ H Q => to σ H fun x H1 => (∃ p o u, x = .ref p ∧ H1 p = some (.frz o u) ∧ o.cls = .type "tuple" ∧ o.dict = none) ∧ t σ H1 fun xs H2 => rTidx K x xs H2 Q
theorem pe_idxF {o e : Expr} {apos cpos : Pos} {to : TE} {t : TA} (ho : PE X o to) (ha : PA X [e] t)
    (hbase : attributeBase o "index" X.env (eval o X.env) = eval o X.env := by rfl)
    (hfew : ((backTo cpos (starEach [e] X.env)).all (fun x => !x.1) && (backToKw cpos (keywordEach [] X.env)).all (fun x => x.1.isSome)
      && decide (([e] : List Expr).length + ([] : List Keyword).length + (if ([] : List Keyword).isEmpty then 0 else 1) < 30)) = true := by rfl)
    (hline : (apos.endLine == cpos.line) = true := by rfl) (hs : starEach [e] X.env = (false, eval e X.env) :: starEach [] X.env := by rfl) (hplain : (backTo cpos (starEach [] X.env)).any (·.1) = false := by rfl) :
    PE X (.Call (.Attribute o "index" apos) [e] [] cpos) (tIdxF X.K to t) := by
  refine ⟨fun pins s σ H Q I h => wpAny_Call_method_late hbase hfew hline rfl (thn (ho.run pins s σ H _ I h) fun v s1 ⟨x, H1, I1, r1, ⟨p, ob, u, ex, hp, hc, hd⟩, q1⟩ => ?_)⟩
  subst ex
  cases r1
  obtain ⟨hg, _⟩ := (show ObjOk X.prog X.w H1 s1.heap p (.frz ob u) from I1.hok p _ hp)
  refine ⟨"tuple", _, PySem.F.plainAttrs_tuple, PySem.F.slot_tuple_index, PySem.F.type_tuple_index, ⟨ob, hg, hc⟩, fun a e2 => ?_, ?_⟩
  · cases e2
    exact ⟨ob, hg, hd⟩
  · have hA := ha.run cpos pins s1 σ H1 _ I1 q1
    rw [hs] at hA ⊢
    refine Calls.callWith_builtin (by show (false || (backTo cpos (starEach [] X.env)).any (·.1)) = false; rw [hplain] <;> rfl) (Calls.evalArgs_plain (thn hA fun us s2 ⟨vs, H2, I2, r2, q2⟩ => mt_tidx pins s2 σ H2 (.ref p) vs (.ref p) us Q I2 rfl r2 q2))
end
/-! ### the numbers of a field -/
/-- a tuple that is known, its own dict none -/
def FzT (H : Hp) (p : Addr) (xs : List V) : Prop := ∃ o, H p = some (.frz o (.tup xs)) ∧ o.cls = .type "tuple" ∧ o.dict = none
def powI (q : Int) : List Int := (powL q).getD []
/-- a def that gives the numbers of a field -/
def spPow (K : PySem.W.Frag) : Sp := fun vs H Q _ => ∃ (q : Int) (D : Hp), vs = [.int q] ∧ Ex D H ∧ ∀ p D' H', Stp D H D' H' → FzT D' p ((powI q).map V.int) → Q (.ref p) H'
end K19

/-! TEXT K19W14 -/
set_option Elab.async false
set_option linter.all false
set_option maxRecDepth 100000
set_option maxHeartbeats 4000000
set_option autoImplicit false
/-! The walks, 14: the numbers of a field in the law. -/
namespace K19
open PySem PySem.Spec PyProof.Rows L2
open Evl (Ex)
theorem FzT.mono {D D' : Hp} {p : Addr} {xs : List V} (h : FzT D p xs) (e : Ex D D') : FzT D' p xs := by
  obtain ⟨o, h1, h2, h3⟩ := h
  exact ⟨o, e _ _ h1, h2, h3⟩
/-- an expression that makes a known tuple of ints -/
def EdZ (K : PySem.W.Frag) (te : TE) (ρ : Ro) (ns : List Int) : Prop := ∀ (σ : L2.St) (D H0 H : Hp), Ex D H → Sl K σ D H0 H ρ → ∀ Q : VK, (∀ p D' H', Stp D H D' H' → FzT D' p (ns.map V.int) → Q (.ref p) H') → te σ H Q
section
variable {K : PySem.W.Frag} {ρ : Ro} {ns : List Int}
theorem ez_tup {t : TA} (h : EdA K t ρ (ns.map PyData.int)) (hl : ns.length ≤ 1000) : EdZ K (tTupF t) ρ ns := fun σ D H0 H e sl Q q =>
  h σ D H0 H e sl _ fun vs D1 H1 t1 p1 => ⟨sz100 (by rw [dpA_len p1, List.length_map]; omega), fun p o hp hc hd => by
    have ev := dpA_ints p1
    subst ev
    exact q p _ _ (t1.tr (Stp.new t1.s hp)) ⟨o, upd_same, hc, hd⟩⟩
def EdPI (K : PySem.W.Frag) (trs : List (TE × TE)) (ρ : Ro) (s : List (Int × List Int)) : Prop := ∀ (σ : L2.St) (D H0 H : Hp), Ex D H → Sl K σ D H0 H ρ → ∀ Q : List (V × V) → Hp → Prop, (∀ (bs : List Addr) D' H', Stp D H D' H' → bs.length = s.length → (∀ x ∈ s.zip bs, FzT D' x.2 (x.1.2.map V.int)) → Q ((s.zip bs).map fun x => (V.int x.1.1, V.ref x.2)) H') → tPairs trs σ H Q
theorem epi_nil : EdPI K [] ρ [] := fun σ D H0 H e sl Q q => q [] D H (Stp.rfl' e) rfl fun x hx => by cases hx
theorem epi_cons {te : TE} {k : Int} {trs : List (TE × TE)} {s : List (Int × List Int)} (h : EdZ K te ρ ns) (h2 : EdPI K trs ρ s) : EdPI K ((tC (.int k), te) :: trs) ρ ((k, ns) :: s) := fun σ D H0 H e sl Q q =>
  h σ D H0 H e sl _ fun p D1 H1 t1 p1 => h2 σ D1 H0 H1 t1.s (sl.mono t1) _ fun bs D2 H2 t2 a1 a2 => q (p :: bs) D2 H2 (t1.tr t2) (congrArg Nat.succ a1) fun x hx => by
    rcases List.mem_cons.mp hx with rfl | hx
    · exact p1.mono t2.d
    · exact a2 x hx
end
theorem merge4 (a b c d : V) (q : Int) (z : V) : (valV (mergeK [] [(.inl 4, a), (.inl 8, b), (.inl 9, c), (.inl 16, d)]) (.inl q)).getD z = if q = 4 then a else if q = 8 then b else if q = 9 then c else if q = 16 then d else z := by
  have e : mergeK [] [((.inl 4 : Key), a), (.inl 8, b), (.inl 9, c), (.inl 16, d)] = [(.inl 4, a), (.inl 8, b), (.inl 9, c), (.inl 16, d)] := by rfl
  rw [e]
  by_cases h4 : q = 4
  · rw [if_pos h4, valV_pos (by rw [h4])]
    rfl
  · rw [if_neg h4, valV_neg (fun z => h4 (Sum.inl.inj z).symm)]
    by_cases h8 : q = 8
    · rw [if_pos h8, valV_pos (by rw [h8])]
      rfl
    · rw [if_neg h8, valV_neg (fun z => h8 (Sum.inl.inj z).symm)]
      by_cases h9 : q = 9
      · rw [if_pos h9, valV_pos (by rw [h9])]
        rfl
      · rw [if_neg h9, valV_neg (fun z => h9 (Sum.inl.inj z).symm)]
        by_cases h16 : q = 16
        · rw [if_pos h16, valV_pos (by rw [h16])]
          rfl
        · rw [if_neg h16, valV_neg (fun z => h16 (Sum.inl.inj z).symm)]
          rfl
theorem powI_eq (q : Int) : powI q = if q = 4 then [1, 2, 3] else if q = 8 then [1, 2, 4, 3, 6, 7, 5] else if q = 9 then [1, 3, 4, 7, 2, 6, 8, 5] else if q = 16 then [1, 2, 4, 8, 3, 6, 12, 11, 5, 10, 7, 14, 15, 13, 9] else [] := by
  unfold powI powL powT
  by_cases h4 : q = 4
  · subst h4; rfl
  · by_cases h8 : q = 8
    · subst h8; rfl
    · by_cases h9 : q = 9
      · subst h9; rfl
      · by_cases h16 : q = 16
        · subst h16; rfl
        · rw [if_neg h4, if_neg h8, if_neg h9, if_neg h16]
          simp only [List.find?_cons, decide_eq_false (fun e => h4 (Eq.symm e)), decide_eq_false (fun e => h8 (Eq.symm e)), decide_eq_false (fun e => h9 (Eq.symm e)), decide_eq_false (fun e => h16 (Eq.symm e))]
          rfl
section
variable {P : Program} {w : World} {K : PySem.W.Frag} {mg : Str → Option Value} {base : Heap}
theorem has_ofW {x : Str} {params : Arguments} {body : List Stmt} {scope : Scope} {f : Addr} {fd : FuncData} {N ps : List Str} {k : Nat} (g : mg x = some (.ref f)) (F : FunD K x x params body scope [] [] f fd) (S : FnScope N ps scope)
    (hb : ∀ (kV doc pm : Value) (an : Option Addr) (cdv ct : Value) (us : List Value), us.length = ps.length → bindArgs (PySem.W.fnOf x x params body scope .none kV doc pm an cdv ct) ⟨us, []⟩ = pure (ps.zip us))
    (hl : 1 = ps.length)
    (hbody : ∀ (cdv : Value) (A : Around) (outer : List Env) (s : Shared) (H : Hp) (E : XK), Room k (A.deeper (envOfC x scope s.heap.objs.size f cdv)) → ∀ q : Int, True →
      ∃ te, PSs (cxOf CX0 P w K mg base N x scope f cdv A outer s H E).nox body (tRet te) ∧ EdZ K te (startR N [.int q]) (powI q)) : Has P w K mg base (k + 1) x ps (spPow K) := by
  refine ⟨f, fd, g, F.kp, F.bindsN hb, F.ok S (fun vs H Q E h => ?_) fun cdv A outer s H vs Q E hr h => ?_⟩
  · obtain ⟨q, D, rfl, _⟩ := h
    exact hl
  · obtain ⟨q, D, rfl, h1, h2⟩ := h
    obtain ⟨te, p1, p2⟩ := hbody cdv A outer s H E hr q trivial
    exact ⟨_, p1.nox, p2 (L2.start N [.int q]) D H H h1 (sl_start (.cons (.int q) .nil)) _ h2⟩
abbrev N_law_powers : List Str := ["_law_q"]
theorem sc_law_powers : FnScope N_law_powers ["_law_q"] (defScope s_law_powers) := ⟨rfl, rfl, rfl, by decide +kernel, rfl, by decide +kernel, by decide +kernel⟩
theorem ok_law_powers (T : Top K mg) : Has P w K mg base 1 "_law_powers" ["_law_q"] (spPow K) := by
  obtain ⟨f, fd, g, Fd⟩ := T.def_ 72 d_law_powers rfl
  have nd := sc_law_powers.nd
  refine has_ofW g Fd sc_law_powers (fun _ _ _ _ _ _ us hl => match us, hl with | [_], _ => rfl) rfl fun cdv A outer s H E hr q h => ?_
  refine ⟨_, (pss_one (ps_ret (pe_dget2 hr.u1 (pe_disp (pps_cons pe_int (pe_tupF (pa_cons pe_int (pa_cons pe_int (pa_cons pe_int pa_nil)))) (pps_cons pe_int (pe_tupF (pa_cons pe_int (pa_cons pe_int (pa_cons pe_int (pa_cons pe_int (pa_cons pe_int (pa_cons pe_int (pa_cons pe_int pa_nil)))))))) (pps_cons pe_int (pe_tupF (pa_cons pe_int (pa_cons pe_int (pa_cons pe_int (pa_cons pe_int (pa_cons pe_int (pa_cons pe_int (pa_cons pe_int (pa_cons pe_int pa_nil))))))))) (pps_cons pe_int (pe_tupF (pa_cons pe_int (pa_cons pe_int (pa_cons pe_int (pa_cons pe_int (pa_cons pe_int (pa_cons pe_int (pa_cons pe_int (pa_cons pe_int (pa_cons pe_int (pa_cons pe_int (pa_cons pe_int (pa_cons pe_int (pa_cons pe_int (pa_cons pe_int (pa_cons pe_int pa_nil)))))))))))))))) pps_nil)))) (by rfl) (by rfl) (fun z => by cases z) (by decide)) (pv 0) (pe_tupF pa_nil) ⟨rfl, rfl, rfl, rfl⟩))), ?_⟩
  have ht : EdPI K _ (startR N_law_powers [.int q]) [(4, [1, 2, 3]), (8, [1, 2, 4, 3, 6, 7, 5]), (9, [1, 3, 4, 7, 2, 6, 8, 5]), (16, [1, 2, 4, 8, 3, 6, 12, 11, 5, 10, 7, 14, 15, 13, 9])] :=
    epi_cons (ez_tup (ns := [1, 2, 3]) (ea3 ed_int ed_int ed_int) (Nat.le_of_ble_eq_true rfl)) (epi_cons (ez_tup (ns := [1, 2, 4, 3, 6, 7, 5]) (ea_cons ed_int (ea6 ed_int ed_int ed_int ed_int ed_int ed_int)) (Nat.le_of_ble_eq_true rfl))
      (epi_cons (ez_tup (ns := [1, 3, 4, 7, 2, 6, 8, 5]) (ea_cons ed_int (ea_cons ed_int (ea6 ed_int ed_int ed_int ed_int ed_int ed_int))) (Nat.le_of_ble_eq_true rfl))
      (epi_cons (ez_tup (ns := [1, 2, 4, 8, 3, 6, 12, 11, 5, 10, 7, 14, 15, 13, 9]) (ea_cons ed_int (ea_cons ed_int (ea_cons ed_int (ea_cons ed_int (ea_cons ed_int (ea_cons ed_int (ea_cons ed_int (ea_cons ed_int (ea_cons ed_int (ea6 ed_int ed_int ed_int ed_int ed_int ed_int)))))))))) (Nat.le_of_ble_eq_true rfl)) epi_nil)))
  refine fun σ D H0 H e sl Q qq => ?_
  intro p hp
  have t0 : Stp D H D (upd H p (.dK [])) := Stp.tmp e hp
  refine ht σ D H0 _ t0.s (sl.mono t0) _ fun bs D1 H1 t1 hl hz => ?_
  match bs, hl with
  | [b1, b2, b3, b4], _ =>
    have e1 : H1 p = some (.dK []) := t1.h p _ upd_same
    have n1 : D1 p = none := t1.n p _ upd_same (fun _ z => nomatch z) (Evl.fresh_back e hp)
    have z1 := hz ((4, [1, 2, 3]), b1) (by simp)
    have z2 := hz ((8, [1, 2, 4, 3, 6, 7, 5]), b2) (by simp)
    have z3 := hz ((9, [1, 3, 4, 7, 2, 6, 8, 5]), b3) (by simp)
    have z4 := hz ((16, [1, 2, 4, 8, 3, 6, 12, 11, 5, 10, 7, 14, 15, 13, 9]), b4) (by simp)
    refine ⟨e1, [(.inl 4, .ref b1), (.inl 8, .ref b2), (.inl 9, .ref b3), (.inl 16, .ref b4)], rfl, by show 4 ≤ 15; decide, p, rfl, ?_⟩
    have t := t0.tr t1
    have t2 : Stp D H D1 (upd H1 p (.dK (mergeK [] [(.inl 4, .ref b1), (.inl 8, .ref b2), (.inl 9, .ref b3), (.inl 16, .ref b4)]))) := ⟨t.d, fun a u z => by
      rw [upd_ne (ne_of_none z hp)]
      exact t.h a u z, fun a u z => by
      rw [upd_ne (ne_of_none z n1)]
      exact t.s a u z, t.n⟩
    refine ⟨.inl ⟨_, .inl upd_same⟩, ?_⟩
    obtain ⟨vq, k1, k2⟩ := (sl.mono t2).at_ 0 _ rfl
    rw [dp_int k2] at k1
    refine ⟨_, k1, Nat.zero_le _, fun b5 o hb5 hc hd => ?_⟩
    have t3 := t2.tr (Stp.new (o := .frz o (.tup [])) t2.s hb5)
    have n5 := Evl.fresh_back t2.s hb5
    have up : ∀ {b : Addr} {xs : List V}, FzT D1 b xs → FzT (upd D1 b5 (.frz o (.tup []))) b xs := fun h => h.mono (Ex.new n5)
    have hne : p ≠ b5 := fun z => by
      rw [← z, upd_same] at hb5
      cases hb5
    refine ⟨_, .inl ⟨_, .inl q, .inl (by rw [upd_ne hne]; exact upd_same), rfl, rfl⟩, ?_⟩
    rw [merge4]
    rw [powI_eq] at qq
    by_cases h4 : q = 4
    · rw [if_pos h4] at qq ⊢
      exact qq b1 _ _ t3 (up z1)
    · rw [if_neg h4] at qq ⊢
      by_cases h8 : q = 8
      · rw [if_pos h8] at qq ⊢
        exact qq b2 _ _ t3 (up z2)
      · rw [if_neg h8] at qq ⊢
        by_cases h9 : q = 9
        · rw [if_pos h9] at qq ⊢
          exact qq b3 _ _ t3 (up z3)
        · rw [if_neg h9] at qq ⊢
          by_cases h16 : q = 16
          · rw [if_pos h16] at qq ⊢
            exact qq b4 _ _ t3 (up z4)
          · rw [if_neg h16] at qq ⊢
            exact qq b5 _ _ t3 ⟨o, upd_same, hc, hd⟩
end
end K19

/-! TEXT K19W15 -/
set_option Elab.async false
set_option linter.all false
set_option maxRecDepth 100000
set_option maxHeartbeats 4000000
set_option autoImplicit false
/-! The walks, 15: the law's own products. -/
namespace K19
open PySem PySem.Spec PyProof.Rows L2
open Evl (Ex)
inductive R_law_by : List PyData → PyData → Prop
  | mk (q : Nat) [Fld q] (a b : F q) : R_law_by [.int q, nD a, nD b] (nD (a * b))
inductive R_law_cross : List PyData → PyData → Prop
  | mk (q : Nat) [Fld q] (a b d e : F q) : R_law_cross [.int q, nD a, nD b, nD d, nD e] (nD (a * e - b * d))
theorem if_no {A B : Prop} (h : B) : if false = true then A else B := by
  rw [if_neg Bool.false_ne_true]
  exact h
theorem if_yes {A B : Prop} (h : A) : if true = true then A else B := by
  rw [if_pos rfl]
  exact h
theorem powI_N {q : Nat} (h : q = 4 ∨ q = 8 ∨ q = 9 ∨ q = 16) : powI (q : Int) = (powN q).map fun n : Nat => (n : Int) := by
  unfold powI
  rw [powL_N h]
  rfl
theorem powI_no {q : Nat} (h : ¬ (q = 4 ∨ q = 8 ∨ q = 9 ∨ q = 16)) : powI (q : Int) = [] := by
  rw [powI_eq, if_neg (by omega), if_neg (by omega), if_neg (by omega), if_neg (by omega)]
theorem FzT.sq {K : PySem.W.Frag} {H : Hp} {p : Addr} {xs : List V} (h : FzT H p xs) : SqT K H p xs := by
  obtain ⟨o, h1, _⟩ := h
  exact .inl (.inr ⟨o, h1⟩)
theorem fl_ints {ns : List Int} {n : Nat} : Fl (n + 1) (.tuple (ns.map PyData.int)) := fl_tup fun d hd => by
  obtain ⟨a, _, rfl⟩ := List.mem_map.mp hd
  exact fl_int
section
variable {P : Program} {w : World} {K : PySem.W.Frag} {mg : Str → Option Value} {base : Heap}
abbrev N_law_by : List Str := ["_law_q", "_law_a", "_law_b", "_law_powers_here"]
theorem sc_law_by : FnScope N_law_by ["_law_q", "_law_a", "_law_b"] (defScope s_law_by) := ⟨rfl, rfl, rfl, by decide +kernel, rfl, by decide +kernel, by decide +kernel⟩
theorem ok_law_by (T : Top K mg) : Has P w K mg base 2 "_law_by" ["_law_q", "_law_a", "_law_b"] (spR K R_law_by) := by
  obtain ⟨f, fd, g, Fd⟩ := T.def_ 74 d_law_by rfl
  have nd := sc_law_by.nd
  have h_law_powers := ok_law_powers (P := P) (w := w) (base := base) T
  refine has_of g Fd sc_law_by (fun _ _ _ _ _ _ us hl => match us, hl with | [_, _, _], _ => rfl) (fun _ _ h => by cases h <;> rfl) fun cdv A outer s H E hr ds d h => ?_
  refine ⟨_, (pss_cons (ps_set (i := 3) nd rfl (Or.inl rfl) (pe_callH h_law_powers hr (by decide) rfl (pa_cons (pv 0) pa_nil))) (pss_cons (ps_if (pt_cmpR (op_eqD hr.units) (pv 3) (pe_tup pa_nil) (nomark _)) (pss_one (ps_ret (pe_op op_mod (pe_callTy call_int1 rfl (T.free 4 _ rfl) boot_int (pa_cons (pe_op op_mul (pv 1) (pv 2)) pa_nil)) (pv 0)))) pss_nil) (pss_cons (ps_if (PW.pt (pw_or (pt_cmpR op_eq (pv 1) pe_int (nomark _)) (pw_or1 (pt_cmpR op_eq (pv 2) pe_int (nomark _))))) (pss_one (ps_ret pe_int)) pss_nil) (pss_one (ps_ret (pe_ix ix_tup (pv 3) (pe_op op_mod (pe_callTy call_int1 rfl (T.free 4 _ rfl) boot_int (pa_cons (pe_op op_add (pe_idxF (pv 3) (pa_cons (pv 1) pa_nil)) (pe_idxF (pv 3) (pa_cons (pv 2) pa_nil))) pa_nil)) (pe_op op_sub (pv 0) pe_int)) (fun _ _ => rfl))))))), ?_⟩
  cases h with
  | mk q a b =>
  have hq := q_bd (q := q)
  refine fun σ H0 D H E t sl k => ?_
  obtain ⟨v0, s0, p0⟩ := sl.at_ 0 _ rfl
  rw [dp_int p0] at s0
  refine ⟨_, s0, q, D, rfl, t.s, fun p D1 H1 t1 hz => ?_⟩
  have hz1 := FzT.mono hz t1.s
  have dz : Dp K D1 (.ref p) (.tuple ((powI q).map PyData.int)) := .tup hz.sq (dpA_of_ints _)
  have sl1 := (sl.mono t1).set 3 dz
  have T1 := t.go t1
  have g3 : (σ.set 3 (some (V.ref p)))[3]? = some (some (.ref p)) := List.getElem?_set_self (by rw [sl.len]; exact (by decide : 3 < 4))
  have k1 := k.of (t.up t1)
  refine ⟨_, g3, Nat.zero_le _, fun c hc => ?_⟩
  have t2 : Stp D1 H1 (upd D1 c (.tup [])) (upd H1 c (.tup [])) := Stp.new t1.s hc
  have dc : Dp K (upd H1 c (.tup [])) (.ref c) (.tuple []) := .tup (SqT.of upd_same) .nil
  have sl2 := sl1.mono t2
  have T2 := T1.go t2
  have k2 := k1.of (T1.up t2)
  have hz2 := FzT.mono hz t2.d
  refine ⟨_, _, dpX (t2.d.trans t2.s) dz, dc, (fl_ints (n := 1)).shaped, (fl_nil (n := 1)).shaped, _, rfl, ?_⟩
  rw [eqv_nil]
  by_cases e3 : q = 4 ∨ q = 8 ∨ q = 9 ∨ q = 16
  · have en := powI_N e3
    have nn : ((powI q).map PyData.int).isEmpty = false := by
      rw [en]
      rcases e3 with h | h | h | h <;> subst h <;> rfl
    rw [nn]
    refine if_no ?_
    have test : EdT K (tOr (tTest (tOp rEq (tVar 1) (tC (V.int 0)))) (tTest (tOp rEq (tVar 2) (tC (V.int 0))))) (List.set (startR N_law_by [.int q, nD a, nD b]) 3 (.dat (.tuple ((powI q).map PyData.int)))) (decide (a.v = 0) || decide (b.v = 0)) := et_or (et_test (ed_to (ed_op (ed_var (d := nD a) rfl) ed_int rd_eqI) (congrArg PyData.bool (decide_eq_decide.mpr ⟨fun h => by omega, fun h => by omega⟩)))) fun _ => et_test (ed_to (ed_op (ed_var (d := nD b) rfl) ed_int rd_eqI) (congrArg PyData.bool (decide_eq_decide.mpr ⟨fun h => by omega, fun h => by omega⟩)))
    refine test _ _ H0 _ T2.s sl2 _ fun D3 H3 t3 => ?_
    have sl3 := sl2.mono t3
    have T3 := T2.go t3
    have k3 := k2.of (T2.up t3)
    have hz3 := FzT.mono hz2 t3.d
    by_cases e4 : a.v = 0 ∨ b.v = 0
    · have ev : (decide (a.v = 0) || decide (b.v = 0)) = true := by simpa using e4
      rw [ev]
      refine if_yes ?_
      refine (run_ret (t2 := tNext) (ed_to ed_int ?_) : Run K (tSeq (tRet (tC (V.int 0))) tNext) _ _) _ H0 D3 H3 E T3 sl3 k3
      show PyData.int 0 = .int ((a * b).v : Int)
      rw [F.mul_v]
      simp only [timesN, if_pos e3, if_pos e4]
      rfl
    · have ev : (decide (a.v = 0) || decide (b.v = 0)) = false := by simpa using e4
      rw [ev]
      refine if_no ?_
      obtain ⟨w0, r0, q0⟩ := sl3.at_ 0 (.int q) rfl
      obtain ⟨w1, r1, q1⟩ := sl3.at_ 1 (nD a) rfl
      obtain ⟨w2, r2, q2⟩ := sl3.at_ 2 (nD b) rfl
      rw [dp_int q0] at r0
      rw [dp_int q1] at r1
      rw [dp_int q2] at r2
      have hz4 := FzT.mono hz3 t3.s
      obtain ⟨o, f1, f2, f3⟩ := id hz4
      have m1 : ((a.v : Nat) : Int) ∈ powI q := by rw [en]; exact List.mem_map.mpr ⟨_, pow_has e3 a.h (by omega), rfl⟩
      have m2 : ((b.v : Nat) : Int) ∈ powI q := by rw [en]; exact List.mem_map.mpr ⟨_, pow_has e3 b.h (by omega), rfl⟩
      refine ⟨_, g3, _, g3, ⟨p, o, _, rfl, f1, f2, f3⟩, _, r1, p, _, _, rfl, rfl, hz4.sq, m1, _, g3, ⟨p, o, _, rfl, f1, f2, f3⟩, _, r2, p, _, _, rfl, rfl, hz4.sq, m2, _, _, rfl, rfl, .inl ⟨_, rfl, _, r0, _, _, rfl, rfl, _, _, rfl, rfl, (by show (0 : Int) < (q : Int) - 1; omega), p, _, _, .int ((timesN q a.v b.v : Nat) : Int), rfl, rfl, hz4.sq, ?_, k3 _ D3 H3 T3 (by show Dp K D3 _ (.int ((a * b).v : Int)); rw [F.mul_v]; exact .int _)⟩⟩
      rw [en, idx_map, idx_map]
      have e5 : ((((powN q).idxOf a.v : Nat) : Int) + (((powN q).idxOf b.v : Nat) : Int)) % ((q : Int) - 1) = ((((powN q).idxOf a.v + (powN q).idxOf b.v) % (q - 1) : Nat) : Int) := by
        have : ((q : Int) - 1) = ((q - 1 : Nat) : Int) := by omega
        rw [this]
        simp
      rw [e5]
      refine atI_nat ?_
      have hlt : ((powN q).idxOf a.v + (powN q).idxOf b.v) % (q - 1) < (powN q).length := by
        rw [pow_len e3]
        exact Nat.mod_lt _ (by omega)
      rw [List.getElem?_map, List.getElem?_map, List.getElem?_eq_getElem hlt]
      simp only [timesN, if_pos e3, if_neg e4, List.getD_eq_getElem?_getD, List.getElem?_eq_getElem hlt]
      rfl
  · have nn : ((powI q).map PyData.int).isEmpty = true := by
      rw [powI_no e3]
      rfl
    rw [nn]
    refine if_yes ?_
    have rr : Ed K (tOp (rI (fun _ j => 0 < j) fun i j => .int (i % j)) (tCB (fun xs H Q => (∃ i, xs = [V.int i] ∧ Q (.int i) H) ∨ ∃ k, xs = [V.bl k] ∧ Q (.int (if k then 1 else 0)) H) (tCons (tOp (rI CMul fun i j => .int (i * j)) (tVar 1) (tVar 2)) tNil)) (tVar 0)) (List.set (startR N_law_by [.int q, nD a, nD b]) 3 (.dat (.tuple ((powI q).map PyData.int)))) (nD (a * b)) := by
      refine ed_to (ed_op (ed_cb (ea1 (ed_op (ed_var (d := nD a) rfl) (ed_var (d := nD b) rfl) (rd_I (cmulN (by have := a.h; omega)) fun _ => .int _))) rc_intI) (ed_var (d := .int q) rfl) (rd_I (by omega) fun _ => .int _)) ?_
      show _ = PyData.int ((a * b).v : Int)
      rw [F.mul_v]
      simp only [timesN, if_neg e3]
      simp
    exact rr _ _ H0 _ T2.s sl2 _ fun v D' H' t' p' => k2 v D' H' (T2.up t') p'
abbrev N_law_cross : List Str := ["_law_q", "_law_a", "_law_b", "_law_d", "_law_e"]
theorem sc_law_cross : FnScope N_law_cross ["_law_q", "_law_a", "_law_b", "_law_d", "_law_e"] (defScope s_law_cross) := ⟨rfl, rfl, rfl, by decide +kernel, rfl, by decide +kernel, by decide +kernel⟩
theorem ok_law_cross (T : Top K mg) : Has P w K mg base 3 "_law_cross" ["_law_q", "_law_a", "_law_b", "_law_d", "_law_e"] (spR K R_law_cross) := by
  obtain ⟨f, fd, g, Fd⟩ := T.def_ 77 d_law_cross rfl
  have nd := sc_law_cross.nd
  have h_law_plus := ok_law_plus (P := P) (w := w) (base := base) T
  have h_law_by := ok_law_by (P := P) (w := w) (base := base) T
  have h_law_less := ok_law_less (P := P) (w := w) (base := base) T
  refine has_of g Fd sc_law_cross (fun _ _ _ _ _ _ us hl => match us, hl with | [_, _, _, _, _], _ => rfl) (fun _ _ h => by cases h <;> rfl) fun cdv A outer s H E hr ds d h => ?_
  refine ⟨_, (pss_one (ps_ret (pe_callH h_law_plus hr (by decide) rfl (pa_cons (pv 0) (pa_cons (pe_callH h_law_by hr (by decide) rfl (pa_cons (pv 0) (pa_cons (pv 1) (pa_cons (pv 4) pa_nil)))) (pa_cons (pe_callH h_law_less hr (by decide) rfl (pa_cons (pv 0) (pa_cons (pe_callH h_law_by hr (by decide) rfl (pa_cons (pv 0) (pa_cons (pv 2) (pa_cons (pv 3) pa_nil)))) pa_nil))) pa_nil)))))), ?_⟩
  cases h with
  | mk q a b d e =>
  refine run_last (run_ret (ed_to (ed_call (ea3 (ed_var rfl) (ed_call (ea3 (ed_var rfl) (ed_var rfl) (ed_var rfl)) (R_law_by.mk q a e)) (ed_call (ea2 (ed_var rfl) (ed_call (ea3 (ed_var rfl) (ed_var rfl) (ed_var rfl)) (R_law_by.mk q b d))) (R_law_less.mk q (b * d)))) (R_law_plus.mk q _ _)) ?_))
  rfl
end
end K19

/-! TEXT K19W16 -/
set_option Elab.async false
set_option linter.all false
set_option maxRecDepth 100000
set_option maxHeartbeats 4000000
set_option autoImplicit false
/-! The walks, 16: the law's own look at a step. -/
namespace K19
open PySem PySem.Spec PyProof.Rows L2
open Evl (Ex)
inductive R_law_is_bend : List PyData → PyData → Prop
  | mk (q : Nat) [Fld q] (b : List (F q)) (h : Bend b) : R_law_is_bend [.int q, tD b] (.bool true)
inductive R_law_is_map : List PyData → PyData → Prop
  | mk (q : Nat) [Fld q] (m : SM q) (h : m.det ≠ 0) : R_law_is_map [.int q, mD m] (.bool true)
inductive R_law_is_step : List PyData → PyData → Prop
  | mk (q : Nat) [Fld q] (s : ST q) (h : s.Ok) (hl : s.bends.length ≤ 1000) : R_law_is_step [.int q, sD s] (.bool true)
inductive R_law_told : List PyData → PyData → Prop
  | mk (q : Nat) [Fld q] (s : ST q) (hl : s.turns.length ≤ 1000) : R_law_told [.int q, sD s] (nD s.det)
theorem keep_none {p : PyData → Bool} {f : PyData → PyData} {xs : List PyData} (h : ∀ x ∈ xs, p x = false) : keep p f xs = [] := by
  unfold keep
  rw [List.filter_eq_nil_iff.mpr fun x hx => by rw [h x hx]; exact Bool.false_ne_true]
  rfl
/-- [x for x in t if ..] != [], with nothing kept -/
theorem ed_noneL {K : PySem.W.Frag} {ρ : Ro} {te : TE} {ds : List PyData} (h : Ed K te ρ (.list [])) : Ed K (tOp (rNeD K) te (tLst tNil)) ρ (.bool false) :=
  ed_op h (ed_lst ea_nil (le5 rfl)) (rd_neD (x := .list []) (y := .list []) (fl_lst (n := 1) fun d hd => by cases hd).shaped (fl_lst (n := 1) fun d hd => by cases hd).shaped)
section
variable {P : Program} {w : World} {K : PySem.W.Frag} {mg : Str → Option Value} {base : Heap}
abbrev N_law_size : List Str := ["_law_step_here", "_law_found", "_law_bend_here"]
theorem sc_law_size : FnScope N_law_size ["_law_step_here"] (defScope s_law_size) := ⟨rfl, rfl, rfl, by decide +kernel, rfl, by decide +kernel, by decide +kernel⟩
theorem ok_law_size (T : Top K mg) : Has P w K mg base 1 "_law_size" ["_law_step_here"] (spR K R_law_size) := by
  obtain ⟨f, fd, g, Fd⟩ := T.def_ 86 d_law_size rfl
  have nd := sc_law_size.nd
  refine has_of g Fd sc_law_size (fun _ _ _ _ _ _ us hl => match us, hl with | [_], _ => rfl) (fun _ _ h => by cases h <;> rfl) fun cdv A outer s H E hr ds d h => ?_
  refine ⟨_, (pss_cons (ps_set (i := 1) nd rfl (Or.inl rfl) pe_int) (pss_cons (ps_for PassesOwn.never rfl (pi_tup (pe_ix ix_tup (pv 0) pe_int (fun _ _ => rfl))) (pg_name (i := 2) nd rfl (Or.inl rfl)) (pss_one (ps_set (i := 1) nd rfl (Or.inl rfl) (pe_op op_mul (pv 1) (pe_op op_sub (pe_callB call_len_seq rfl (T.free 6 _ rfl) boot_len (pa_cons (pv 2) pa_nil)) pe_int))))) (pss_one (ps_ret (pv 1))))), ?_⟩
  cases h with
  | mk q s hl hb =>
  refine run_set (d := .int 1) ed_int (run_for (fun i => match i with
    | 0 => [.dat (sD s), .dat (.int 1), .no]
    | i + 1 => [.dat (sD s), .dat (.int ((s.bends.take (i + 1)).foldl (fun (n : Int) b => n * ((b.length : Int) - 1)) 1)), .dat (tD (s.bends.getD i []))]) (ei_tup (xs := s.bends.map tD) (ed_op (ed_var rfl) ed_int (rd_ixT (d := bD s.bends) rfl))) rfl (fun i x hx => ?_) (run_last (run_ret (ed_to (ed_var (d := .int ((s.bends.take s.bends.length).foldl (fun (n : Int) b => n * ((b.length : Int) - 1)) 1)) ?_) ?_))))
  · obtain ⟨b, hb2, rfl⟩ := map_at hx
    have e1 : (s.bends.take (i + 1)).foldl (fun (n : Int) b => n * ((b.length : Int) - 1)) 1 = (s.bends.take i).foldl (fun (n : Int) b => n * ((b.length : Int) - 1)) 1 * ((b.length : Int) - 1) := by
      rw [List.take_add_one, hb2, List.foldl_append]
      rfl
    have e2 : s.bends.getD i [] = b := by rw [List.getD_eq_getElem?_getD, hb2]; rfl
    have hl7 := hb b (List.mem_of_getElem? hb2)
    have val : Ed K (tCB (fun xs H Q => ∃ p ys, xs = [.ref p] ∧ (SqL K H p ys ∨ SqT K H p ys) ∧ Q (.int ys.length) H) (tCons (tVar 2) tNil)) [.dat (sD s), .dat (.int ((s.bends.take i).foldl (fun (n : Int) b => n * ((b.length : Int) - 1)) 1)), .dat (tD b)] (.int b.length) := ed_to (ed_cb (ea1 (ed_var rfl)) rc_lenT) (by rw [len_tD])
    have step : Run K (tAsg (tOp (rI CMul fun i j => .int (i * j)) (tVar 1) (tOp (rI0 fun i j => .int (i - j)) (tCB (fun xs H Q => ∃ p ys, xs = [.ref p] ∧ (SqL K H p ys ∨ SqT K H p ys) ∧ Q (.int ys.length) H) (tCons (tVar 2) tNil)) (tC (.int 1)))) (gName 1)) [.dat (sD s), .dat (.int ((s.bends.take i).foldl (fun (n : Int) b => n * ((b.length : Int) - 1)) 1)), .dat (tD b)] (.nx [.dat (sD s), .dat (.int ((s.bends.take (i + 1)).foldl (fun (n : Int) b => n * ((b.length : Int) - 1)) 1)), .dat (tD b)]) := by
      refine run_last (run_set (ed_op (ed_var rfl) (ed_op val ed_int (rd_I0 fun _ => .int _)) (rd_I (cmulR (by omega) (by omega)) fun _ => .int _)) ?_)
      rw [e1]
      exact run_end
    refine ⟨_, _, bd_name, ?_⟩
    match i, step, e2 with
    | 0, step, e2 =>
      show Run K _ [.dat (sD s), .dat (.int 1), .dat (tD b)] (.nx [.dat (sD s), _, .dat (tD (s.bends.getD 0 []))])
      rw [e2]
      exact step
    | i + 1, step, e2 =>
      show Run K _ [.dat (sD s), .dat (.int ((s.bends.take (i + 1)).foldl (fun (n : Int) b => n * ((b.length : Int) - 1)) 1)), .dat (tD b)] (.nx [.dat (sD s), _, .dat (tD (s.bends.getD (i + 1) []))])
      rw [e2]
      exact step
  · rw [List.length_map]
    cases s.bends with
    | nil => rfl
    | cons b bs => rfl
  · rw [List.take_length]
abbrev N_law_is_bend : List Str := ["_law_q", "_law_thing", "_law_x"]
theorem sc_law_is_bend : FnScope N_law_is_bend ["_law_q", "_law_thing"] (defScope s_law_is_bend) := ⟨rfl, rfl, rfl, by decide +kernel, rfl, by decide +kernel, by decide +kernel⟩
theorem ok_law_is_bend (T : Top K mg) : Has P w K mg base 2 "_law_is_bend" ["_law_q", "_law_thing"] (spR K R_law_is_bend) := by
  obtain ⟨f, fd, g, Fd⟩ := T.def_ 82 d_law_is_bend rfl
  have nd := sc_law_is_bend.nd
  have h_law_is_number := ok_law_is_number (P := P) (w := w) (base := base) T
  refine has_of g Fd sc_law_is_bend (fun _ _ _ _ _ _ us hl => match us, hl with | [_, _], _ => rfl) (fun _ _ h => by cases h <;> rfl) fun cdv A outer s H E hr ds d h => ?_
  refine ⟨_, (pss_cons (ps_if (PW.pt (pw_or (pt_not (pt_val (pe_callB call_isi rfl (T.free 5 _ rfl) boot_isinstance (pa_cons (pv 1) (pa_cons (pe_bltn (v := .ty "tuple") rfl (T.free 13 _ rfl) boot_tuple rfl) pa_nil))))) (pw_or (pt_cmpR op_lt (pe_callB call_len_seq rfl (T.free 6 _ rfl) boot_len (pa_cons (pv 1) pa_nil)) pe_int (nomark _)) (pw_or1 (pt_cmpR op_gt (pe_callB call_len_seq rfl (T.free 6 _ rfl) boot_len (pa_cons (pv 1) pa_nil)) pe_int (nomark _)))))) (pss_one (ps_ret pe_bl)) pss_nil) (pss_cons (ps_if (pt_cmpR (op_neD hr.units) (pe_lc (own := [("_law_x", 2)]) rfl nd (pi_tup (pv 1)) (blkOk_by (own := [("_law_x", 2)]) (N := N_law_is_bend) (sc := defScope s_law_is_bend) (by decide +kernel)) (fun _ _ _ _ _ => (pg_name (i := 2) nd rfl (Or.inl rfl))) (fun _ _ _ _ _ => (pts_one (pt_not (pt_val (pe_callH h_law_is_number hr (by decide) rfl (pa_cons (pv 0) (pa_cons (pv 2) pa_nil))))))) (fun _ _ _ _ _ => (pv 2))) (pe_lst pa_nil) (nomark _)) (pss_one (ps_ret pe_bl)) pss_nil) (pss_one (ps_ret (pe_and (pe_cmpR op_eq (pe_ix ix_tup (pv 1) pe_int (fun _ _ => rfl)) pe_int (nomark _)) (pe_and (pe_cmpR op_eq (pe_ix ix_tup (pv 1) pe_int (fun _ _ => rfl)) pe_int (nomark _)) (pe_one (pe_cmpR op_gt (pe_ix ix_tup (pv 1) (pe_un un_neg pe_int) (fun _ _ => rfl)) pe_int (nomark _))))))))), ?_⟩
  cases h with
  | mk q b hb =>
  have hq := q_bd (q := q)
  have l1 := hb.lo
  have l2 := hb.hi
  have top : 0 < (co b (b.length - 1)).v := by
    have := F.ne_v.mp hb.top
    omega
  have len : Ed K (tCB (fun xs H Q => ∃ p ys, xs = [.ref p] ∧ (SqL K H p ys ∨ SqT K H p ys) ∧ Q (.int ys.length) H) (tCons (tVar 1) tNil)) (startR N_law_is_bend [.int q, tD b]) (.int b.length) := ed_to (ed_cb (ea1 (ed_var (d := tD b) rfl)) rc_lenT) (by rw [len_tD])
  refine run_no ((et_or (a := false) (b := false) ((et_not (et_val (ed_isTT (ed_var rfl)))).to rfl) fun _ => (et_or (a := false) (b := false) (et_test (ed_op len ed_int (rd_I0 fun _ => ?_))) fun _ => et_test (ed_op len ed_int (rd_I0 fun _ => ?_))).to rfl).to rfl) (run_no (et_test (ed_noneL (ds := []) (EdL.mk (ed_lc (fun _ => false) (fun x => x) (ei_tup (ed_var (d := tD b) rfl)) (by rw [len_tD]; omega) fun i x hx => ?_) (keep_none fun _ _ => rfl)))) (run_last (run_ret (ed_to (ed_and (a := true) (b := true) (ed_to (ed_op (ed_op (ed_var (d := tD b) rfl) ed_int (rd_ixT (atI_nD (i := 0) (by omega)))) ed_int rd_eqI) ?_) fun _ => ed_and (a := true) (b := true) (ed_to (ed_op (ed_op (ed_var (d := tD b) rfl) ed_int (rd_ixT (atI_nD (i := 1) (by omega)))) ed_int rd_eqI) ?_) fun _ => ed_op (ed_op (ed_var (d := tD b) rfl) ed_m1 (rd_ixT (atI_top (by omega)))) ed_int (rd_I0 fun _ => dp_dec (by omega))) rfl))))
  · have e : decide ((b.length : Int) < 3) = false := decide_eq_false (by omega)
    rw [e]
    exact .bl _
  · have e : decide ((b.length : Int) > 7) = false := decide_eq_false (by omega)
    rw [e]
    exact .bl _
  · obtain ⟨a, _, rfl⟩ := map_nD hx
    exact ⟨_, _, bd_name, fun j hj => hj, (et_not (et_val (ed_call (ea2 (ed_var rfl) (ed_var rfl)) (R_law_is_number.mk q a)))).to rfl, fun e => nomatch e⟩
  · rw [hb.z0, dec0]
    rfl
  · rw [hb.z1, dec0]
    rfl
abbrev N_law_is_map : List Str := ["_law_q", "_law_thing", "_law_x"]
theorem sc_law_is_map : FnScope N_law_is_map ["_law_q", "_law_thing"] (defScope s_law_is_map) := ⟨rfl, rfl, rfl, by decide +kernel, rfl, by decide +kernel, by decide +kernel⟩
theorem ok_law_is_map (T : Top K mg) : Has P w K mg base 4 "_law_is_map" ["_law_q", "_law_thing"] (spR K R_law_is_map) := by
  obtain ⟨f, fd, g, Fd⟩ := T.def_ 83 d_law_is_map rfl
  have nd := sc_law_is_map.nd
  have h_law_cross := ok_law_cross (P := P) (w := w) (base := base) T
  have h_law_is_number := ok_law_is_number (P := P) (w := w) (base := base) T
  refine has_of g Fd sc_law_is_map (fun _ _ _ _ _ _ us hl => match us, hl with | [_, _], _ => rfl) (fun _ _ h => by cases h <;> rfl) fun cdv A outer s H E hr ds d h => ?_
  refine ⟨_, (pss_cons (ps_if (PW.pt (pw_or (pt_not (pt_val (pe_callB call_isi rfl (T.free 5 _ rfl) boot_isinstance (pa_cons (pv 1) (pa_cons (pe_bltn (v := .ty "tuple") rfl (T.free 13 _ rfl) boot_tuple rfl) pa_nil))))) (pw_or1 (pt_cmpR op_ne (pe_callB call_len_seq rfl (T.free 6 _ rfl) boot_len (pa_cons (pv 1) pa_nil)) pe_int (nomark _))))) (pss_one (ps_ret pe_bl)) pss_nil) (pss_cons (ps_if (pt_cmpR (op_neD hr.units) (pe_lc (own := [("_law_x", 2)]) rfl nd (pi_tup (pv 1)) (blkOk_by (own := [("_law_x", 2)]) (N := N_law_is_map) (sc := defScope s_law_is_map) (by decide +kernel)) (fun _ _ _ _ _ => (pg_name (i := 2) nd rfl (Or.inl rfl))) (fun _ _ _ _ _ => (pts_one (pt_not (pt_val (pe_callH h_law_is_number hr (by decide) rfl (pa_cons (pv 0) (pa_cons (pv 2) pa_nil))))))) (fun _ _ _ _ _ => (pv 2))) (pe_lst pa_nil) (nomark _)) (pss_one (ps_ret pe_bl)) pss_nil) (pss_one (ps_ret (pe_cmpR op_ne (pe_callH h_law_cross hr (by decide) rfl (pa_cons (pv 0) (pa_cons (pe_ix ix_tup (pv 1) pe_int (fun _ _ => rfl)) (pa_cons (pe_ix ix_tup (pv 1) pe_int (fun _ _ => rfl)) (pa_cons (pe_ix ix_tup (pv 1) pe_int (fun _ _ => rfl)) (pa_cons (pe_ix ix_tup (pv 1) pe_int (fun _ _ => rfl)) pa_nil)))))) pe_int (nomark _)))))), ?_⟩
  cases h with
  | mk q m hm =>
  have hq := q_bd (q := q)
  refine run_no ((et_or (a := false) (b := false) ((et_not (et_val (ed_isTT (ed_var rfl)))).to rfl) fun _ => (et_test (ed_op (ed_cb (ea1 (ed_var rfl)) rc_lenT) ed_int rd_neI)).to rfl).to rfl) (run_no (et_test (ed_noneL (ds := []) (EdL.mk (ed_lc (fun _ => false) (fun x => x) (ei_tup (xs := [m.a, m.b, m.c, m.d, m.e, m.f].map nD) (ed_var rfl)) (by simp) fun i x hx => ?_) (keep_none fun _ _ => rfl)))) (run_last (run_ret (ed_to (ed_op (ed_call (ea5 (ed_var rfl) (ed_op (ed_var (d := mD m) rfl) ed_int (rd_ixT rfl)) (ed_op (ed_var (d := mD m) rfl) ed_int (rd_ixT rfl)) (ed_op (ed_var (d := mD m) rfl) ed_int (rd_ixT rfl)) (ed_op (ed_var (d := mD m) rfl) ed_int (rd_ixT rfl))) (R_law_cross.mk q m.a m.b m.d m.e)) ed_int rd_neI) ?_))))
  · obtain ⟨a, _, rfl⟩ := map_nD hx
    exact ⟨_, _, bd_name, fun j hj => hj, (et_not (et_val (ed_call (ea2 (ed_var rfl) (ed_var rfl)) (R_law_is_number.mk q a)))).to rfl, fun e => nomatch e⟩
  · rw [dec0]
    have : m.a * m.e - m.b * m.d ≠ 0 := hm
    rw [decide_eq_false this]
    rfl
end
end K19

/-! TEXT K19W17 -/
set_option Elab.async false
set_option linter.all false
set_option maxRecDepth 100000
set_option maxHeartbeats 4000000
set_option autoImplicit false
/-! The walks, 17: the law's own look at a step, and its determinant. -/
namespace K19
open PySem PySem.Spec PyProof.Rows L2
open Evl (Ex)
theorem oI_lo {q : Nat} (r : Option (F q)) : -1 ≤ oI r := by
  cases r with
  | none => exact Int.le_refl _
  | some r => show -1 ≤ ((r.v : Nat) : Int); omega
theorem oI_hi {q : Nat} [Fld q] (r : Option (F q)) : oI r < q := by
  have hq := q_bd (q := q)
  cases r with
  | none => show (-1 : Int) < q; omega
  | some r => have := r.h; show ((r.v : Nat) : Int) < q; omega
/-- the signs of a step's turns, one by one -/
def sgR {q : Nat} [Fld q] (x : F q) : List (Option (F q)) → F q
  | [] => x
  | none :: r => sgR x r
  | some _ :: r => sgR (-x) r
theorem sgR_snoc {q : Nat} [Fld q] : ∀ (r : List (Option (F q))) (x : F q) (t : Option (F q)), sgR x (r ++ [t]) = if t.isSome then -sgR x r else sgR x r
  | [], x, none => rfl
  | [], x, some _ => rfl
  | none :: r, x, t => sgR_snoc r x t
  | some _ :: r, x, t => sgR_snoc r (-x) t
theorem sgR_somes {q : Nat} [Fld q] : ∀ (ts : List (F q)) (x : F q), sgR x (ts.map some) = ST.sgn ts.length x
  | [], x => by
    show x = _
    unfold ST.sgn
    rw [if_neg (by simp)]
  | t :: ts, x => by
    show sgR (-x) (ts.map some) = _
    rw [sgR_somes ts (-x), List.length_cons, ST.sgn_succ, ST.sgn_neg]
theorem sgR_det {q : Nat} [Fld q] (s : ST q) : sgR s.last.det (s.start :: s.turns.map some) = s.det := by
  unfold ST.det ST.flips
  cases s.start with
  | none =>
    show sgR s.last.det (s.turns.map some) = _
    rw [sgR_somes]
    rfl
  | some r =>
    show sgR (-s.last.det) (s.turns.map some) = _
    rw [sgR_somes, ST.sgn_neg]
    show _ = ST.sgn (s.turns.length + 1) _
    rw [ST.sgn_succ]
section
variable {P : Program} {w : World} {K : PySem.W.Frag} {mg : Str → Option Value} {base : Heap}
abbrev N_law_is_step : List Str := ["_law_q", "_law_thing", "_law_start", "_law_bends", "_law_turns", "_law_last", "_law_bend_here", "_law_turn"]
theorem sc_law_is_step : FnScope N_law_is_step ["_law_q", "_law_thing"] (defScope s_law_is_step) := ⟨rfl, rfl, rfl, by decide +kernel, rfl, by decide +kernel, by decide +kernel⟩
theorem ok_law_is_step (T : Top K mg) : Has P w K mg base 5 "_law_is_step" ["_law_q", "_law_thing"] (spR K R_law_is_step) := by
  obtain ⟨f, fd, g, Fd⟩ := T.def_ 84 d_law_is_step rfl
  have nd := sc_law_is_step.nd
  have h_law_is_map := ok_law_is_map (P := P) (w := w) (base := base) T
  have h_law_is_number := ok_law_is_number (P := P) (w := w) (base := base) T
  have h_law_is_bend := ok_law_is_bend (P := P) (w := w) (base := base) T
  refine has_of g Fd sc_law_is_step (fun _ _ _ _ _ _ us hl => match us, hl with | [_, _], _ => rfl) (fun _ _ h => by cases h <;> rfl) fun cdv A outer s H E hr ds d h => ?_
  refine ⟨_, (pss_cons (ps_if (PW.pt (pw_or (pt_not (pt_val (pe_callB call_isi rfl (T.free 5 _ rfl) boot_isinstance (pa_cons (pv 1) (pa_cons (pe_bltn (v := .ty "tuple") rfl (T.free 13 _ rfl) boot_tuple rfl) pa_nil))))) (pw_or1 (pt_cmpR op_ne (pe_callB call_len_seq rfl (T.free 6 _ rfl) boot_len (pa_cons (pv 1) pa_nil)) pe_int (nomark _))))) (pss_one (ps_ret pe_bl)) pss_nil) (pss_cons (ps_asg (pv 1) (pg_tup rfl (pgs_cons (pg_name (i := 2) nd rfl (Or.inl rfl)) (pgs_cons (pg_name (i := 3) nd rfl (Or.inl rfl)) (pgs_cons (pg_name (i := 4) nd rfl (Or.inl rfl)) (pgs_cons (pg_name (i := 5) nd rfl (Or.inl rfl)) pgs_nil)))))) (pss_cons (ps_if (PW.pt (pw_or (pt_not (pt_val (pe_callB call_isi rfl (T.free 5 _ rfl) boot_isinstance (pa_cons (pv 2) (pa_cons (pe_bltn (v := .ty "int") rfl (T.free 4 _ rfl) boot_int rfl) pa_nil))))) (pw_or (pt_val (pe_callB call_isi rfl (T.free 5 _ rfl) boot_isinstance (pa_cons (pv 2) (pa_cons (pe_bltn (v := .ty "bool") rfl (T.free 1 _ rfl) boot_bool rfl) pa_nil)))) (pw_or (pt_cmpR op_lt (pv 2) (pe_un un_neg pe_int) (nomark _)) (pw_or1 (pt_cmpR op_ge (pv 2) (pv 0) (nomark _))))))) (pss_one (ps_ret pe_bl)) pss_nil) (pss_cons (ps_if (PW.pt (pw_or (pt_not (pt_val (pe_callB call_isi rfl (T.free 5 _ rfl) boot_isinstance (pa_cons (pv 3) (pa_cons (pe_bltn (v := .ty "tuple") rfl (T.free 13 _ rfl) boot_tuple rfl) pa_nil))))) (pw_or1 (pt_cmpR (op_neD hr.units) (pe_lc (own := [("_law_bend_here", 6)]) rfl nd (pi_tup (pv 3)) (blkOk_by (own := [("_law_bend_here", 6)]) (N := N_law_is_step) (sc := defScope s_law_is_step) (by decide +kernel)) (fun _ _ _ _ _ => (pg_name (i := 6) nd rfl (Or.inl rfl))) (fun _ _ _ _ _ => (pts_one (pt_not (pt_val (pe_callH h_law_is_bend hr (by decide) rfl (pa_cons (pv 0) (pa_cons (pv 6) pa_nil))))))) (fun _ _ _ _ _ => (pv 6))) (pe_lst pa_nil) (nomark _))))) (pss_one (ps_ret pe_bl)) pss_nil) (pss_cons (ps_if (PW.pt (pw_or (pt_not (pt_val (pe_callB call_isi rfl (T.free 5 _ rfl) boot_isinstance (pa_cons (pv 4) (pa_cons (pe_bltn (v := .ty "tuple") rfl (T.free 13 _ rfl) boot_tuple rfl) pa_nil))))) (pw_or1 (pt_cmpR (op_neD hr.units) (pe_lc (own := [("_law_turn", 7)]) rfl nd (pi_tup (pv 4)) (blkOk_by (own := [("_law_turn", 7)]) (N := N_law_is_step) (sc := defScope s_law_is_step) (by decide +kernel)) (fun _ _ _ _ _ => (pg_name (i := 7) nd rfl (Or.inl rfl))) (fun _ _ _ _ _ => (pts_one (pt_not (pt_val (pe_callH h_law_is_number hr (by decide) rfl (pa_cons (pv 0) (pa_cons (pv 7) pa_nil))))))) (fun _ _ _ _ _ => (pv 7))) (pe_lst pa_nil) (nomark _))))) (pss_one (ps_ret pe_bl)) pss_nil) (pss_cons (ps_if (PW.pt (pw_or (pt_cmpR op_ne (pe_callB call_len_seq rfl (T.free 6 _ rfl) boot_len (pa_cons (pv 4) pa_nil)) (pe_callB (call_max2 rfl) rfl (T.free 8 _ rfl) (by decide +kernel) (pa_cons pe_int (pa_cons (pe_op op_sub (pe_callB call_len_seq rfl (T.free 6 _ rfl) boot_len (pa_cons (pv 3) pa_nil)) pe_int) pa_nil))) (nomark _)) (pw_or1 (pt_not (pt_val (pe_callH h_law_is_map hr (by decide) rfl (pa_cons (pv 0) (pa_cons (pv 5) pa_nil)))))))) (pss_one (ps_ret pe_bl)) pss_nil) (pss_one (ps_ret (pe_or (pe_cmpR (op_neD hr.units) (pv 3) (pe_tup pa_nil) (nomark _)) (pe_one (pe_cmpR op_eq (pv 2) (pe_un un_neg pe_int) (nomark _)))))))))))), ?_⟩
  cases h with
  | mk q s hs hl =>
  have hq := q_bd (q := q)
  have hlen := hs.len
  have h1 := oI_lo s.start
  have h2 := oI_hi s.start
  refine run_no ((et_or (a := false) (b := false) ((et_not (et_val (ed_isTT (ed_var rfl)))).to rfl) fun _ => (et_test (ed_op (ed_cb (ea1 (ed_var rfl)) rc_lenT) ed_int rd_neI)).to rfl).to rfl) ?_
  refine run_asg (ed_var rfl) (bd_tup rfl (bds_cons (bds_cons (bds_cons (bds_cons bds_nil))))) ?_
  refine run_no (EdT.to (et_or (a := false) (b := false) ((et_not (et_val (ed_isII (ed_var rfl)))).to rfl) fun _ => (et_or (a := false) (b := false) (et_val (ed_isIB (ed_var rfl))) fun _ => (et_or (a := false) (b := false) (et_test (ed_op (ed_var rfl) ed_m1 (rd_I0 fun _ => ?_))) fun _ => et_test (ed_op (ed_var rfl) (ed_var rfl) (rd_I0 fun _ => ?_))).to rfl).to rfl) rfl) ?_
  · have e : decide (oI s.start < -1) = false := decide_eq_false (by omega)
    rw [e]
    exact .bl _
  · have e : decide (oI s.start ≥ (q : Int)) = false := decide_eq_false (by omega)
    rw [e]
    exact .bl _
  refine run_no (EdT.to (et_or (a := false) (b := false) ((et_not (et_val (ed_isTT (ed_var rfl)))).to rfl) fun _ => et_test (ed_noneL (ds := []) (EdL.mk (ed_lc (fun _ => false) (fun x => x) (ei_tup (xs := s.bends.map tD) (ed_var rfl)) (by rw [List.length_map]; omega) fun i x hx => ?_) (keep_none fun _ _ => rfl)))) rfl) ?_
  · obtain ⟨b, hb, rfl⟩ := map_at hx
    exact ⟨_, _, bd_name, fun j hj => hj, (et_not (et_val (ed_call (ea2 (ed_var rfl) (ed_var rfl)) (R_law_is_bend.mk q b (hs.bend b (List.mem_of_getElem? hb)))))).to rfl, fun e => nomatch e⟩
  refine run_no (EdT.to (et_or (a := false) (b := false) ((et_not (et_val (ed_isTT (ed_var rfl)))).to rfl) fun _ => et_test (ed_noneL (ds := []) (EdL.mk (ed_lc (fun _ => false) (fun x => x) (ei_tup (xs := s.turns.map nD) (ed_var rfl)) (by rw [List.length_map]; omega) fun i x hx => ?_) (keep_none fun _ _ => rfl)))) rfl) ?_
  · obtain ⟨a, _, rfl⟩ := map_nD hx
    exact ⟨_, _, bd_name, fun j hj => hj, (et_not (et_val (ed_call (ea2 (ed_var rfl) (ed_var rfl)) (R_law_is_number.mk q a)))).to rfl, fun e => nomatch e⟩
  refine run_no (EdT.to (et_or (a := false) (b := false) (et_test (ed_to (ed_op (ed_cb (ea1 (ed_var (d := tD s.turns) rfl)) rc_lenT) (ed_cb (ea2 ed_int (ed_op (ed_cb (ea1 (ed_var (d := bD s.bends) rfl)) rc_lenT) ed_int (rd_I0 fun _ => .int _))) rc_max2) rd_neI) ?_)) fun _ => (et_not (et_val (ed_call (ea2 (ed_var rfl) (ed_var rfl)) (R_law_is_map.mk q s.last hs.det)))).to rfl) rfl) ?_
  · rw [len_tD, List.length_map]
    have e : ((s.turns.length : Nat) : Int) = if ((s.bends.length : Nat) : Int) - 1 > 0 then ((s.bends.length : Nat) : Int) - 1 else 0 := by
      split <;> omega
    rw [← e, decide_eq_true rfl]
    rfl
  refine run_last (run_ret (ed_to (ed_or (a := !s.bends.isEmpty) (b := s.start.isNone) (ed_to (ed_op (ed_var (d := bD s.bends) rfl) (ed_tup ea_nil (le5 rfl)) (rd_neD (fl_bD (n := 1)).shaped (fl_nil (n := 1)).shaped)) ?_) fun _ => ed_to (ed_op (ed_var (d := rD s.start) rfl) ed_m1 rd_eqI) ?_) ?_))
  · rw [eqv_nil, List.isEmpty_map]
  · rw [rdec]
  · cases hb : s.bends with
    | nil =>
      rw [hs.nil hb]
      rfl
    | cons b bs => rfl
abbrev N_law_told : List Str := ["_law_q", "_law_step_here", "_law_found", "_law_turn"]
theorem sc_law_told : FnScope N_law_told ["_law_q", "_law_step_here"] (defScope s_law_told) := ⟨rfl, rfl, rfl, by decide +kernel, rfl, by decide +kernel, by decide +kernel⟩
theorem ok_law_told (T : Top K mg) : Has P w K mg base 4 "_law_told" ["_law_q", "_law_step_here"] (spR K R_law_told) := by
  obtain ⟨f, fd, g, Fd⟩ := T.def_ 87 d_law_told rfl
  have nd := sc_law_told.nd
  have h_law_less := ok_law_less (P := P) (w := w) (base := base) T
  have h_law_cross := ok_law_cross (P := P) (w := w) (base := base) T
  refine has_of g Fd sc_law_told (fun _ _ _ _ _ _ us hl => match us, hl with | [_, _], _ => rfl) (fun _ _ h => by cases h <;> rfl) fun cdv A outer s H E hr ds d h => ?_
  refine ⟨_, (pss_cons (ps_set (i := 2) nd rfl (Or.inl rfl) (pe_callH h_law_cross hr (by decide) rfl (pa_cons (pv 0) (pa_cons (pe_ix ix_tup (pe_ix ix_tup (pv 1) pe_int (fun _ _ => rfl)) pe_int (fun _ _ => rfl)) (pa_cons (pe_ix ix_tup (pe_ix ix_tup (pv 1) pe_int (fun _ _ => rfl)) pe_int (fun _ _ => rfl)) (pa_cons (pe_ix ix_tup (pe_ix ix_tup (pv 1) pe_int (fun _ _ => rfl)) pe_int (fun _ _ => rfl)) (pa_cons (pe_ix ix_tup (pe_ix ix_tup (pv 1) pe_int (fun _ _ => rfl)) pe_int (fun _ _ => rfl)) pa_nil))))))) (pss_cons (ps_for PassesOwn.never rfl (pi_tup (pe_op op_catA (pe_tup (pa_cons (pe_ix ix_tup (pv 1) pe_int (fun _ _ => rfl)) pa_nil)) (pe_ix ix_tup (pv 1) pe_int (fun _ _ => rfl)))) (pg_name (i := 3) nd rfl (Or.inl rfl)) (pss_one (ps_set (i := 2) nd rfl (Or.inl rfl) (pe_ifExp (pt_cmpR op_lt (pv 3) pe_int (nomark _)) (pv 2) (pe_callH h_law_less hr (by decide) rfl (pa_cons (pv 0) (pa_cons (pv 2) pa_nil))))))) (pss_one (ps_ret (pv 2))))), ?_⟩
  cases h with
  | mk q s hl =>
  have hq := q_bd (q := q)
  let ts : List (Option (F q)) := s.start :: s.turns.map some
  have hxs : (PyData.tuple ([rD s.start] ++ s.turns.map nD)) = .tuple (ts.map rD) := by
    show PyData.tuple (rD s.start :: s.turns.map nD) = .tuple (rD s.start :: (s.turns.map some).map rD)
    rw [List.map_map]
    rfl
  have hw : EdI K (iTup K (tOp (rCatA K) (tTup (tCons (tOp (rIxT K) (tVar 1) (tC (.int 0))) tNil)) (tOp (rIxT K) (tVar 1) (tC (.int 2))))) [.dat (.int q), .dat (sD s), .dat (nD s.last.det), .no] (ts.map rD) :=
    ei_tup (ed_to (ed_op (ed_tup (ea1 (ed_op (ed_var rfl) ed_int (rd_ixT (d := rD s.start) rfl))) (le5 rfl)) (ed_op (ed_var rfl) ed_int (rd_ixT (d := tD s.turns) rfl)) (rd_catT (by rw [len_tD]; show 1 + _ ≤ _; omega))) hxs)
  refine run_set (ed_call (ea5 (ed_var rfl) (ed_op (ed_op (ed_var (d := sD s) rfl) ed_int (rd_ixT (d := mD s.last) rfl)) ed_int (rd_ixT rfl)) (ed_op (ed_op (ed_var (d := sD s) rfl) ed_int (rd_ixT (d := mD s.last) rfl)) ed_int (rd_ixT rfl)) (ed_op (ed_op (ed_var (d := sD s) rfl) ed_int (rd_ixT (d := mD s.last) rfl)) ed_int (rd_ixT rfl)) (ed_op (ed_op (ed_var (d := sD s) rfl) ed_int (rd_ixT (d := mD s.last) rfl)) ed_int (rd_ixT rfl))) (R_law_cross.mk q s.last.a s.last.b s.last.d s.last.e)) ?_
  refine run_for (fun i => [.dat (.int q), .dat (sD s), .dat (nD (sgR s.last.det (ts.take i))), match i with | 0 => .no | i + 1 => .dat (rD (ts.getD i none))]) hw rfl (fun i x hx => ?_) (run_last (run_ret (ed_to (ed_var rfl) ?_)))
  · obtain ⟨t, ht, rfl⟩ := map_at hx
    have e1 : sgR s.last.det (ts.take (i + 1)) = if t.isSome then -sgR s.last.det (ts.take i) else sgR s.last.det (ts.take i) := by
      rw [List.take_add_one, ht]
      exact sgR_snoc _ _ _
    have e2 : ts.getD i none = t := by rw [List.getD_eq_getElem?_getD, ht]; rfl
    refine ⟨[.dat (.int q), .dat (sD s), .dat (nD (sgR s.last.det (ts.take i))), .dat (rD t)], _, bd_name (i := 3), ?_⟩
    show Run K _ _ (.nx [.dat (.int q), .dat (sD s), .dat (nD (sgR s.last.det (ts.take (i + 1)))), .dat (rD (ts.getD i none))])
    rw [e1, e2]
    refine run_last (run_set (ed_if (b := t.isNone) (et_test (ed_to (ed_op (ed_var (d := rD t) rfl) ed_int (rd_I0 fun _ => .bl _)) ?_)) (fun e => ?_) (fun e => ?_)) run_end)
    · congr 1
      cases t with
      | none => rfl
      | some r => exact decide_eq_false (show ¬ ((r.v : Nat) : Int) < 0 by omega)
    · cases t with
      | none => exact ed_var rfl
      | some r => cases e
    · cases t with
      | none => cases e
      | some r => exact ed_call (ea2 (ed_var rfl) (ed_var rfl)) (R_law_less.mk q (sgR s.last.det (ts.take i)))
  · rw [List.length_map, List.take_length]
    exact congrArg nD (sgR_det s)
end
end K19

/-! TEXT K19W18 -/
set_option Elab.async false
set_option linter.all false
set_option maxRecDepth 100000
set_option maxHeartbeats 4000000
set_option autoImplicit false
/-! The walks, 18: the law's own inverse. -/
namespace K19
open PySem PySem.Spec PyProof.Rows L2
open Evl (Ex)
inductive R_law_under : List PyData → PyData → Prop
  | mk (q : Nat) [Fld q] (a : F q) (h : a ≠ 0) : R_law_under [.int q, nD a] (nD (F.inv a))
/-- the inverse, as the law seeks it -/
def undN (q a : Nat) : Bool := if q = 4 ∨ q = 8 ∨ q = 9 ∨ q = 16 then Nat.beq ((powN q).getD ((q - 1 - (powN q).idxOf a) % (q - 1)) 0) (powF q a (q - 2))
  else ((List.range (q - 1)).map (fun i => i + 1)).filter (fun b => Nat.beq (a * b % q) 1) == [powF q a (q - 2)]
theorem undN_all : (fields.all fun q => (List.range (q - 1)).all fun a => undN q (a + 1)) = true := by decide +kernel
theorem undN_ok {q : Nat} [Fld q] {a : F q} (h : a ≠ 0) : undN q a.v = true := by
  have h1 := fld_all (q := q) undN_all
  have h0 := F.ne_v.mp h
  have h2 := List.all_eq_true.mp h1 (a.v - 1) (List.mem_range.mpr (by have := a.h; omega))
  have e : a.v - 1 + 1 = a.v := by omega
  rw [e] at h2
  exact h2
theorem undN_pow {q : Nat} [Fld q] {a : F q} (h : a ≠ 0) (e : q = 4 ∨ q = 8 ∨ q = 9 ∨ q = 16) : (powN q).getD ((q - 1 - (powN q).idxOf a.v) % (q - 1)) 0 = (F.inv a).v := by
  have h1 := undN_ok h
  unfold undN at h1
  rw [if_pos e] at h1
  rw [Nat.eq_of_beq_eq_true h1]
  unfold F.inv
  rw [F.pow_v]
theorem undN_raw {q : Nat} [Fld q] {a : F q} (h : a ≠ 0) (e : ¬ (q = 4 ∨ q = 8 ∨ q = 9 ∨ q = 16)) : ((List.range (q - 1)).map (fun i => i + 1)).filter (fun b => Nat.beq (a.v * b % q) 1) = [(F.inv a).v] := by
  have h1 := undN_ok h
  unfold undN at h1
  rw [if_neg e] at h1
  rw [eq_of_beq h1]
  unfold F.inv
  rw [F.pow_v]
def unP (q a : Nat) : PyData → Bool
  | .int b => decide ((a : Int) * b % (q : Int) = 1)
  | _ => false
theorem keep_raw {q : Nat} [Fld q] {a : F q} (h : a ≠ 0) (e : ¬ (q = 4 ∨ q = 8 ∨ q = 9 ∨ q = 16)) : keep (unP q a.v) (fun x => x) (rgD 1 (((q : Int) - 1).toNat)) = [nD (F.inv a)] := by
  have hq := q_bd (q := q)
  have e1 : ((q : Int) - 1).toNat = q - 1 := by omega
  have e2 : rgD 1 (q - 1) = ((List.range (q - 1)).map (fun i => i + 1)).map fun n : Nat => PyData.int n := by
    unfold rgD
    rw [List.map_map]
    refine List.map_congr_left fun i _ => ?_
    show PyData.int (1 + (i : Int)) = .int ((i + 1 : Nat) : Int)
    congr 1
    omega
  unfold keep
  rw [e1, e2, List.filter_map, List.map_map]
  have e3 : ((unP q a.v) ∘ fun n : Nat => PyData.int n) = fun b => Nat.beq (a.v * b % q) 1 := by
    funext b
    show decide ((a.v : Int) * (b : Int) % (q : Int) = 1) = Nat.beq (a.v * b % q) 1
    have e4 : (a.v : Int) * (b : Int) % (q : Int) = ((a.v * b % q : Nat) : Int) := by simp
    rw [e4]
    by_cases h : a.v * b % q = 1
    · rw [h]
      rfl
    · rw [decide_eq_false (by omega)]
      cases z : Nat.beq (a.v * b % q) 1 with
      | false => rfl
      | true => exact absurd (Nat.eq_of_beq_eq_true z) h
  rw [e3, undN_raw h e]
  rfl
section
variable {P : Program} {w : World} {K : PySem.W.Frag} {mg : Str → Option Value} {base : Heap}
abbrev N_law_under : List Str := ["_law_q", "_law_a", "_law_powers_here", "_law_b"]
theorem sc_law_under : FnScope N_law_under ["_law_q", "_law_a"] (defScope s_law_under) := ⟨rfl, rfl, rfl, by decide +kernel, rfl, by decide +kernel, by decide +kernel⟩
theorem ok_law_under (T : Top K mg) : Has P w K mg base 2 "_law_under" ["_law_q", "_law_a"] (spR K R_law_under) := by
  obtain ⟨f, fd, g, Fd⟩ := T.def_ 76 d_law_under rfl
  have nd := sc_law_under.nd
  have h_law_powers := ok_law_powers (P := P) (w := w) (base := base) T
  refine has_of g Fd sc_law_under (fun _ _ _ _ _ _ us hl => match us, hl with | [_, _], _ => rfl) (fun _ _ h => by cases h <;> rfl) fun cdv A outer s H E hr ds d h => ?_
  refine ⟨_, (pss_cons (ps_set (i := 2) nd rfl (Or.inl rfl) (pe_callH h_law_powers hr (by decide) rfl (pa_cons (pv 0) pa_nil))) (pss_cons (ps_if (pt_cmpR (op_eqD hr.units) (pv 2) (pe_tup pa_nil) (nomark _)) (pss_one (ps_ret (pe_ix ix_list (pe_lc (own := [("_law_b", 3)]) rfl nd (pi_range2 rfl (T.free 9 _ rfl) (pa_cons pe_int (pa_cons (pv 0) pa_nil))) (blkOk_by (own := [("_law_b", 3)]) (N := N_law_under) (sc := defScope s_law_under) (by decide +kernel)) (fun _ _ _ _ _ => (pg_name (i := 3) nd rfl (Or.inl rfl))) (fun _ _ _ _ _ => (pts_one (pt_cmpR op_eq (pe_op op_mod (pe_callTy call_int1 rfl (T.free 4 _ rfl) boot_int (pa_cons (pe_op op_mul (pv 1) (pv 3)) pa_nil)) (pv 0)) pe_int (nomark _)))) (fun _ _ _ _ _ => (pv 3))) pe_int (fun _ _ => rfl)))) pss_nil) (pss_one (ps_ret (pe_ix ix_tup (pv 2) (pe_op op_mod (pe_callTy call_int1 rfl (T.free 4 _ rfl) boot_int (pa_cons (pe_op op_sub pe_int (pe_idxF (pv 2) (pa_cons (pv 1) pa_nil))) pa_nil)) (pe_op op_sub (pv 0) pe_int)) (fun _ _ => rfl)))))), ?_⟩
  cases h with
  | mk q a ha =>
  have hq := q_bd (q := q)
  have ha0 := F.ne_v.mp ha
  refine fun σ H0 D H E t sl k => ?_
  obtain ⟨v0, s0, p0⟩ := sl.at_ 0 _ rfl
  rw [dp_int p0] at s0
  refine ⟨_, s0, q, D, rfl, t.s, fun p D1 H1 t1 hz => ?_⟩
  have hz1 := FzT.mono hz t1.s
  have dz : Dp K D1 (.ref p) (.tuple ((powI q).map PyData.int)) := .tup hz.sq (dpA_of_ints _)
  have sl1 := (sl.mono t1).set 2 dz
  have T1 := t.go t1
  have g3 : (σ.set 2 (some (V.ref p)))[2]? = some (some (.ref p)) := List.getElem?_set_self (by rw [sl.len]; exact (by decide : 2 < 4))
  have k1 := k.of (t.up t1)
  refine ⟨_, g3, Nat.zero_le _, fun c hc => ?_⟩
  have t2 : Stp D1 H1 (upd D1 c (.tup [])) (upd H1 c (.tup [])) := Stp.new t1.s hc
  have dc : Dp K (upd H1 c (.tup [])) (.ref c) (.tuple []) := .tup (SqT.of upd_same) .nil
  have sl2 := sl1.mono t2
  have T2 := T1.go t2
  have k2 := k1.of (T1.up t2)
  have hz2 := FzT.mono hz t2.d
  refine ⟨_, _, dpX (t2.d.trans t2.s) dz, dc, (fl_ints (n := 1)).shaped, (fl_nil (n := 1)).shaped, _, rfl, ?_⟩
  rw [eqv_nil]
  by_cases e3 : q = 4 ∨ q = 8 ∨ q = 9 ∨ q = 16
  · have en := powI_N e3
    have nn : ((powI q).map PyData.int).isEmpty = false := by
      rw [en]
      rcases e3 with h | h | h | h <;> subst h <;> rfl
    rw [nn]
    refine if_no ?_
    obtain ⟨w0, r0, q0⟩ := sl2.at_ 0 (.int q) rfl
    obtain ⟨w1, r1, q1⟩ := sl2.at_ 1 (nD a) rfl
    rw [dp_int q0] at r0
    rw [dp_int q1] at r1
    have hz4 := FzT.mono hz2 t2.s
    obtain ⟨o, f1, f2, f3⟩ := id hz4
    have m1 : ((a.v : Nat) : Int) ∈ powI q := by rw [en]; exact List.mem_map.mpr ⟨_, pow_has e3 a.h (by omega), rfl⟩
    refine ⟨_, g3, _, g3, ⟨p, o, _, rfl, f1, f2, f3⟩, _, r1, p, _, _, rfl, rfl, hz4.sq, m1, _, _, rfl, rfl, .inl ⟨_, rfl, _, r0, _, _, rfl, rfl, _, _, rfl, rfl, (by show (0 : Int) < (q : Int) - 1; have := e3; omega), p, _, _, .int ((F.inv a).v : Nat), rfl, rfl, hz4.sq, ?_, k2 _ _ _ T2 (.int _)⟩⟩
    rw [en, idx_map]
    have hi : (powN q).idxOf a.v < q - 1 := by
      rw [← pow_len e3]
      exact List.idxOf_lt_length_of_mem (pow_has e3 a.h (by omega))
    have e5 : ((0 : Int) - (((powN q).idxOf a.v : Nat) : Int)) % ((q : Int) - 1) = (((q - 1 - (powN q).idxOf a.v) % (q - 1) : Nat) : Int) := by
      have e6 : ((q : Int) - 1) = ((q - 1 : Nat) : Int) := by omega
      have e7 : ((q - 1 - (powN q).idxOf a.v : Nat) : Int) = (0 - (((powN q).idxOf a.v : Nat) : Int)) + ((q - 1 : Nat) : Int) := by omega
      rw [Int.natCast_emod, e7, e6, Int.add_emod_right]
    rw [e5]
    refine atI_nat ?_
    have hlt : (q - 1 - (powN q).idxOf a.v) % (q - 1) < (powN q).length := by
      rw [pow_len e3]
      exact Nat.mod_lt _ (by omega)
    have e8 := undN_pow ha e3
    rw [List.getD_eq_getElem?_getD, List.getElem?_eq_getElem hlt] at e8
    rw [List.getElem?_map, List.getElem?_map, List.getElem?_eq_getElem hlt, ← e8]
    rfl
  · have nn : ((powI q).map PyData.int).isEmpty = true := by
      rw [powI_no e3]
      rfl
    rw [nn]
    refine if_yes ?_
    have lc : Ed K (tLc (iRng2 (tCons (tC (.int 1)) (tCons (tVar 0) tNil))) (gName 3) (tTest (tOp rEq (tOp (rI (fun _ j => 0 < j) fun i j => .int (i % j)) (tCB (fun xs H Q => (∃ i, xs = [V.int i] ∧ Q (.int i) H) ∨ ∃ k, xs = [V.bl k] ∧ Q (.int (if k then 1 else 0)) H) (tCons (tOp (rI CMul fun i j => .int (i * j)) (tVar 1) (tVar 3)) tNil)) (tVar 0)) (tC (.int 1)))) (tVar 3) [3]) (List.set (startR N_law_under [.int q, nD a]) 2 (.dat (.tuple ((powI q).map PyData.int)))) (.list [nD (F.inv a)]) := by
      refine EdL.mk (ed_lc (unP q a.v) (fun x => x) (ei_range2 (m := 1) (n := q) (ea2 ed_int (ed_var rfl)) ⟨by decide, by decide, by omega, by omega⟩) (by rw [rgD_len]; omega) fun i x hx => ?_) (keep_raw ha e3)
      obtain ⟨j, hj, rfl⟩ : ∃ j : Int, 0 ≤ j ∧ x = .int j := by
        unfold rgD at hx
        obtain ⟨i2, _, rfl⟩ := map_at hx
        exact ⟨1 + (i2 : Int), by omega, rfl⟩
      exact ⟨_, _, bd_name, fun j hj => hj, et_test (ed_to (ed_op (ed_op (ed_cb (ea1 (ed_op (ed_var (d := nD a) rfl) (ed_var (d := .int j) rfl) (rd_I (cmulN (by have := a.h; omega)) fun _ => .int _))) rc_intI) (ed_var (d := .int q) rfl) (rd_I (by omega) fun _ => .int _)) ed_int rd_eqI) rfl), fun _ => ed_var rfl⟩
    exact (ed_op (K := K) lc ed_int (rd_ixL (d := nD (F.inv a)) (i := 0) rfl)) _ _ H0 _ T2.s sl2 _ fun v D' H' t' p' => k2 v D' H' (T2.up t') p'
end
end K19

/-! TEXT K19S5 -/
set_option Elab.async false
set_option linter.all false
set_option maxRecDepth 100000
set_option maxHeartbeats 4000000
set_option autoImplicit false
/-! SETS OF NESTED TUPLES, 5: len(set(xs)). -/
namespace K19
open PySem PySem.Spec PyProof.Rows L2
open Evl (Ex)
mutual
def keyD : PyData → NestedKey
  | .int i => .num i
  | .tuple ds => .tup (keysD ds)
  | _ => .none
def keysD : List PyData → List NestedKey
  | [] => []
  | d :: ds => keyD d :: keysD ds
end
theorem keysD_map : ∀ ds : List PyData, keysD ds = ds.map keyD
  | [] => by simp only [keysD, List.map_nil]
  | d :: ds => by simp only [keysD, List.map_cons, keysD_map ds]
def Nst : Nat → PyData → Prop
  | _, .int _ => True
  | n + 1, .tuple ds => ∀ d ∈ ds, Nst n d
  | _, _ => False
theorem nst_int {n : Nat} {i : Int} : Nst n (.int i) := by
  cases n <;> exact True.intro
theorem nst_depth : ∀ (n : Nat) (d : PyData), Nst n d → (keyD d).depth ≤ n ∧ noTx (keyD d) = true := fun n => by
  induction n with
  | zero =>
    intro d h
    cases d with
    | int i => exact ⟨by simp only [keyD, NestedKey.depth]; exact Nat.le_refl 0, by simp only [keyD, noTx]⟩
    | _ => exact h.elim
  | succ n ih =>
    intro d h
    cases d with
    | int i => exact ⟨by simp only [keyD, NestedKey.depth]; exact Nat.zero_le _, by simp only [keyD, noTx]⟩
    | tuple ds =>
      have h : ∀ d ∈ ds, Nst n d := h
      have k : ∀ ds : List PyData, (∀ d ∈ ds, Nst n d) → NestedKey.depthAll (keysD ds) ≤ n ∧ noTxs (keysD ds) = true := fun ds => by
        induction ds with
        | nil => exact fun _ => ⟨by simp only [keysD, NestedKey.depthAll]; exact Nat.zero_le _, by simp only [keysD, noTxs]⟩
        | cons e es ih2 =>
          intro hh
          obtain ⟨a1, a2⟩ := ih e (hh e List.mem_cons_self)
          obtain ⟨b1, b2⟩ := ih2 fun x hx => hh x (List.mem_cons_of_mem _ hx)
          refine ⟨?_, ?_⟩
          · simp only [keysD, NestedKey.depthAll]
            omega
          · simp only [keysD, noTxs, a2, b2, Bool.and_self]
      obtain ⟨b1, b2⟩ := k ds h
      refine ⟨?_, ?_⟩
      · simp only [keyD, NestedKey.depth]
        omega
      · simp only [keyD, noTx, b2]
    | _ => exact h.elim
theorem key_inj : ∀ (n : Nat) (d e : PyData), Nst n d → Nst n e → keyD d = keyD e → d = e := fun n => by
  induction n with
  | zero =>
    intro d e h1 h2 h
    cases d with
    | int i =>
      cases e with
      | int j =>
        simp only [keyD, NestedKey.num.injEq] at h
        rw [h]
      | _ => exact h2.elim
    | _ => exact h1.elim
  | succ n ih =>
    intro d e h1 h2 h
    cases d with
    | int i =>
      cases e with
      | int j =>
        simp only [keyD, NestedKey.num.injEq] at h
        rw [h]
      | tuple es =>
        simp only [keyD] at h
        cases h
      | _ => exact h2.elim
    | tuple ds =>
      cases e with
      | int j =>
        simp only [keyD] at h
        cases h
      | tuple es =>
        simp only [keyD, NestedKey.tup.injEq] at h
        have h1 : ∀ d ∈ ds, Nst n d := h1
        have h2 : ∀ d ∈ es, Nst n d := h2
        have k : ∀ ds es : List PyData, (∀ d ∈ ds, Nst n d) → (∀ d ∈ es, Nst n d) → keysD ds = keysD es → ds = es := fun ds => by
          induction ds with
          | nil =>
            intro es _ _ h
            cases es with
            | nil => rfl
            | cons e es =>
              simp only [keysD] at h
              cases h
          | cons d ds ih2 =>
            intro es a b h
            cases es with
            | nil =>
              simp only [keysD] at h
              cases h
            | cons e es =>
              simp only [keysD, List.cons.injEq] at h
              rw [ih d e (a d List.mem_cons_self) (b e List.mem_cons_self) h.1, ih2 es (fun x hx => a x (List.mem_cons_of_mem _ hx)) (fun x hx => b x (List.mem_cons_of_mem _ hx)) h.2]
        rw [k ds es h1 h2 h]
      | _ => exact h2.elim
    | _ => exact h1.elim
section
variable {X : Cx}
theorem nest_of {pins : List (Addr × Obj)} {σ : L2.St} {H : Hp} {s : Shared} (I : Inv X pins σ H s) : ∀ (n : Nat) (d : PyData) (v : V) (u : Value), Nst n d → Dp X.K H v d → RelV v u → NestedIs s.heap (keyD d) u := fun n => by
  have int : ∀ (i : Int) (v : V) (u : Value), Dp X.K H v (.int i) → RelV v u → NestedIs s.heap (keyD (.int i)) u := fun i v u h r => by
    rw [dp_int h] at r
    obtain ⟨t, rfl⟩ := r
    simp only [keyD]
    exact .int i t
  induction n with
  | zero =>
    intro d v u h p r
    cases d with
    | int i => exact int i v u p r
    | _ => exact h.elim
  | succ n ih =>
    intro d v u h p r
    cases d with
    | int i => exact int i v u p r
    | tuple ds =>
      have h : ∀ d ∈ ds, Nst n d := h
      obtain ⟨a, xs, rfl, h1, h2⟩ := dp_tup p
      cases r
      obtain ⟨its, rv, ⟨o, ho, hc, m, hd⟩, _⟩ := I.tuple h1
      have k : ∀ (ds : List PyData) (vs : List V) (us : List Value), (∀ d ∈ ds, Nst n d) → DpAll X.K H vs ds → Vals vs us → NestedAll s.heap (keysD ds) us := fun ds => by
        induction ds with
        | nil =>
          intro vs us _ p r
          cases p
          cases r
          simp only [keysD]
          exact .nil
        | cons d ds ih2 =>
          intro vs us hh p r
          cases p with
          | cons p1 p2 =>
            cases r with
            | cons r1 r2 =>
              simp only [keysD]
              exact .cons (ih d _ _ (hh d List.mem_cons_self) p1 r1) (ih2 _ _ (fun x hx => hh x (List.mem_cons_of_mem _ hx)) p2 r2)
      simp only [keyD]
      exact .tup ho hc hd (by simpa using k ds xs its h h2 rv)
    | _ => exact h.elim
/-- len(set(e)), e a list of nested tuples -/
def tLenSetD (K : PySem.W.Frag) (ta : TE) : TE := fun σ H Q => ta σ H fun x H1 => ∃ (ds : List PyData), Dp K H1 x (.list ds) ∧ (∀ d ∈ ds, ∃ es, d = .tuple es ∧ Nst 8 d) ∧ ((ds.map keyD).Nodup ∧ ds.length ≤ 200 ∨ ds.length ≤ 60) ∧ Q (.int (ddp (ds.map keyD)).length) H1
theorem refs_at {K : PySem.W.Frag} {H : Hp} : ∀ {vs : List V} {ds : List PyData}, DpAll K H vs ds → (∀ d ∈ ds, ∃ es, d = .tuple es ∧ Nst 8 d) → ∃ as : List (Addr × PyData), vs = as.map (fun p => V.ref p.1) ∧ ds = as.map Prod.snd ∧ ∀ p ∈ as, Dp K H (.ref p.1) p.2
  | _, [], h, _ => by
    cases h
    exact ⟨[], rfl, rfl, fun p hp => by cases hp⟩
  | _, d :: ds, h, hd => by
    cases h with
    | cons p1 p2 =>
      obtain ⟨es, rfl, _⟩ := hd d List.mem_cons_self
      obtain ⟨a, xs, rfl, h1, h2⟩ := dp_tup p1
      obtain ⟨as, rfl, rfl, h3⟩ := refs_at p2 fun x hx => hd x (List.mem_cons_of_mem _ hx)
      exact ⟨(a, .tuple es) :: as, rfl, rfl, fun p hp => by
        rcases List.mem_cons.mp hp with rfl | hp
        · exact p1
        · exact h3 p hp⟩
theorem refs_vals : ∀ {as : List (Addr × PyData)} {us : List Value}, Vals (as.map fun p => V.ref p.1) us → us = as.map fun p => Value.ref p.1
  | [], _, .nil => rfl
  | p :: as, _, .cons r t => by
    cases r
    rw [refs_vals t]
    rfl
theorem pe_lenSetD {a : Expr} {ta : TE} {p p2 q pos : Pos} (hc : X.calm = true) (hu : X.A.units + 64 < cLine) (hg : Gl X "len") (hm : X.mg "len" = none) (hg2 : Gl X "set") (hm2 : X.mg "set" = none) (ha : PE X a ta)
    (na : starEach [a] X.env = (false, eval a X.env) :: starEach [] X.env := by rfl) : PE X (.Call (.Name "len" p) [.Call (.Name "set" p2) [a] [] q] [] pos) (tLenSetD X.K ta) := by
  refine ⟨fun pins s σ H Q I h => ?_⟩
  refine Call_ (ld_blt I hg hm PySem.boot_len ?_)
  refine PyProof.Rows.callWith_builtin1 (PyProof.Rows.args_cons ?_ rfl) rfl rfl
  refine Call_ (ld_blt I hg2 hm2 PyProof.Rows.boot_set ?_)
  refine PyProof.Rows.callWith_type1 (PyProof.Rows.args_cons (thn (ha.run pins s σ H _ I h) fun v s1 ⟨x, H1, I1, r1, ds, pd, hd, hf, q1⟩ => PyProof.Rows.args_nil ?_) na) na rfl
  obtain ⟨l, xs, rfl, hq, hx⟩ := dp_lst pd
  cases r1
  obtain ⟨as, rfl, rfl, has⟩ := refs_at hx hd
  obtain ⟨its, r, pl, hz⟩ := I1.list hq
  have ei := refs_vals r
  let ks : NL := as.map fun p => (p.1, keyD p.2)
  have ek : ks.map Prod.snd = (as.map Prod.snd).map keyD := by
    show (as.map fun p => (p.1, keyD p.2)).map Prod.snd = _
    rw [List.map_map, List.map_map]
    rfl
  have ekl : ks.length = (as.map Prod.snd).length := by
    show (as.map fun p => (p.1, keyD p.2)).length = _
    rw [List.length_map, List.length_map]
  have hF : Fine ks := by
    rcases hf with ⟨h1, h2⟩ | h1
    · exact .inl ⟨by rw [ek]; exact h1, by rw [ekl]; exact h2⟩
    · exact .inr (by rw [ekl]; exact h1)
  refine call_set_N (P := X.prog) (w := X.w) ks (I1.ok.hd hc) pl.isList (by rw [ei]; show (as.map _) = (as.map fun p => (p.1, keyD p.2)).map _; rw [List.map_map]; rfl) (fun p hp => ?_) hF (by omega) fun h' tk L es ep t R g hk => ?_
  · obtain ⟨z, hz, rfl⟩ := List.mem_map.mp hp
    obtain ⟨_, _, hn⟩ := hd z.2 (List.mem_map.mpr ⟨z, hz, rfl⟩)
    exact ⟨nest_of I1 8 z.2 _ _ hn (has z hz) rfl, (nst_depth 8 _ hn).1, (nst_depth 8 _ hn).2⟩
  refine PyProof.Rows.args_nil ?_
  have R : SetN X.w ({ s1 with heap := h', toks := tk } : Shared).heap s1.heap.objs.size L es ep t := R
  obtain ⟨o, ho, hex, hdat⟩ := R.ob
  have I2 : Inv X pins σ H1 { s1 with heap := h', toks := tk } := I1.kept fun b o e => hk b o e
  have hlen : L.length = (ddp ((as.map Prod.snd).map keyD)).length := by
    rw [← ek, ← List.length_map (as := L) Prod.snd]
    refine ddp_len R.nd fun x => ⟨fun hx => ?_, fun hx => ?_⟩
    · obtain ⟨p, hp, rfl⟩ := List.mem_map.mp hx
      exact List.mem_map.mpr ⟨p, List.mem_of_mem_take (g.sub p hp), rfl⟩
    · obtain ⟨p, hp, rfl⟩ := List.mem_map.mp hx
      exact g.all p (by rw [List.take_length]; exact hp)
  refine call_len_set ho hex hdat R.fits (by have := R.num; have := R.few; omega) ⟨.int (ddp ((as.map Prod.snd).map keyD)).length, H1, I2.tok _, ⟨_, by rw [R.num, hlen]⟩, q1⟩
/-- len(set(e)), e a list of ints -/
def tLenSetZ (K : PySem.W.Frag) (ta : TE) : TE := fun σ H Q => ta σ H fun x H1 => ∃ (ns : List Int), Dp K H1 x (.list (ns.map PyData.int)) ∧ ns.length ≤ 60 ∧ Q (.int (ddp ns).length) H1
theorem fold_nodup : ∀ (l σ : List Int), σ.Nodup → (l.foldl step_dedup σ).Nodup ∧ ∀ x, x ∈ l.foldl step_dedup σ ↔ x ∈ σ ∨ x ∈ l
  | [], σ, h => ⟨h, fun x => ⟨.inl, fun z => z.elim id fun y => absurd y List.not_mem_nil⟩⟩
  | k :: l, σ, h => by
    have hs : (step_dedup σ k).Nodup ∧ ∀ x, x ∈ step_dedup σ k ↔ x ∈ σ ∨ x = k := by
      unfold step_dedup
      by_cases c : (σ.any (· == k)) = true
      · rw [if_pos c]
        obtain ⟨y, hy, e⟩ := List.any_eq_true.mp c
        have e := beq_iff_eq.mp e
        subst e
        exact ⟨h, fun x => ⟨.inl, fun z => z.elim id fun e => e ▸ hy⟩⟩
      · rw [if_neg c]
        refine ⟨?_, fun x => by rw [List.mem_append, List.mem_singleton]⟩
        rw [List.nodup_append]
        refine ⟨h, by simp, fun a ha b hb e => c ?_⟩
        rw [List.mem_singleton] at hb
        exact List.any_eq_true.mpr ⟨a, ha, beq_iff_eq.mpr (e.trans hb)⟩
    obtain ⟨h1, h2⟩ := fold_nodup l _ hs.1
    refine ⟨h1, fun x => (h2 x).trans ?_⟩
    rw [hs.2, List.mem_cons, or_assoc]
theorem met_len (ns : List Int) : (firstMet (fun i => ns.getD i 0) ns.length).length = (ddp ns).length := by
  unfold firstMet
  rw [range_getD]
  obtain ⟨h1, h2⟩ := fold_nodup ns [] List.nodup_nil
  exact ddp_len h1 fun x => (h2 x).trans ⟨fun z => z.elim (fun y => absurd y List.not_mem_nil) id, .inr⟩
theorem ints_vals : ∀ {ns : List Int} {us : List Value}, Vals (ns.map V.int) us → IntsAre us ns
  | [], _, .nil => .nil
  | n :: ns, _, .cons r t => by
    obtain ⟨tk, rfl⟩ := r
    exact .cons n tk (ints_vals t)
theorem pe_lenSetZ {a : Expr} {ta : TE} {p p2 q pos : Pos} (hc : X.calm = true) (hg : Gl X "len") (hm : X.mg "len" = none) (hg2 : Gl X "set") (hm2 : X.mg "set" = none) (ha : PE X a ta)
    (na : starEach [a] X.env = (false, eval a X.env) :: starEach [] X.env := by rfl) : PE X (.Call (.Name "len" p) [.Call (.Name "set" p2) [a] [] q] [] pos) (tLenSetZ X.K ta) := by
  refine ⟨fun pins s σ H Q I h => ?_⟩
  refine Call_ (ld_blt I hg hm PySem.boot_len ?_)
  refine PyProof.Rows.callWith_builtin1 (PyProof.Rows.args_cons ?_ rfl) rfl rfl
  refine Call_ (ld_blt I hg2 hm2 PyProof.Rows.boot_set ?_)
  refine PyProof.Rows.callWith_type1 (PyProof.Rows.args_cons (thn (ha.run pins s σ H _ I h) fun v s1 ⟨x, H1, I1, r1, ns, pd, hn, q1⟩ => PyProof.Rows.args_nil ?_) na) na rfl
  obtain ⟨l, xs, rfl, hq, hx⟩ := dp_lst pd
  cases r1
  have e := dpA_ints hx
  subst e
  obtain ⟨its, r, pl, hz⟩ := I1.list hq
  have hl : its.toArray.size = ns.length := by rw [List.size_toArray, ← r.length, List.length_map]
  refine call_set_list (I1.ok.hd hc) pl.isList (ns := ns) (by simpa using ints_vals r) (by unfold scanBound; omega) fun h' tk hS hk => ?_
  rw [hl] at hS
  refine PyProof.Rows.args_nil ?_
  obtain ⟨o, es, ep, t, ho, hex, hd, _, _, _, hf, hs⟩ := hS
  have I2 : Inv X pins σ H1 { s1 with heap := h', toks := tk } := I1.kept fun b o e => hk b o (Heap.lt_size e) e
  have hml : es.size = (ddp ns).length := by rw [hs, met_len]
  have hle : es.size ≤ ns.length := by rw [hs]; exact firstMet_length_le _ _
  exact call_len_set ho hex hd hf (by omega) ⟨.int (ddp ns).length, H1, I2.tok _, ⟨_, by rw [hml]⟩, q1⟩
end
section
variable {K : PySem.W.Frag} {ρ : Ro} {te : TE} {ds : List PyData}
theorem ed_lenSetD (h : Ed K te ρ (.list ds)) (hd : ∀ d ∈ ds, ∃ es, d = .tuple es ∧ Nst 8 d) (hf : (ds.map keyD).Nodup ∧ ds.length ≤ 200 ∨ ds.length ≤ 60) : Ed K (tLenSetD K te) ρ (.int (ddp (ds.map keyD)).length) := fun σ D H0 H s sl Q q =>
  h σ D H0 H s sl _ fun v D1 H1 t1 p1 => ⟨ds, dpX t1.s p1, hd, hf, q _ D1 H1 t1 (.int _)⟩
theorem ed_lenSetZ {ns : List Int} (h : Ed K te ρ (.list (ns.map PyData.int))) (hn : ns.length ≤ 60) : Ed K (tLenSetZ K te) ρ (.int (ddp ns).length) := fun σ D H0 H s sl Q q =>
  h σ D H0 H s sl _ fun v D1 H1 t1 p1 => ⟨ns, dpX t1.s p1, hn, q _ D1 H1 t1 (.int _)⟩
end
end K19

/-! TEXT K19G2 -/
set_option Elab.async false
set_option linter.all false
set_option maxRecDepth 100000
set_option maxHeartbeats 4000000
set_option autoImplicit false
/-! DEFS THAT SHOW, 2: their promise, their calls. -/
namespace K19
open PySem PySem.Spec PyProof.Rows L2
open Evl (Ex)
/-- a def that is called where no repr is under way -/
structure FnG (P : Program) (w : World) (K : PySem.W.Frag) (mg : Str → Option Value) (base : Heap) (k : Nat) (f : Addr) (fd : FuncData) (ps : List Str) (sp : Sp) : Prop where
  ln : ∀ zs H Q E, sp zs H Q E → zs.length = ps.length
  go : ∀ (B : Around) (out : List Env) (t : Shared) (H : Hp) (ar : Args) (ys : List Value) (zs : List V) (Q : VK) (E : XK), B.guards = some [] → Room k B → Env0 P w K mg base B out t H → BindsTo t fd ar (ps.zip ys) → Vals zs ys → sp zs H Q E →
    codeAny (model P w) B (.call (.ref f) ar) (CR CX0 out P w H t Q E) t
section
variable {P : Program} {w : World} {K : PySem.W.Frag} {mg : Str → Option Value} {base : Heap} {k : Nat} {f : Addr} {ps : List Str} {sp : Sp}
theorem FnG.mono {fd : FuncData} {j : Nat} (F : FnG P w K mg base j f fd ps sp) (h : j ≤ k) : FnG P w K mg base k f fd ps sp :=
  ⟨F.ln, fun B out t H ar ys zs Q E g hr => F.go B out t H ar ys zs Q E g (hr.mono h)⟩
theorem fnG_of {name qual : Str} {params : Arguments} {body : List Stmt} {scope : Scope} {dV kV doc pm cdv ct oc : Value} {an od : Option Addr} {osl : Array (Option Value)} {N : List Str}
    (lk : K.lookup f = some ⟨oc, od, .func (PySem.W.fnOf name qual params body scope dV kV doc pm an cdv ct), osl⟩) (hc : PySem.W.codeIn K cdv qual = true) (S : FnScope N ps scope) (ln : ∀ zs H Q E, sp zs H Q E → zs.length = ps.length)
    (hb : ∀ (B : Around) (out : List Env) (t : Shared) (H : Hp) (zs : List V) (Q : VK) (E : XK), B.guards = some [] → Room k (B.deeper (envOfC qual scope t.heap.objs.size f cdv)) → sp zs H Q E →
      ∃ ts, PSs (cxOf CX0 P w K mg base N qual scope f cdv B out t H E) body ts ∧ ts { nx := fun _ H' => Q .non H', rt := Q } (L2.start N zs) H) :
    FnG P w K mg base (k + 1) f (PySem.W.fnOf name qual params body scope dV kV doc pm an cdv ct) ps sp := by
  refine ⟨ln, fun B out t H ar ys zs Q E g hr e0 bt rv hs => ?_⟩
  have l0 := ln zs H Q E hs
  have kin : K.In t.heap := e0.mod.kin.keeps fun b o z => (e0.bs b o z).1
  have free : t.heap.NoLimit := e0.mod.nolimit.keeps fun b o z => (e0.bs b o z).1
  have sort : ∀ y ∈ ps.zip ys, scope.names.lookup y.1 = some .local ∨ (scope.names.lookup y.1 = some .cell ∧ ((cellsFrom (t.heap.objs.size + 1) scope.names []).lookup y.1).isSome = true) := by
    rintro ⟨n, v⟩ hy
    exact (S.par n (List.of_mem_zip hy).1).imp id fun z => ⟨z, PySem.W.cellsFrom_some _ _ _ (.inl z)⟩
  apply codeAny_call_function hr.depth (kin _ _ lk) rfl S.co S.gen rfl (PySem.W.codeRec_of kin hc)
  apply bt
  apply wpAny_newFunctionEnv_cells S.kind sort
  intro en he t1 x
  subst he
  refine ⟨free.keeps x.toInCall.keep, ?_⟩
  apply codeAny_func
  obtain ⟨ts, p1, p2⟩ := hb B out t H zs Q E g (hr.deeper _) hs
  have I0 : Inv (cxOf CX0 P w K mg base N qual scope f cdv B out t H E) [] (L2.start N zs) H t1 := inv_start S hr.hd e0 l0 rv x
  refine wpAny_mono (p1.run [] t1 _ H _ I0 p2) (fun fl t2 z => ?_) fun e t2 z => z
  cases fl with
  | ret u =>
    obtain ⟨v, σ', H', J, r1, q1⟩ := z
    exact ⟨v, H', J.os, J.bare, J.base, J.hok, r1, q1⟩
  | next =>
    obtain ⟨σ', H', J, q1⟩ := z
    exact ⟨V.non, H', J.os, J.bare, J.base, J.hok, rfl, q1⟩
  | brk =>
    obtain ⟨_, _, _, q1⟩ := z
    exact q1.elim
  | cont =>
    obtain ⟨_, _, _, q1⟩ := z
    exact q1.elim
/-- the like of Has -/
structure HasG (P : Program) (w : World) (K : PySem.W.Frag) (mg : Str → Option Value) (base : Heap) (k : Nat) (x : Str) (ps : List Str) (sp : Sp) : Prop where
  ex : ∃ f fd, mg x = some (.ref f) ∧ PySem.W.keepIn K (.ref f) = true ∧ Binds K fd ps [] ∧ FnG P w K mg base k f fd ps sp
theorem pe_callG {X : Cx} {k j : Nat} {x : Str} {p pos : Pos} {e : Expr} {es : List Expr} {t : TA} (h : HasG X.prog X.w X.K X.mg X.base k x ps sp) (g : X.A.guards = some []) (hr : Room j X.A) (hj : k ≤ j) (hg : Gl X x) (ha : PA X (e :: es) t)
    (hdb : (x == ("__debug__" : Str)) = false := by decide) (he : starEach (e :: es) X.env = (false, eval e X.env) :: starEach es X.env := by rfl) (hpl : (backTo pos (starEach es X.env)).any (·.1) = false := by rfl) :
    PE X (.Call (.Name x p) (e :: es) [] pos) (tCall sp [] E0 t) := by
  obtain ⟨f, fd, h1, h2, h3, F⟩ := h.ex
  refine ⟨fun pins s σ H Q I q => wpAny_Call_Name_kw (ld_glob I hg h1 ?_ hdb)⟩
  refine PySem.W.callWith_K (h₀ := X.base) I.ok.mod.kin h2 (thn (ha.run pos pins s σ H _ I q) fun us t1 ⟨zs, H1, I1, rv, hs⟩ => ⟨I1.kIn, ?_⟩) he hpl
  have hs : sp (zs ++ []) H1 Q E0 := hs
  rw [List.append_nil] at hs
  have l0 := F.ln _ _ _ _ hs
  have b0 := h3 t1 us I1.kIn (by rw [List.append_nil, ← rv.length]; exact l0)
  rw [List.append_nil] at b0
  refine wpAny_call (codeAny_mono (F.go X.A X.stack t1 H1 ⟨us, []⟩ us zs Q E0 g (hr.mono hj) I1.env0 b0 rv hs) fun r t2 z => ?_)
  cases r with
  | error er => exact z.elim
  | ok fl =>
    cases fl with
    | ret u => exact I1.after z
    | next => exact z.elim
    | brk => exact z.elim
    | cont => exact z.elim
theorem hasG_of {x : Str} {params : Arguments} {body : List Stmt} {scope : Scope} {fd : FuncData} {N : List Str} (g : mg x = some (.ref f)) (F : FunD K x x params body scope [] [] f fd) (S : FnScope N ps scope)
    (hb : ∀ (kV doc pm : Value) (an : Option Addr) (cdv ct : Value) (us : List Value), us.length = ps.length → bindArgs (PySem.W.fnOf x x params body scope .none kV doc pm an cdv ct) ⟨us, []⟩ = pure (ps.zip us)) (ln : ∀ zs H Q E, sp zs H Q E → zs.length = ps.length)
    (hbody : ∀ (cdv : Value) (A : Around) (outer : List Env) (s : Shared) (H : Hp) (zs : List V) (Q : VK) (E : XK), (A.deeper (envOfC x scope s.heap.objs.size f cdv)).guards = some [] → Room k (A.deeper (envOfC x scope s.heap.objs.size f cdv)) → sp zs H Q E →
      ∃ ts, PSs (cxOf CX0 P w K mg base N x scope f cdv A outer s H E).nox body ts ∧ ts { nx := fun _ H' => Q .non H', rt := Q } (L2.start N zs) H) : HasG P w K mg base (k + 1) x ps sp := by
  refine ⟨f, fd, g, F.kp, F.bindsN hb, ?_⟩
  obtain ⟨oc, od, dV, kV, doc, pm, an, cdv, ct, osl, rfl, lk, hc, _, _⟩ := F.ex
  exact fnG_of lk hc S ln fun B out t H zs Q E g hr hs => by
    obtain ⟨ts, p1, p2⟩ := hbody cdv B out t H zs Q E g hr hs
    exact ⟨ts, p1.nox, p2⟩
/-- of data alone -/
theorem hasG_ofR {x : Str} {params : Arguments} {body : List Stmt} {scope : Scope} {fd : FuncData} {N : List Str} {R : List PyData → PyData → Prop} (g : mg x = some (.ref f)) (F : FunD K x x params body scope [] [] f fd) (S : FnScope N ps scope)
    (hb : ∀ (kV doc pm : Value) (an : Option Addr) (cdv ct : Value) (us : List Value), us.length = ps.length → bindArgs (PySem.W.fnOf x x params body scope .none kV doc pm an cdv ct) ⟨us, []⟩ = pure (ps.zip us)) (hl : ∀ ds d, R ds d → ds.length = ps.length)
    (hbody : ∀ (cdv : Value) (A : Around) (outer : List Env) (s : Shared) (H : Hp) (E : XK), (A.deeper (envOfC x scope s.heap.objs.size f cdv)).guards = some [] → Room k (A.deeper (envOfC x scope s.heap.objs.size f cdv)) → ∀ ds d, R ds d →
      ∃ ts, PSs (cxOf CX0 P w K mg base N x scope f cdv A outer s H E).nox body ts ∧ Run K ts (startR N ds) (.rt d)) : HasG P w K mg base (k + 1) x ps (spR K R) := by
  refine hasG_of g F S hb (fun zs H Q E h => ?_) fun cdv A outer s H zs Q E gg hr h => ?_
  · obtain ⟨ds, d, D, h1, _, h3, _⟩ := h
    rw [dpA_len h3]
    exact hl ds d h1
  · obtain ⟨ds, d, D, h1, h2, h3, h4⟩ := h
    obtain ⟨ts, p1, p2⟩ := hbody cdv A outer s H E gg hr ds d h1
    exact ⟨ts, p1, p2 (L2.start N zs) H D H _ (Stp.rfl' h2) (sl_start h3) h4⟩
/-- whether what is shown is alike: of what is alike -/
inductive R_law_same : List PyData → PyData → Prop
  | mk (d : PyData) (h : Say d) : R_law_same [d, d] (.bool true)
abbrev N_law_same : List Str := ["_law_told_here", "_law_due"]
theorem sc_law_same : FnScope N_law_same ["_law_told_here", "_law_due"] (defScope s_law_same) := ⟨rfl, rfl, rfl, by decide +kernel, rfl, by decide +kernel, by decide +kernel⟩
theorem ok_law_same (T : Top K mg) : HasG P w K mg base 1 "_law_same" ["_law_told_here", "_law_due"] (spR K R_law_same) := by
  obtain ⟨f, fd, g, Fd⟩ := T.def_ 85 d_law_same rfl
  have nd := sc_law_same.nd
  refine hasG_ofR g Fd sc_law_same (fun _ _ _ _ _ _ us hl => match us, hl with | [_, _], _ => rfl) (fun _ _ h => by cases h <;> rfl) fun cdv A outer s H E hG hr ds d h => ?_
  refine ⟨_, (pss_one (ps_ret (pe_cmpR op_eq (pe_callB (cr_repr hG hr.units) rfl (T.free 10 _ rfl) (by decide +kernel) (pa_cons (pv 0) pa_nil)) (pe_callB (cr_repr hG hr.units) rfl (T.free 10 _ rfl) (by decide +kernel) (pa_cons (pv 1) pa_nil)) (nomark _)))), ?_⟩
  cases h with
  | mk d h =>
  refine run_last (run_ret (ed_to (ed_op (ed_cb (ea_cons (ed_var rfl) ea_nil) (rc_repr h)) (ed_cb (ea_cons (ed_var rfl) ea_nil) (rc_repr h)) rd_eqS) (congrArg PyData.bool (decide_eq_true rfl))))
end
end K19

/-! TEXT K19K -/
set_option Elab.async false
set_option linter.all false
set_option maxRecDepth 100000
set_option maxHeartbeats 4000000
set_option autoImplicit false
/-! THE DECK: a dict and its list that change under all that the defs do, and draws: of an expression any of some data may come. -/
namespace K19
open PySem PySem.Spec PyProof.Rows L2
open Evl (Ex)
/-- the heap without the deck -/
def cut (p l : Addr) (H : Hp) : Hp := fun a => if a = p ∨ a = l then none else H a
structure Dk (p l : Addr) (H : Hp) : Prop where
  ne : p ≠ l
  dic : ∃ m n : Int, H p = some (.dK [(.inr "left", .ref l), (.inr "mixed", .int m), (.inr "draws", .int n)])
  lst : ∃ ns : List Int, ns.length ≤ 63 ∧ H l = some (.lst (ns.map V.int))
section
variable {p l : Addr} {D D' H H' H0 : Hp}
theorem cut_p : cut p l H p = none := if_pos (.inl rfl)
theorem cut_l : cut p l H l = none := if_pos (.inr rfl)
theorem cut_ne {a : Addr} (h1 : a ≠ p) (h2 : a ≠ l) : cut p l H a = H a := if_neg fun z => z.elim h1 h2
theorem cut_some {a : Addr} {u : HO} (h : cut p l H a = some u) : a ≠ p ∧ a ≠ l ∧ H a = some u := by
  by_cases c : a = p ∨ a = l
  · rw [cut, if_pos c] at h
    cases h
  · rw [cut, if_neg c] at h
    exact ⟨fun z => c (.inl z), fun z => c (.inr z), h⟩
theorem cut_ex : Ex (cut p l H) H := fun a u h => (cut_some h).2.2
theorem of_cut {a : Addr} (h1 : D a = none → True) (e : Ex D (cut p l H)) : D p = none ∧ D l = none := ⟨Evl.fresh_back e cut_p, Evl.fresh_back e cut_l⟩
theorem dk_none (e : Ex D (cut p l H)) : D p = none ∧ D l = none := ⟨Evl.fresh_back e cut_p, Evl.fresh_back e cut_l⟩
/-- a step that knows nothing of the deck -/
theorem Stp.cut (k : Dk p l H) (e : Ex D (cut p l H)) (t : Stp D H D' H') : Dk p l H' ∧ Stp D (cut p l H) D' (cut p l H') := by
  obtain ⟨hne, ⟨m, n, hd⟩, ns, hz, hl⟩ := k
  obtain ⟨n1, n2⟩ := dk_none e
  have m1 := t.n p _ hd (fun _ z => nomatch z) n1
  have m2 := t.n l _ hl (fun _ z => nomatch z) n2
  refine ⟨⟨hne, ⟨m, n, t.h _ _ hd⟩, ns, hz, t.h _ _ hl⟩, t.d, fun a u z => ?_, fun a u z => ?_, fun a u z => ?_⟩
  · obtain ⟨a1, a2, a3⟩ := cut_some z
    rw [cut_ne a1 a2]
    exact t.h a u a3
  · have a1 : a ≠ p := ne_of_none z m1
    have a2 : a ≠ l := ne_of_none z m2
    rw [cut_ne a1 a2]
    exact t.s a u z
  · obtain ⟨a1, a2, a3⟩ := cut_some z
    exact t.n a u a3
theorem ex_cut (e : Ex D (cut p l H)) : Ex D H := e.trans cut_ex
end
section
variable {K : PySem.W.Frag} {σ : L2.St} {D D' H H' H0 : Hp} {p l : Addr} {ρ ρ' : Ro} {i : Nat}
theorem Sl.of_cut (h : Sl K σ D H0 (cut p l H) ρ) : Sl K σ D H0 H ρ := ⟨h.len, h.at_, fun j a o z => by
  obtain ⟨h1, h2, h3, u, h4, h5⟩ := h.own j a o z
  exact ⟨h1, h2, h3, u, cut_ex _ _ h4, h5⟩, h.sep⟩
/-- any of some data -/
abbrev Sx := PyData → Prop
def EdK (i : Nat) (K : PySem.W.Frag) (te : TE) (ρ : Ro) (S : Sx) : Prop := ∀ (σ : L2.St) (p l : Addr) (D H0 H : Hp), σ[i]? = some (some (.ref p)) → Dk p l H → Ex D (cut p l H) → Sl K σ D H0 (cut p l H) ρ →
  ∀ Q : VK, (∀ d v D' H', S d → Dk p l H' → Stp D (cut p l H) D' (cut p l H') → Dp K D' v d → Q v H') → te σ H Q
def EaK (i : Nat) (K : PySem.W.Frag) (ta : TA) (ρ : Ro) (S : List PyData → Prop) : Prop := ∀ (σ : L2.St) (p l : Addr) (D H0 H : Hp), σ[i]? = some (some (.ref p)) → Dk p l H → Ex D (cut p l H) → Sl K σ D H0 (cut p l H) ρ →
  ∀ Q : List V → Hp → Prop, (∀ ds vs D' H', S ds → Dk p l H' → Stp D (cut p l H) D' (cut p l H') → DpAll K D' vs ds → Q vs H') → ta σ H Q
def EtK (i : Nat) (K : PySem.W.Frag) (tt : TT) (ρ : Ro) (B : Bool → Prop) : Prop := ∀ (σ : L2.St) (p l : Addr) (D H0 H : Hp), σ[i]? = some (some (.ref p)) → Dk p l H → Ex D (cut p l H) → Sl K σ D H0 (cut p l H) ρ →
  ∀ Q : Bool → Hp → Prop, (∀ b D' H', B b → Dk p l H' → Stp D (cut p l H) D' (cut p l H') → Q b H') → tt σ H Q
variable {S S1 S2 : Sx} {ta tb te : TE} {tt : TT} {t : TA} {d : PyData} {L L1 : List PyData → Prop} {B : Bool → Prop}
theorem ek_of (h : Ed K te ρ d) : EdK i K te ρ (fun x => x = d) := fun σ p l D H0 H g k e sl Q q => h σ D H0 H (ex_cut e) sl.of_cut Q fun v D' H' t1 p1 => by
  obtain ⟨k1, t2⟩ := t1.cut k e
  exact q d v D' H' rfl k1 t2 p1
theorem ek_one (h : Ed K te ρ d) (hS : S d) : EdK i K te ρ S := fun σ p l D H0 H g k e sl Q q => ek_of h σ p l D H0 H g k e sl Q fun d' v D' H' z => by
  subst z
  exact q _ v D' H' hS
theorem et_of {b : Bool} (h : EdT K tt ρ b) : EtK i K tt ρ (fun x => x = b) := fun σ p l D H0 H g k e sl Q q => h σ D H0 H (ex_cut e) sl.of_cut Q fun D' H' t1 => by
  obtain ⟨k1, t2⟩ := t1.cut k e
  exact q b D' H' rfl k1 t2
theorem ak_of {ds : List PyData} (h : EdA K t ρ ds) : EaK i K t ρ (fun x => x = ds) := fun σ p l D H0 H g k e sl Q q => h σ D H0 H (ex_cut e) sl.of_cut Q fun vs D' H' t1 p1 => by
  obtain ⟨k1, t2⟩ := t1.cut k e
  exact q ds vs D' H' rfl k1 t2 p1
theorem EdK.to (h : EdK i K te ρ S) (m : ∀ d, S d → S1 d) : EdK i K te ρ S1 := fun σ p l D H0 H g k e sl Q q => h σ p l D H0 H g k e sl Q fun d v D' H' s => q d v D' H' (m d s)
theorem EaK.to (h : EaK i K t ρ L) (m : ∀ d, L d → L1 d) : EaK i K t ρ L1 := fun σ p l D H0 H g k e sl Q q => h σ p l D H0 H g k e sl Q fun d v D' H' s => q d v D' H' (m d s)
theorem ek_op {r : R2} (h1 : EdK i K ta ρ S1) (h2 : EdK i K tb ρ S2) (hr : ∀ x y, S1 x → S2 y → ∃ z, Rd K r x y z ∧ S z) : EdK i K (tOp r ta tb) ρ S := fun σ p l D H0 H g k e sl Q q =>
  h1 σ p l D H0 H g k e sl _ fun x v D1 H1 s1 k1 t1 p1 => h2 σ p l D1 H0 H1 g k1 t1.s (sl.mono t1) _ fun y w D2 H2 s2 k2 t2 p2 => by
    obtain ⟨z, r1, s3⟩ := hr x y s1 s2
    refine r1 v w D2 H2 (ex_cut t2.s) (dpX t2.d p1) p2 Q fun o D3 H3 t3 p3 => ?_
    obtain ⟨k3, t4⟩ := t3.cut k2 t2.s
    exact q z o D3 H3 s3 k3 ((t1.tr t2).tr t4) p3
theorem ak_nil : EaK i K tNil ρ (fun x => x = []) := ak_of ea_nil
theorem ak_cons (h1 : EdK i K te ρ S) (h2 : EaK i K t ρ L) : EaK i K (tCons te t) ρ (fun x => ∃ d ds, x = d :: ds ∧ S d ∧ L ds) := fun σ p l D H0 H g k e sl Q q =>
  h1 σ p l D H0 H g k e sl _ fun x v D1 H1 s1 k1 t1 p1 => h2 σ p l D1 H0 H1 g k1 t1.s (sl.mono t1) _ fun ds vs D2 H2 s2 k2 t2 p2 => q (x :: ds) (v :: vs) D2 H2 ⟨x, ds, rfl, s1, s2⟩ k2 (t1.tr t2) (.cons (dpX t2.d p1) p2)
theorem ak1 (h1 : EdK i K te ρ S) : EaK i K (tCons te tNil) ρ (fun x => ∃ d, x = [d] ∧ S d) := (ak_cons h1 ak_nil).to fun _ ⟨d, _, h1, h2, h3⟩ => ⟨d, by rw [h1, h3], h2⟩
theorem ak2 (h1 : EdK i K ta ρ S1) (h2 : EdK i K tb ρ S2) : EaK i K (tCons ta (tCons tb tNil)) ρ (fun x => ∃ a b, x = [a, b] ∧ S1 a ∧ S2 b) := (ak_cons h1 (ak1 h2)).to fun _ ⟨a, _, h1, h2, b, h3, h4⟩ => ⟨a, b, by rw [h1, h3], h2, h4⟩
theorem ek_cb {r : List V → Hp → VK → Prop} (h : EaK i K t ρ L) (hr : ∀ ds, L ds → ∃ d, RdC K r ds d ∧ S d) : EdK i K (tCB r t) ρ S := fun σ p l D H0 H g k e sl Q q =>
  h σ p l D H0 H g k e sl _ fun ds vs D1 H1 s1 k1 t1 p1 => by
    obtain ⟨d, r1, s2⟩ := hr ds s1
    refine r1 vs D1 H1 (ex_cut t1.s) p1 Q fun o D3 H3 t3 p3 => ?_
    obtain ⟨k3, t4⟩ := t3.cut k1 t1.s
    exact q d o D3 H3 s2 k3 (t1.tr t4) p3
/-- a new object, away from the deck -/
theorem dk_new (k : Dk p l H) {a : Addr} {u : HO} (n : H a = none) : Dk p l (upd H a u) ∧ cut p l (upd H a u) = upd (cut p l H) a u ∧ cut p l H a = none := by
  obtain ⟨hne, ⟨x, y, hd⟩, ns, hz, hl⟩ := k
  have a1 : a ≠ p := fun z => by rw [z, hd] at n; cases n
  have a2 : a ≠ l := fun z => by rw [z, hl] at n; cases n
  refine ⟨⟨hne, ⟨x, y, by rw [upd_ne (Ne.symm a1)]; exact hd⟩, ns, hz, by rw [upd_ne (Ne.symm a2)]; exact hl⟩, funext fun b => ?_, by rw [cut_ne a1 a2]; exact n⟩
  by_cases c : b = a
  · rw [c, cut_ne a1 a2, upd_same, upd_same]
  · by_cases d : b = p ∨ b = l
    · rw [upd_ne c]
      show (if b = p ∨ b = l then none else _) = if b = p ∨ b = l then none else _
      rw [if_pos d, if_pos d]
    · rw [upd_ne c]
      show (if b = p ∨ b = l then none else upd H a u b) = if b = p ∨ b = l then none else H b
      rw [if_neg d, if_neg d, upd_ne c]
theorem ek_tup (h : EaK i K t ρ L) (hl : ∀ ds, L ds → ds.length ≤ 100000) : EdK i K (tTup t) ρ (fun d => ∃ ds, L ds ∧ d = .tuple ds) := fun σ p l D H0 H g k e sl Q q =>
  h σ p l D H0 H g k e sl _ fun ds vs D1 H1 s1 k1 t1 p1 => ⟨sz100 (by rw [dpA_len p1]; exact hl ds s1), fun a ha => by
    obtain ⟨k2, e2, n2⟩ := dk_new (u := .tup vs) k1 ha
    refine q _ (.ref a) (upd D1 a (.tup vs)) _ ⟨ds, s1, rfl⟩ k2 ?_ (.tup (SqT.of upd_same) (dpA (Ex.new (Evl.fresh_back t1.s n2)) p1))
    rw [e2]
    exact t1.tr (Stp.new t1.s n2)⟩
theorem ek_lst (h : EaK i K t ρ L) (hl : ∀ ds, L ds → ds.length ≤ 100000) : EdK i K (tLst t) ρ (fun d => ∃ ds, L ds ∧ d = .list ds) := fun σ p l D H0 H g k e sl Q q =>
  h σ p l D H0 H g k e sl _ fun ds vs D1 H1 s1 k1 t1 p1 => ⟨sz100 (by rw [dpA_len p1]; exact hl ds s1), fun a ha => by
    obtain ⟨k2, e2, n2⟩ := dk_new (u := .lst vs) k1 ha
    refine q _ (.ref a) (upd D1 a (.lst vs)) _ ⟨ds, s1, rfl⟩ k2 ?_ (.lst (SqL.of upd_same) (dpA (Ex.new (Evl.fresh_back t1.s n2)) p1))
    rw [e2]
    exact t1.tr (Stp.new t1.s n2)⟩
theorem ek_call {R : List PyData → PyData → Prop} {E : XK} (h : EaK i K t ρ L) (hR : ∀ ds, L ds → ∃ d, R ds d ∧ S d) : EdK i K (tCall (spR K R) [] E t) ρ S := fun σ p l D H0 H g k e sl Q q =>
  h σ p l D H0 H g k e sl _ fun ds vs D1 H1 s1 k1 t1 p1 => by
    obtain ⟨d, r1, s2⟩ := hR ds s1
    refine ⟨ds, d, D1, r1, ex_cut t1.s, by rw [List.append_nil]; exact p1, fun o D3 H3 t3 p3 => ?_⟩
    obtain ⟨k3, t4⟩ := t3.cut k1 t1.s
    exact q d o D3 H3 s2 k3 (t1.tr t4) p3
theorem ek_if (h : EtK i K tt ρ B) (h1 : B true → EdK i K ta ρ S) (h2 : B false → EdK i K tb ρ S) : EdK i K (tIf tt ta tb) ρ S := fun σ p l D H0 H g k e sl Q q =>
  h σ p l D H0 H g k e sl _ fun b D1 H1 s1 k1 t1 => by
    cases b with
    | true =>
      show ta σ H1 Q
      exact h1 s1 σ p l D1 H0 H1 g k1 t1.s (sl.mono t1) Q fun d v D' H' s k' t' => q d v D' H' s k' (t1.tr t')
    | false =>
      show tb σ H1 Q
      exact h2 s1 σ p l D1 H0 H1 g k1 t1.s (sl.mono t1) Q fun d v D' H' s k' t' => q d v D' H' s k' (t1.tr t')
theorem etk_test (h : EdK i K te ρ S) (hB : ∀ d, S d → ∃ b, d = .bool b ∧ B b) : EtK i K (tTest te) ρ B := fun σ p l D H0 H g k e sl Q q => h σ p l D H0 H g k e sl _ fun d v D1 H1 s1 k1 t1 p1 => by
  obtain ⟨b, rfl, hb⟩ := hB d s1
  exact ⟨b, dp_bl p1, q b D1 H1 hb k1 t1⟩
theorem etk_val (h : EdK i K te ρ S) (hB : ∀ d, S d → ∃ b, d = .bool b ∧ B b) : EtK i K (tB te) ρ B := fun σ p l D H0 H g k e sl Q q => h σ p l D H0 H g k e sl _ fun d v D1 H1 s1 k1 t1 p1 => by
  obtain ⟨b, rfl, hb⟩ := hB d s1
  exact ⟨b, dp_bl p1, q b D1 H1 hb k1 t1⟩
theorem ek_or {B1 : Bool → Prop} (h1 : EdK i K ta ρ (fun d => ∃ b, d = .bool b ∧ B1 b)) (h2 : B1 false → EdK i K tb ρ S) (hS : B1 true → S (.bool true)) : EdK i K (tOrV ta tb) ρ S := fun σ p l D H0 H g k e sl Q q =>
  h1 σ p l D H0 H g k e sl _ fun d v D1 H1 ⟨b, z, s1⟩ k1 t1 p1 => by
    subst z
    refine ⟨b, dp_bl p1, ?_⟩
    cases b with
    | true => exact q _ _ D1 H1 (hS s1) k1 t1 (.bl true)
    | false => exact h2 s1 σ p l D1 H0 H1 g k1 t1.s (sl.mono t1) Q fun d v D' H' s k' t' => q d v D' H' s k' (t1.tr t')
theorem ek_and {B1 : Bool → Prop} (h1 : EdK i K ta ρ (fun d => ∃ b, d = .bool b ∧ B1 b)) (h2 : B1 true → EdK i K tb ρ S) (hS : B1 false → S (.bool false)) : EdK i K (tAndV ta tb) ρ S := fun σ p l D H0 H g k e sl Q q =>
  h1 σ p l D H0 H g k e sl _ fun d v D1 H1 ⟨b, z, s1⟩ k1 t1 p1 => by
    subst z
    refine ⟨b, dp_bl p1, ?_⟩
    cases b with
    | false => exact q _ _ D1 H1 (hS s1) k1 t1 (.bl false)
    | true => exact h2 s1 σ p l D1 H0 H1 g k1 t1.s (sl.mono t1) Q fun d v D' H' s k' t' => q d v D' H' s k' (t1.tr t')

/-! ### the deck handed on -/
/-- a def with the deck as its first argument: R tells which data may come -/
def spDk (K : PySem.W.Frag) (R : List PyData → Sx → Prop) : Sp := fun vs H Q _ => ∃ p l us ds S D, vs = .ref p :: us ∧ R ds S ∧ Dk p l H ∧ Ex D (cut p l H) ∧ DpAll K D us ds ∧ ∀ d v D' H', S d → Dk p l H' → Stp D (cut p l H) D' (cut p l H') → Dp K D' v d → Q v H'
theorem ek_callK {R : List PyData → Sx → Prop} {E : XK} (h : EaK i K t ρ L) (hR : ∀ ds, L ds → ∃ S1, R ds S1 ∧ ∀ d, S1 d → S d) : EdK i K (tCall (spDk K R) [] E (tCons (tVar i) t)) ρ S := fun σ p l D H0 H g k e sl Q q =>
  ⟨_, g, h σ p l D H0 H g k e sl _ fun ds vs D1 H1 s1 k1 t1 p1 => by
    obtain ⟨S1, r1, m⟩ := hR ds s1
    refine ⟨p, l, vs, ds, S1, D1, by rw [List.append_nil], r1, k1, t1.s, p1, fun d v D2 H2 s2 k2 t2 p2 => q d v D2 H2 (m d s2) k2 (t1.tr t2) p2⟩⟩

/-! ### statements -/
inductive RsK where
  | nx (F : Ro → Prop)
  | rt (S : Sx)
def FinK (i : Nat) (p l : Addr) (K : PySem.W.Frag) (D H0 : Hp) (E : Ends) : RsK → Prop
  | .nx F => ∀ ρ' σ' D' H', F ρ' → σ'[i]? = some (some (.ref p)) → Dk p l H' → Stp D H0 D' (cut p l H') → Sl K σ' D' H0 (cut p l H') ρ' → E.nx σ' H'
  | .rt S => ∀ d v D' H', S d → Dk p l H' → Stp D H0 D' (cut p l H') → Dp K D' v d → E.rt v H'
theorem FinK.of {D1 H1 : Hp} {E : Ends} {r : RsK} (t : Stp D H0 D1 H1) (h : FinK i p l K D H0 E r) : FinK i p l K D1 H0 E r := by
  cases r with
  | nx F => exact fun ρ' σ' D' H' f g k t' => h ρ' σ' D' H' f g k (t.tr0 t')
  | rt S => exact fun d v D' H' s k t' => h d v D' H' s k (t.tr0 t')
def RunK (i : Nat) (K : PySem.W.Frag) (ts : TS) (ρ : Ro) (r : RsK) : Prop := ∀ (σ : L2.St) (p l : Addr) (H0 D H : Hp) (E : Ends), σ[i]? = some (some (.ref p)) → Dk p l H → Stp D H0 D (cut p l H) → Sl K σ D H0 (cut p l H) ρ → FinK i p l K D H0 E r → ts E σ H
variable {r : RsK} {t1 t2 t3 : TS} {g : TG} {xs : List PyData}
/-- what knows nothing of the deck -/
theorem rk_of (h : Run K t1 ρ (.rt d)) (hS : S d) : RunK i K t1 ρ (.rt S) := fun σ p l H0 D H E g k t sl q => by
  obtain ⟨hne, ⟨m, n, hd⟩, ns, hz, hl⟩ := id k
  obtain ⟨n1, n2⟩ := dk_none t.s
  let H0' : Hp := fun a => if a = p ∨ a = l then H a else H0 a
  have c1 : H0' p = H p := if_pos (.inl rfl)
  have c2 : H0' l = H l := if_pos (.inr rfl)
  have c3 : ∀ a, a ≠ p → a ≠ l → H0' a = H0 a := fun a h1 h2 => if_neg fun z => z.elim h1 h2
  have x1 : Ex H0' H := fun a u z => by
    by_cases c : a = p ∨ a = l
    · have : H0' a = H a := if_pos c
      rw [← this]
      exact z
    · have : H0' a = H0 a := if_neg c
      rw [this] at z
      exact cut_ex _ _ (t.h a u z)
  have sl' : Sl K σ D H0' H ρ := ⟨sl.len, sl.at_, fun j a o z => by
    obtain ⟨h1, h2, h3, u, h4, h5⟩ := sl.own j a o z
    obtain ⟨a1, a2, a3⟩ := cut_some h4
    exact ⟨h1, h2, by rw [c3 a a1 a2]; exact h3, u, a3, h5⟩, sl.sep⟩
  refine h σ H0' D H E ⟨Ex.refl D, x1, ex_cut t.s, fun _ _ _ _ z => z⟩ sl' fun v D' H' t' p' => ?_
  have hd' : H0' p = some (.dK [(.inr "left", .ref l), (.inr "mixed", .int m), (.inr "draws", .int n)]) := by rw [c1]; exact hd
  have hl' : H0' l = some (.lst (ns.map V.int)) := by rw [c2]; exact hl
  have m1 := t'.n p _ hd' (fun _ z => nomatch z) n1
  have m2 := t'.n l _ hl' (fun _ z => nomatch z) n2
  refine q d v D' H' hS ⟨hne, ⟨m, n, t'.h _ _ hd'⟩, ns, hz, t'.h _ _ hl'⟩ ⟨t'.d, fun a u z => ?_, fun a u z => ?_, fun a u z => ?_⟩ p'
  · obtain ⟨a1, a2, _⟩ := cut_some (t.h a u z)
    rw [cut_ne a1 a2]
    exact t'.h a u (by rw [c3 a a1 a2]; exact z)
  · rw [cut_ne (ne_of_none z m1) (ne_of_none z m2)]
    exact t'.s a u z
  · obtain ⟨a1, a2, _⟩ := cut_some (t.h a u z)
    exact t'.n a u (by rw [c3 a a1 a2]; exact z)
theorem rk_last (h : RunK i K (tSeq t1 tNext) ρ r) : RunK i K t1 ρ r := fun σ p l H0 D H E g k t sl q => h σ p l H0 D H E g k t sl q
theorem rk_next (h : RunK i K t2 ρ r) : RunK i K (tSeq tNext t2) ρ r := fun σ p l H0 D H E g k t sl q => h σ p l H0 D H E g k t sl q
theorem rk_assoc (h : RunK i K (tSeq t1 (tSeq t2 t3)) ρ r) : RunK i K (tSeq (tSeq t1 t2) t3) ρ r := fun σ p l H0 D H E g k t sl q => h σ p l H0 D H E g k t sl q
theorem rk_end {F : Ro → Prop} (hF : F ρ) : RunK i K tNext ρ (.nx F) := fun σ p l H0 D H E g k t sl q => q ρ σ D H hF g k t sl
/-- the base, with the deck as it stands -/
def cov (p l : Addr) (H H0 : Hp) : Hp := fun a => if a = p ∨ a = l then H a else H0 a
theorem sl_to (h : Sl K σ D H0 (cut p l H) ρ) : Sl K σ D (cov p l H H0) H ρ := ⟨h.len, h.at_, fun j a o z => by
  obtain ⟨h1, h2, h3, u, h4, h5⟩ := h.own j a o z
  obtain ⟨a1, a2, a3⟩ := cut_some h4
  exact ⟨h1, h2, (if_neg fun z => z.elim a1 a2).trans h3, u, a3, h5⟩, h.sep⟩
theorem sl_back (k : Dk p l H) (h : Sl K σ D (cov p l H H0) H ρ) : Sl K σ D H0 (cut p l H) ρ := ⟨h.len, h.at_, fun j a o z => by
  obtain ⟨h1, h2, h3, u, h4, h5⟩ := h.own j a o z
  obtain ⟨_, ⟨m, n, kd⟩, ns, _, kl⟩ := k
  have a1 : a ≠ p := fun e => by
    have : cov p l H H0 p = H p := if_pos (.inl rfl)
    rw [e, this, kd] at h3
    cases h3
  have a2 : a ≠ l := fun e => by
    have : cov p l H H0 l = H l := if_pos (.inr rfl)
    rw [e, this, kl] at h3
    cases h3
  have h3' : H0 a = none := (if_neg fun z => z.elim a1 a2 : cov p l H H0 a = H0 a) ▸ h3
  exact ⟨h1, h2, h3', u, by rw [cut_ne a1 a2]; exact h4, h5⟩, h.sep⟩
theorem rk_asg {j : List Nat} (h : EdK i K te ρ S) (hj : i ∉ j) (hb : ∀ d, S d → ∃ ρ', Bd K g d ρ ρ' j ∧ RunK i K t2 ρ' r) : RunK i K (tSeq (tAsg te g) t2) ρ r := fun σ p l H0 D H E gt k t sl q =>
  h σ p l D H0 H gt k t.s sl _ fun d v D1 H1 s1 k1 u1 p1 => by
    obtain ⟨ρ', b1, b3⟩ := hb d s1
    refine b1 v σ D1 (cov p l H1 H0) H1 (ex_cut u1.s) (sl_to (sl.mono u1)) p1 _ fun σ' s2 _ m => ?_
    exact b3 σ' p l H0 D1 H1 E (by rw [m i hj]; exact gt) k1 (t.go u1) (sl_back k1 s2) (q.of (t.up u1))
theorem rk_set {j : Nat} (hj : i ≠ j) (h : EdK i K te ρ S) (hn : ∀ d, S d → RunK i K t2 (ρ.set j (.dat d)) r) : RunK i K (tSeq (tAsg te (gName j)) t2) ρ r :=
  rk_asg h (j := [j]) (fun z => hj (List.mem_singleton.mp z)) fun d s => ⟨_, bd_name, hn d s⟩
theorem rk_par {j n : Nat} (h1 : i ≠ j) (h2 : i ≠ n) (h : EaK i K t ρ L) (hn : ∀ ds, L ds → ∃ x y, ds = [x, y] ∧ RunK i K t2 ((ρ.set j (.dat x)).set n (.dat y)) r) : RunK i K (tSeq (tPar j n t) t2) ρ r := fun σ p l H0 D H E gt k t sl q =>
  h σ p l D H0 H gt k t.s sl _ fun ds vs D1 H1 s1 k1 u1 p1 => by
    obtain ⟨x, y, rfl, hr⟩ := hn ds s1
    obtain ⟨v, u, rfl, p2, p3⟩ := dpA2 p1
    exact ⟨v, u, rfl, hr _ p l H0 D1 H1 E (by rw [List.getElem?_set_ne (Ne.symm h2), List.getElem?_set_ne (Ne.symm h1)]; exact gt) k1 (t.go u1) (((sl.mono u1).set j p2).set n p3) (q.of (t.up u1))⟩
theorem rk_ret (h : EdK i K te ρ S) : RunK i K (tSeq (tRet te) t2) ρ (.rt S) := fun σ p l H0 D H E gt k t sl q => h σ p l D H0 H gt k t.s sl _ fun d v D1 H1 s1 k1 u1 p1 => q d v D1 H1 s1 k1 (t.up u1) p1
theorem rk_if {c : TT} (h : EtK i K c ρ B) (h1 : B true → RunK i K (tSeq t1 t3) ρ r) (h2 : B false → RunK i K (tSeq t2 t3) ρ r) : RunK i K (tSeq (tIfS c t1 t2) t3) ρ r := fun σ p l H0 D H E gt k t sl q =>
  h σ p l D H0 H gt k t.s sl _ fun b D1 H1 s1 k1 u1 => by
    cases b with
    | true => exact h1 s1 σ p l H0 D1 H1 E gt k1 (t.go u1) (sl.mono u1) (q.of (t.up u1))
    | false => exact h2 s1 σ p l H0 D1 H1 E gt k1 (t.go u1) (sl.mono u1) (q.of (t.up u1))
theorem rk_no {c : TT} (h : EtK i K c ρ (fun b => b = false)) (h2 : RunK i K t3 ρ r) : RunK i K (tSeq (tIfS c t1 tNext) t3) ρ r := rk_if h (fun e => nomatch e) fun _ => rk_next h2
theorem rk_for {wi : TI} {tb : TS} (F : Nat → Ro → Prop) (hw : EdI K wi ρ xs) (h0 : F 0 ρ) (hs : ∀ (j : Nat) (x : PyData) (ρ1 : Ro), F j ρ1 → xs[j]? = some x → ∃ ρ' is, Bd K g x ρ1 ρ' is ∧ i ∉ is ∧ RunK i K tb ρ' (.nx (F (j + 1)))) (hn : ∀ ρ1, F xs.length ρ1 → RunK i K t2 ρ1 r) :
    RunK i K (tSeq (tFor wi g tb) t2) ρ r := fun σ p l H0 D H E gt k t sl q =>
  hw σ D H0 H (ex_cut t.s) sl.of_cut _ fun J D1 H1 t1 wk => by
    obtain ⟨k1, u1⟩ := t1.cut k t.s
    refine ⟨fun j m σ' H2 => m = xs.length - j ∧ j ≤ xs.length ∧ ∃ ρ1 D2, F j ρ1 ∧ σ'[i]? = some (some (.ref p)) ∧ Dk p l H2 ∧ Stp D1 H0 D2 (cut p l H2) ∧ Sl K σ' D2 H0 (cut p l H2) ρ1, ⟨_, rfl, Nat.zero_le _, ρ, D1, h0, gt, k1, t.go u1, sl.mono u1⟩, ?_⟩
    rintro j m σ' H2 ⟨rfl, hj, ρ1, D2, f2, g2, k2, u2, s2⟩
    obtain ⟨w1, w2⟩ := wk D2 H2 u2.d (ex_cut u2.s)
    by_cases hlt : j < xs.length
    · have hx := List.getElem?_eq_getElem hlt
      obtain ⟨w3, w4⟩ := w1 j _ hx
      refine .inr ⟨w3, fun σ' H3 => ∃ ρ1 D3, F (j + 1) ρ1 ∧ σ'[i]? = some (some (.ref p)) ∧ Dk p l H3 ∧ Stp D1 H0 D3 (cut p l H3) ∧ Sl K σ' D3 H0 (cut p l H3) ρ1, fun σ' H3 h3 => ⟨_, by omega, rfl, hlt, h3⟩, fun v H3 hy => ?_⟩
      obtain ⟨D3, u3, pv⟩ := w4 v H3 hy
      obtain ⟨k3, u3⟩ := u3.cut k2 u2.s
      obtain ⟨ρ', is, b1, b2, b3⟩ := hs j _ ρ1 f2 hx
      refine b1 v σ' D3 (cov p l H3 H0) H3 (ex_cut u3.s) (sl_to (s2.mono u3)) pv _ fun σ2 s3 _ m => b3 σ2 p l H0 D3 H3 _ (by rw [m i b2]; exact g2) k3 (u2.self.go u3) (sl_back k3 s3) ?_
      exact fun ρ3 σ3 D4 H4 f4 g4 k4 u4 s4 => ⟨ρ3, D4, f4, g4, k4, (u2.tr0 (u2.self.up u3)).tr0 u4, s4⟩
    · have ej : j = xs.length := by omega
      subst ej
      exact .inl ⟨w2, hn ρ1 f2 σ' p l H0 D2 H2 E g2 k2 u2.self s2 (q.of ((t.up u1).tr0 u2))⟩
theorem ifT {A C : Prop} (h : A) : if true = true then A else C := by
  rw [if_pos rfl]
  exact h
/-- a comprehension that draws -/
theorem wipe_get {vs : List Nat} {v : V} (h : i ∉ vs) (gt : σ[i]? = some (some v)) : (L2.wipe σ vs)[i]? = some (some v) := by rw [wipe_out h]; exact gt
/-- what is walked, drawn -/
def EiK (i : Nat) (K : PySem.W.Frag) (wi : TI) (ρ : Ro) (L : List PyData → Prop) : Prop := ∀ (σ : L2.St) (p l : Addr) (D H0 H : Hp), σ[i]? = some (some (.ref p)) → Dk p l H → Ex D (cut p l H) → Sl K σ D H0 (cut p l H) ρ →
  ∀ R : It → Hp → Prop, (∀ xs J D' H', L xs → Dk p l H' → Stp D (cut p l H) D' (cut p l H') → Wk K J D' xs → R J H') → wi σ H R
theorem ik_of {wi : TI} (hw : EdI K wi ρ xs) : EiK i K wi ρ (fun x => x = xs) := fun σ p l D H0 H gt k e sl R q => hw σ D H0 H (ex_cut e) sl.of_cut R fun J D1 H1 t1 wk => by
  obtain ⟨k1, u1⟩ := t1.cut k e
  exact q xs J D1 H1 rfl k1 u1 wk
theorem ik_range {t : TA} {n : Nat} (hn : n ≤ 1000) (h : EaK i K t ρ (fun ds => ∃ k : Nat, k ≤ n ∧ ds = [.int k])) : EiK i K (iRng1 t) ρ (fun xs => ∃ k : Nat, k ≤ n ∧ xs = rgD 0 k) := fun σ p l D H0 H gt k e sl R q =>
  h σ p l D H0 H gt k e sl _ fun ds vs D1 H1 ⟨m, hm, z⟩ k1 u1 p1 => by
    subst z
    obtain ⟨v, rfl, pv⟩ := dpA1 p1
    rw [dp_int pv]
    exact ⟨m, rfl, by omega, by omega, q (rgD 0 m) _ D1 H1 ⟨m, hm, rfl⟩ k1 u1 wk_range⟩
theorem ek_lcE {wi : TI} {vs : List Nat} (hi : i ∉ vs) (hw : EiK i K wi ρ L) (hl : ∀ xs, L xs → xs.length ≤ 100000)
    (hs : ∀ (xs : List PyData) (j : Nat) (x : PyData), L xs → xs[j]? = some x → ∃ ρ' is, Bd K g x (wipeR ρ vs) ρ' is ∧ (∀ j ∈ is, j ∈ vs) ∧ EdK i K te ρ' S) : EdK i K (tLc wi g tYes te vs) ρ (fun d => ∃ xs ds, L xs ∧ d = .list ds ∧ ds.length = xs.length ∧ ∀ x ∈ ds, S x) := fun σ p l D H0 H gt k e sl Q q =>
  hw σ p l D H0 H gt k e sl _ fun xs J D1 H1 hL k1 u1 wk c hc => by
    have hl := hl xs hL
    obtain ⟨k2, e2, n2⟩ := dk_new (u := .lst []) k1 hc
    have hcD : D1 c = none := Evl.fresh_back (ex_cut u1.s) hc
    refine ⟨fun j m H2 => m = xs.length - j ∧ j ≤ xs.length ∧ ∃ D2 acc ds, Ex D1 D2 ∧ Ex D2 (cut p l H2) ∧ Ex (cut p l H1) (cut p l H2) ∧ Dk p l H2 ∧ D2 c = none ∧ (∀ a u, cut p l H1 a = some u → (∀ xs, u ≠ .tup xs) → D1 a = none → D2 a = none) ∧ H2 c = some (.lst acc) ∧ DpAll K D2 acc ds ∧ ds.length = j ∧ ∀ x ∈ ds, S x,
      ⟨_, rfl, Nat.zero_le _, D1, [], [], Ex.refl D1, by rw [e2]; exact u1.s.trans (Ex.new n2), by rw [e2]; exact Ex.new n2, k2, hcD, fun _ _ _ _ h => h, upd_same, .nil, rfl, fun x hx => by cases hx⟩, ?_⟩
    rintro j m H2 ⟨rfl, hj, D2, acc, ds, f1, f2, f3, kk, f4, f5, f6, f7, f8, f9⟩
    have cp : c ≠ p := fun z => by
      obtain ⟨_, ⟨a, b, kd⟩, _⟩ := kk
      rw [z, kd] at f6
      cases f6
    have cl : c ≠ l := fun z => by
      obtain ⟨_, _, ns, _, kl⟩ := k1
      rw [z, kl] at hc
      cases hc
    obtain ⟨w1, w2⟩ := wk D2 H2 f1 (ex_cut f2)
    by_cases hlt : j < xs.length
    · have hx := List.getElem?_eq_getElem hlt
      obtain ⟨w3, w4⟩ := w1 j _ hx
      refine .inr ⟨w3, fun H3 => ∃ D2 acc ds, Ex D1 D2 ∧ Ex D2 (cut p l H3) ∧ Ex (cut p l H1) (cut p l H3) ∧ Dk p l H3 ∧ D2 c = none ∧ (∀ a u, cut p l H1 a = some u → (∀ xs, u ≠ .tup xs) → D1 a = none → D2 a = none) ∧ H3 c = some (.lst acc) ∧ DpAll K D2 acc ds ∧ ds.length = j + 1 ∧ ∀ x ∈ ds, S x, fun H3 h3 => ⟨_, by omega, rfl, hlt, h3⟩, fun v H3 hy => ?_⟩
      obtain ⟨D3, t3, pv⟩ := w4 v H3 hy
      obtain ⟨k3, u3⟩ := t3.cut kk f2
      obtain ⟨ρ', is, b1, b2, b3⟩ := hs xs j _ hL hx
      have f6' : H3 c = some (.lst acc) := t3.h c _ f6
      have st2 : Stp D1 (cut p l H1) D2 (cut p l H2) := ⟨f1, f3, f2, f5⟩
      have hin : ∀ a, a ∈ is → a ∈ vs := b2
      refine b1 v _ D3 (cov p l H3 H0) H3 (ex_cut u3.s) (sl_to ((sl.mono ((u1.tr st2).tr u3)).wipe vs)) pv _ fun σ' s1 s2 s3 => ⟨?_, ?_⟩
      · have z : L2.wipe σ' vs = L2.wipe (L2.wipe σ vs) vs := wipe_in s2 fun a ha => s3 a fun ha2 => ha (b2 a ha2)
        rw [z]
        exact wipe_in (wipe_length σ vs) fun a ha => wipe_out ha
      · unfold tYes
        simp only [if_true]
        refine b3 σ' p l D3 H0 H3 (by rw [s3 i fun z => hi (b2 i z)]; exact wipe_get hi gt) k3 u3.s (sl_back k3 s1) _ fun y w D5 H5 sy k5 u5 p5 => ?_
        have g3 : cut p l H3 c = some (.lst acc) := by rw [cut_ne cp cl]; exact f6'
        have g5 : cut p l H5 c = some (.lst acc) := u5.h c _ g3
        have g2 : cut p l H2 c = some (.lst acc) := by rw [cut_ne cp cl]; exact f6
        have n3 : D3 c = none := u3.n c _ g2 (fun _ z => nomatch z) f4
        have n5 : D5 c = none := u5.n c _ g3 (fun _ z => nomatch z) n3
        have la : acc.length < sizeLine := by
          have := dpA_len f7
          exact Nat.lt_of_lt_of_le (show acc.length < 100001 by omega) (by decide)
        have h5 : H5 c = some (.lst acc) := (cut_some g5).2.2
        have k6 : Dk p l (upd H5 c (.lst (acc ++ [w]))) := by
          obtain ⟨hne, ⟨a, b, kd⟩, ns, kz, kl⟩ := k5
          exact ⟨hne, ⟨a, b, by rw [upd_ne (Ne.symm cp)]; exact kd⟩, ns, kz, by rw [upd_ne (Ne.symm cl)]; exact kl⟩
        have e6 : cut p l (upd H5 c (.lst (acc ++ [w]))) = upd (cut p l H5) c (.lst (acc ++ [w])) := funext fun b => by
          by_cases z : b = c
          · rw [z, cut_ne cp cl, upd_same, upd_same]
          · by_cases y : b = p ∨ b = l
            · rw [upd_ne z]
              show (if _ then _ else _) = if _ then _ else _
              rw [if_pos y, if_pos y]
            · rw [upd_ne z]
              show (if _ then _ else _) = if _ then _ else _
              rw [if_neg y, if_neg y, upd_ne z]
        refine ⟨acc, h5, la, D5, acc ++ [w], ds ++ [y], (f1.trans u3.d).trans u5.d, by rw [e6]; exact u5.s.mut n5, by rw [e6]; exact ((f3.trans u3.h).trans u5.h).mut (by rw [cut_ne cp cl]; exact hc), k6, n5, fun a u h1 h2 h3 => ?_, upd_same, dpA_app (dpA (u3.d.trans u5.d) f7) (.cons p5 .nil), by rw [List.length_append, f8]; rfl, fun x hx => ?_⟩
        · exact u5.n a u (u3.h a u (f3 a u h1)) h2 (u3.n a u (f3 a u h1) h2 (f5 a u h1 h2 h3))
        · rcases List.mem_append.mp hx with hx | hx
          · exact f9 x hx
          · rw [List.mem_singleton.mp hx]
            exact sy
    · have ej : j = xs.length := by omega
      subst ej
      refine .inl ⟨w2, ?_⟩
      refine q (.list ds) (.ref c) (upd D2 c (.lst acc)) H2 ⟨xs, ds, hL, rfl, f8, f9⟩ kk (u1.tr ⟨f1.trans (Ex.new f4), f3, fun a u h => ?_, fun a u h1 h2 h3 => ?_⟩) (.lst (SqL.of upd_same) (dpA (Ex.new f4) f7))
      · by_cases z : a = c
        · subst z
          rw [upd_same] at h
          rw [cut_ne cp cl, f6]
          exact h
        · rw [upd_ne z] at h
          exact f2 a u h
      · by_cases z : a = c
        · subst z
          rw [cut_ne cp cl, hc] at h1
          cases h1
        · rw [upd_ne z]
          exact f5 a u h1 h2 h3
theorem ek_lcm {wi : TI} {vs : List Nat} (hi : i ∉ vs) (hw : EdI K wi ρ xs) (hl : xs.length ≤ 100000)
    (hs : ∀ (j : Nat) (x : PyData), xs[j]? = some x → ∃ ρ' is, Bd K g x (wipeR ρ vs) ρ' is ∧ (∀ j ∈ is, j ∈ vs) ∧ EdK i K te ρ' S) : EdK i K (tLc wi g tYes te vs) ρ (fun d => ∃ ds, d = .list ds ∧ ds.length = xs.length ∧ ∀ x ∈ ds, S x) :=
  (ek_lcE hi (ik_of hw) (fun ys e => by rw [e]; exact hl) fun ys j x e hx => hs j x (by rw [← e]; exact hx)).to fun d ⟨ys, ds, e, h1, h2, h3⟩ => ⟨ds, h1, by rw [h2, e], h3⟩
end
end K19

/-! TEXT K19W19 -/
set_option Elab.async false
set_option linter.all false
set_option maxRecDepth 100000
set_option maxHeartbeats 4000000
set_option autoImplicit false
/-! The walks, 19: draws. -/
namespace K19
open PySem PySem.Spec PyProof.Rows L2
open Evl (Ex)
section
variable {K : PySem.W.Frag} {σ : L2.St} {D D' H H' H0 : Hp} {p l : Addr} {ρ ρ' : Ro} {i : Nat}
theorem Sl.consNo {x : Option V} (h : Sl K σ D H0 H ρ) : Sl K (x :: σ) D H0 H (.no :: ρ) := by
  refine ⟨congrArg Nat.succ h.len, fun j d z => ?_, fun j a o z => ?_, fun j n a b q hjn ha hb ma => ?_⟩
  · cases j with
    | zero => cases z
    | succ j => exact h.at_ j d z
  · cases j with
    | zero => cases z
    | succ j => exact h.own j a o z
  · cases j with
    | zero =>
      cases ha
      cases ma
    | succ j =>
      cases n with
      | zero =>
        cases hb
        exact fun z => nomatch z
      | succ n => exact h.sep j n a b q (fun z => hjn (by rw [z])) ha hb ma
def startK (N : List Str) (ds : List PyData) : Ro := .no :: startR (N.drop 1) ds
theorem sl_startK {N : List Str} {v : V} {vs : List V} {ds : List PyData} (h : DpAll K D vs ds) : Sl K (L2.start N (v :: vs)) D H0 H (startK N ds) := by
  have e : L2.start N (v :: vs) = some v :: L2.start (N.drop 1) vs := by
    unfold L2.start
    rw [List.map_cons, List.cons_append, List.length_cons, List.length_drop]
    have : N.length - (vs.length + 1) = N.length - 1 - vs.length := by omega
    rw [this]
  rw [e]
  exact (sl_start h).consNo
theorem cut_updp {u : HO} : cut p l (upd H p u) = cut p l H := funext fun b => by
  by_cases c : b = p ∨ b = l
  · show (if _ then _ else _) = if _ then _ else _
    rw [if_pos c, if_pos c]
  · show (if _ then _ else _) = if _ then _ else _
    rw [if_neg c, if_neg c, upd_ne fun z => c (.inl z)]
theorem cut_updl {u : HO} : cut p l (upd H l u) = cut p l H := funext fun b => by
  by_cases c : b = p ∨ b = l
  · show (if _ then _ else _) = if _ then _ else _
    rw [if_pos c, if_pos c]
  · show (if _ then _ else _) = if _ then _ else _
    rw [if_neg c, if_neg c, upd_ne fun z => c (.inr z)]
abbrev anyI : Sx := fun d => ∃ n : Int, d = .int n
theorem ek_mixed : EdK i K (tDGet (tVar i) (tC (.str "mixed"))) ρ anyI := fun σ p l D H0 H g k e sl Q q => by
  obtain ⟨_, ⟨m, n, hd⟩, _⟩ := id k
  exact ⟨_, g, p, .int m, rfl, .inl ⟨_, .inr "mixed", .inl hd, rfl, rfl⟩, q (.int m) _ D H ⟨m, rfl⟩ k (Stp.rfl' e) (.int m)⟩
theorem ek_draws : EdK i K (tDGet (tVar i) (tC (.str "draws"))) ρ anyI := fun σ p l D H0 H g k e sl Q q => by
  obtain ⟨_, ⟨m, n, hd⟩, _⟩ := id k
  exact ⟨_, g, p, .int n, rfl, .inl ⟨_, .inr "draws", .inl hd, rfl, rfl⟩, q (.int n) _ D H ⟨n, rfl⟩ k (Stp.rfl' e) (.int n)⟩
theorem anyI_mk {a : Int} : anyI (.int a) := ⟨a, rfl⟩
theorem ek_int {c : Int} : EdK i K (tC (.int c)) ρ anyI := ek_one ed_int ⟨c, rfl⟩
theorem ek_add {ta tb : TE} (h1 : EdK i K ta ρ anyI) (h2 : EdK i K tb ρ anyI) : EdK i K (tOp (rI0 fun i j => .int (i + j)) ta tb) ρ anyI := ek_op h1 h2 fun x y hx hy => by
  obtain ⟨a, rfl⟩ := hx
  obtain ⟨b, rfl⟩ := hy
  exact ⟨.int (a + b), rd_I0 fun _ => .int _, _, rfl⟩
theorem ek_mulC {c : Int} {tb : TE} (h1 : -(2 ^ 64) < c) (h3 : c < 2 ^ 64) (h2 : EdK i K tb ρ anyI) : EdK i K (tOp (rI CMul fun i j => .int (i * j)) (tC (.int c)) tb) ρ anyI := ek_op (ek_of (ed_int (i := c))) h2 fun x y hx hy => by
  subst hx
  obtain ⟨b, rfl⟩ := hy
  exact ⟨.int (c * b), rd_I (.inl ⟨h1, h3⟩) fun _ => .int _, _, rfl⟩
theorem ek_toInt {ta : TE} (h : EdK i K ta ρ anyI) : EdK i K (tCB (fun xs H Q => (∃ i, xs = [V.int i] ∧ Q (.int i) H) ∨ ∃ k, xs = [V.bl k] ∧ Q (.int (if k then 1 else 0)) H) (tCons ta tNil)) ρ anyI := ek_cb (ak1 h) fun ds hd => by
  obtain ⟨d, rfl, a, rfl⟩ := hd
  exact ⟨.int a, rc_intI, _, rfl⟩
theorem ek_mod {c : Int} {ta : TE} (h0 : 0 < c) (h : EdK i K ta ρ anyI) : EdK i K (tOp (rI (fun _ j => 0 < j) fun i j => .int (i % j)) ta (tC (.int c))) ρ (fun d => ∃ a : Int, 0 ≤ a ∧ a < c ∧ d = .int a) := ek_op h (ek_of (ed_int (i := c))) fun x y hx hy => by
  subst hy
  obtain ⟨a, rfl⟩ := hx
  exact ⟨.int (a % c), rd_I h0 fun _ => .int _, _, Int.emod_nonneg _ (by omega), Int.emod_lt_of_pos _ h0, rfl⟩
theorem rk_draws {te : TE} {t2 : TS} {r : RsK} (h : EdK i K te ρ anyI) (hn : RunK i K t2 ρ r) : RunK i K (tSeq (sDPut (tVar i) (tC (.str "draws")) te) t2) ρ r := fun σ p l H0 D H E gt k t sl q =>
  h σ p l D H0 H gt k t.s sl _ fun d v D1 H1 ⟨z, ez⟩ k1 u1 p1 => by
    subst ez
    rw [dp_int p1]
    obtain ⟨hne, ⟨m, n, hd⟩, ns, hz, hl⟩ := id k1
    refine ⟨_, gt, p, _, rfl, DPut.k (k := .inr "draws") hd (by show 3 < sizeLine; decide), ?_⟩
    have e : putK [((.inr "left" : Key), V.ref l), (.inr "mixed", .int m), (.inr "draws", .int n)] (.inr "draws") (.int z) = [(.inr "left", .ref l), (.inr "mixed", .int m), (.inr "draws", .int z)] := by rfl
    rw [e]
    have u2 := u1
    have k2 : Dk p l (upd H1 p (.dK [(.inr "left", .ref l), (.inr "mixed", .int m), (.inr "draws", .int z)])) := ⟨hne, ⟨m, z, upd_same⟩, ns, hz, by rw [upd_ne (Ne.symm hne)]; exact hl⟩
    exact hn σ p l H0 D1 _ E gt k2 (by rw [cut_updp]; exact t.go u1) (by rw [cut_updp]; exact sl.mono u1) (q.of (t.up u1))
abbrev anyL : V → V := id
theorem eqv_ints_nil (ns : List Int) : PyData.eqv (.list (ns.map PyData.int)) (.list []) = ns.isEmpty := by rw [eqv_nilL, List.isEmpty_map]
theorem fl_lints {ns : List Int} {n : Nat} : Fl (n + 1) (.list (ns.map PyData.int)) := fl_lst fun d hd => by
  obtain ⟨a, _, rfl⟩ := List.mem_map.mp hd
  exact fl_int
/-- the deck's cells: the last one, if there is one -/
theorem rk_pop {j : Nat} {tc : TT} {ta tr : TE} {t1 t3 : TS} {S : Sx} (hij : i ≠ j) (hc : ∀ n : Int, ∃ b, EdT K tc (ρ.set j (.dat (.int n))) b) (ha : ∀ n : Int, ∃ m : Int, Ed K ta (ρ.set j (.dat (.int n))) (.int m)) (hr : ∀ n : Int, EdK i K tr (ρ.set j (.dat (.int n))) S)
    (G : Ro → Prop) (h3 : ∀ ρ1, G ρ1 → RunK i K t3 ρ1 (.rt S)) (h1 : ∀ n : Int, (∀ ρ1, G ρ1 → RunK i K t3 ρ1 (.rt S)) → RunK i K (tSeq t1 t3) (ρ.set j (.dat (.int n))) (.rt S)) (h0 : G ρ) :
    RunK i K (tSeq (tIfS (tTest (tOp (rNeD K) (tDGet (tVar i) (tC (.str "left"))) (tLst tNil))) (tSeq (tAsg (tBM0 K "list" rPop (tDGet (tVar i) (tC (.str "left")))) (gName j))
      (tSeq (tIfS tc (tSeq (tDrop (tBM K "list" rAppend (tDGet (tVar i) (tC (.str "left"))) (tCons ta tNil))) (tRet tr)) tNext) t1)) tNext) t3) ρ (.rt S) := fun σ p l H0 D H E gt k t sl q => by
  obtain ⟨hne, ⟨m, n, hd⟩, ns, hz, hl⟩ := id k
  have look : ∀ {G : Hp}, G p = some (.dK [(.inr "left", .ref l), (.inr "mixed", .int m), (.inr "draws", .int n)]) → DGet G p (.str "left") (some (.ref l)) := fun e => .inl ⟨_, .inr "left", .inl e, rfl, rfl⟩
  refine ⟨_, gt, p, _, rfl, look hd, Nat.zero_le _, fun a na => ?_⟩
  obtain ⟨k2, e2, n2⟩ := dk_new (u := .lst []) k na
  have t2 := Stp.tmp (o := .lst []) t.s n2
  rw [← e2] at t2
  have hd2 : upd H a (.lst []) p = some (.dK [(.inr "left", .ref l), (.inr "mixed", .int m), (.inr "draws", .int n)]) := by rw [upd_ne fun z => by rw [← z, hd] at na; cases na]; exact hd
  have hl2 : upd H a (.lst []) l = some (.lst (ns.map V.int)) := by rw [upd_ne fun z => by rw [← z, hl] at na; cases na]; exact hl
  refine ⟨.list (ns.map PyData.int), .list [], .lst (SqL.of hl2) (dpA_of_ints ns), .lst (SqL.of upd_same) .nil, (fl_lints (n := 1)).shaped, (fl_lst (n := 1) fun d hd => by cases hd).shaped, _, rfl, ?_⟩
  rw [eqv_ints_nil]
  have T2 := t.go t2
  have sl2 := sl.mono t2
  have q2 := q.of (t.up t2)
  cases hE : ns.isEmpty with
  | true => exact h3 ρ h0 σ p l H0 D _ E gt k2 T2 sl2 q2
  | false =>
    have hn0 : ns ≠ [] := fun z => by rw [z] at hE; cases hE
    have hlen : 0 < ns.length := List.length_pos_iff.mpr hn0
    refine ⟨_, gt, p, _, rfl, look hd2, .inl ⟨rfl, _, SqL.of hl2⟩, l, ns.map V.int, V.int (ns[ns.length - 1]'(by omega)), rfl, rfl, hl2, ?_, ?_⟩
    · rw [List.length_map, List.getElem?_map, List.getElem?_eq_getElem (by omega)]
      rfl
    generalize ns[ns.length - 1] = c
    have e3 : (ns.map V.int).dropLast = ns.dropLast.map V.int := List.map_dropLast.symm
    rw [e3]
    generalize hG : upd (upd H a (.lst [])) l (.lst (ns.dropLast.map V.int)) = Gp
    have c3 : cut p l Gp = cut p l (upd H a (.lst [])) := by rw [← hG, cut_updl]
    have hd3 : Gp p = some (.dK [(.inr "left", .ref l), (.inr "mixed", .int m), (.inr "draws", .int n)]) := by rw [← hG, upd_ne hne]; exact hd2
    have hl3 : Gp l = some (.lst (ns.dropLast.map V.int)) := by rw [← hG]; exact upd_same
    have hz3 : ns.dropLast.length ≤ 62 := by rw [List.length_dropLast]; omega
    have k3 : Dk p l Gp := ⟨hne, ⟨m, n, hd3⟩, _, by omega, hl3⟩
    have gt3 : (σ.set j (some (V.int c)))[i]? = some (some (.ref p)) := by rw [List.getElem?_set_ne (Ne.symm hij)]; exact gt
    have sl3 : Sl K (σ.set j (some (.int c))) D H0 (cut p l Gp) (ρ.set j (.dat (.int c))) := by rw [c3]; exact sl2.set j (.int c)
    have T3 : Stp D H0 D (cut p l Gp) := by rw [c3]; exact T2
    obtain ⟨b, hb⟩ := hc c
    refine hb _ D H0 Gp (ex_cut T3.s) sl3.of_cut _ fun D4 H4 t4 => ?_
    obtain ⟨k4, u4⟩ := t4.cut k3 T3.s
    have hd4 := t4.h _ _ hd3
    have hl4 := t4.h _ _ hl3
    have T4 := T3.go u4
    have sl4 := sl3.mono u4
    have q4 := q2.of (T3.up u4)
    cases b with
    | false => exact h1 c h3 _ p l H0 D4 H4 E gt3 k4 T4 sl4 q4
    | true =>
      obtain ⟨m5, h5⟩ := ha c
      refine ⟨_, gt3, p, _, rfl, look hd4, .inl ⟨rfl, _, SqL.of hl4⟩, h5 _ D4 H0 H4 (ex_cut T4.s) sl4.of_cut _ fun v D5 H5 t5 p5 => ?_⟩
      obtain ⟨k5, u5⟩ := t5.cut k4 T4.s
      have hl5 := t5.h _ _ hl4
      have hd5 := t5.h _ _ hd4
      rw [dp_int p5]
      refine ⟨l, _, .int m5, rfl, rfl, hl5, Nat.lt_of_lt_of_le (by rw [List.length_map]; omega : _ < 100) (by decide), ?_⟩
      have k6 : Dk p l (upd H5 l (.lst (ns.dropLast.map V.int ++ [V.int m5]))) := ⟨hne, ⟨m, n, by rw [upd_ne hne]; exact hd5⟩, ns.dropLast ++ [m5], by rw [List.length_append]; show _ + 1 ≤ 63; omega, by rw [upd_same, List.map_append]; rfl⟩
      have T5 := T4.go u5
      exact rk_ret (t2 := tNext) (hr c) _ p l H0 D5 _ E gt3 k6 (by rw [cut_updl]; exact T5) (by rw [cut_updl]; exact sl4.mono u5) (q4.of (T4.up u5))
end
section
variable {P : Program} {w : World} {K : PySem.W.Frag} {mg : Str → Option Value} {base : Heap}
theorem has_ofK {x : Str} {params : Arguments} {body : List Stmt} {scope : Scope} {f : Addr} {fd : FuncData} {N ps : List Str} {k : Nat} {R : List PyData → Sx → Prop} (g : mg x = some (.ref f)) (F : FunD K x x params body scope [] [] f fd) (S : FnScope N ps scope)
    (hb : ∀ (kV doc pm : Value) (an : Option Addr) (cdv ct : Value) (us : List Value), us.length = ps.length → bindArgs (PySem.W.fnOf x x params body scope .none kV doc pm an cdv ct) ⟨us, []⟩ = pure (ps.zip us))
    (hl : ∀ ds S, R ds S → ds.length + 1 = ps.length)
    (hbody : ∀ (cdv : Value) (A : Around) (outer : List Env) (s : Shared) (H : Hp) (E : XK), Room k (A.deeper (envOfC x scope s.heap.objs.size f cdv)) → ∀ ds S, R ds S →
      ∃ t, PSs (cxOf CX0 P w K mg base N x scope f cdv A outer s H E).nox body t ∧ RunK 0 K t (startK N ds) (.rt S)) : Has P w K mg base (k + 1) x ps (spDk K R) := by
  refine ⟨f, fd, g, F.kp, F.bindsN hb, F.ok S (fun vs H Q E h => ?_) fun cdv A outer s H vs Q E hr h => ?_⟩
  · obtain ⟨p, l, us, ds, S, D, rfl, h1, _, _, h3, _⟩ := h
    rw [List.length_cons, dpA_len h3]
    exact hl ds S h1
  · obtain ⟨p, l, us, ds, S, D, rfl, h1, k, h2, h3, h4⟩ := h
    obtain ⟨t, p1, p2⟩ := hbody cdv A outer s H E hr ds S h1
    exact ⟨t, p1.nox, p2 _ p l (cut p l H) D H _ rfl k (Stp.rfl' h2) (sl_startK h3) h4⟩
theorem hasG_ofK {x : Str} {params : Arguments} {body : List Stmt} {scope : Scope} {f : Addr} {fd : FuncData} {N ps : List Str} {k : Nat} {R : List PyData → Sx → Prop} (g : mg x = some (.ref f)) (F : FunD K x x params body scope [] [] f fd) (S : FnScope N ps scope)
    (hb : ∀ (kV doc pm : Value) (an : Option Addr) (cdv ct : Value) (us : List Value), us.length = ps.length → bindArgs (PySem.W.fnOf x x params body scope .none kV doc pm an cdv ct) ⟨us, []⟩ = pure (ps.zip us))
    (hl : ∀ ds S, R ds S → ds.length + 1 = ps.length)
    (hbody : ∀ (cdv : Value) (A : Around) (outer : List Env) (s : Shared) (H : Hp) (E : XK), (A.deeper (envOfC x scope s.heap.objs.size f cdv)).guards = some [] → Room k (A.deeper (envOfC x scope s.heap.objs.size f cdv)) → ∀ ds S, R ds S →
      ∃ t, PSs (cxOf CX0 P w K mg base N x scope f cdv A outer s H E).nox body t ∧ RunK 0 K t (startK N ds) (.rt S)) : HasG P w K mg base (k + 1) x ps (spDk K R) := by
  refine hasG_of g F S hb (fun zs H Q E h => ?_) fun cdv A outer s H zs Q E gg hr h => ?_
  · obtain ⟨p, l, us, ds, S, D, rfl, h1, _, _, h3, _⟩ := h
    rw [List.length_cons, dpA_len h3]
    exact hl ds S h1
  · obtain ⟨p, l, us, ds, S, D, rfl, h1, k, h2, h3, h4⟩ := h
    obtain ⟨t, p1, p2⟩ := hbody cdv A outer s H E gg hr ds S h1
    exact ⟨t, p1, p2 _ p l (cut p l H) D H _ rfl k (Stp.rfl' h2) (sl_startK h3) h4⟩
/-- a number below many -/
abbrev below (n : Nat) : Sx := fun d => ∃ k : Nat, k < n ∧ d = .int k
inductive R_law_draw : List PyData → Sx → Prop
  | mk (n : Nat) (h : 0 < n) (h2 : n ≤ 1000000) : R_law_draw [.int n] (below n)
theorem mod_below {a : Int} {n : Nat} (h : 0 < n) : below n (.int (a % (n : Int))) := by
  have h1 := Int.emod_nonneg a (show (n : Int) ≠ 0 by omega)
  have h2 := Int.emod_lt_of_pos a (show (0 : Int) < n by omega)
  exact ⟨(a % (n : Int)).toNat, by omega, by rw [Int.toNat_of_nonneg h1]⟩
abbrev N_law_draw : List Str := ["_law_deck_here", "_law_many", "_law_figure", "_law_cell"]
theorem sc_law_draw : FnScope N_law_draw ["_law_deck_here", "_law_many"] (defScope s_law_draw) := ⟨rfl, rfl, rfl, by decide +kernel, rfl, by decide +kernel, by decide +kernel⟩
theorem ok_law_draw (T : Top K mg) : Has P w K mg base 1 "_law_draw" ["_law_deck_here", "_law_many"] (spDk K R_law_draw) := by
  obtain ⟨f, fd, g, Fd⟩ := T.def_ 68 d_law_draw rfl
  have nd := sc_law_draw.nd
  refine has_ofK g Fd sc_law_draw (fun _ _ _ _ _ _ us hl => match us, hl with | [_, _], _ => rfl) (fun _ _ h => by cases h <;> rfl) fun cdv A outer s H E hr ds d h => ?_
  refine ⟨_, (pss_cons (ps_dput hr.u1 (pv 0) pe_str (pe_op op_add (pe_dget hr.u1 (pv 0) pe_str (fun _ _ => rfl)) pe_int) rfl) (pss_cons (ps_set (i := 2) nd rfl (Or.inl rfl) (pe_op op_add (pe_dget hr.u1 (pv 0) pe_str (fun _ _ => rfl)) (pe_op op_mul pe_int (pe_dget hr.u1 (pv 0) pe_str (fun _ _ => rfl))))) (pss_cons (ps_if (pt_cmpR (op_neD hr.units) (pe_dget hr.u1 (pv 0) pe_str (fun _ _ => rfl)) (pe_lst pa_nil) (nomark _)) (pss_cons (ps_set (i := 3) nd rfl (Or.inl rfl) (pe_bm0 PySem.F.plainAttrs_list PySem.F.slot_list_pop PySem.F.type_list_pop mt_pop (pe_dget hr.u1 (pv 0) pe_str (fun _ _ => rfl)))) (pss_cons (ps_if (pt_cmpR op_ge (pv 3) (pe_op op_pow pe_int pe_int) (nomark _)) (pss_cons (ps_expr (pe_bm PySem.F.plainAttrs_list PySem.F.slot_list_append PySem.F.type_list_append mt_append (pe_dget hr.u1 (pv 0) pe_str (fun _ _ => rfl)) (pa_cons (pe_op op_fdiv (pv 3) (pe_callB (call_max2 rfl) rfl (T.free 8 _ rfl) (by decide +kernel) (pa_cons pe_int (pa_cons (pv 1) pa_nil)))) pa_nil))) (pss_one (ps_ret (pe_op op_mod (pe_callTy call_int1 rfl (T.free 4 _ rfl) boot_int (pa_cons (pv 3) pa_nil)) (pv 1))))) pss_nil) (pss_one (ps_set (i := 2) nd rfl (Or.inl rfl) (pe_op op_add (pv 2) (pe_op op_mod (pe_callTy call_int1 rfl (T.free 4 _ rfl) boot_int (pa_cons (pv 3) pa_nil)) pe_int)))))) pss_nil) (pss_cons (ps_set (i := 2) nd rfl (Or.inl rfl) (pe_op op_mod (pe_callTy call_int1 rfl (T.free 4 _ rfl) boot_int (pa_cons (pe_op op_add (pe_op op_mul (pv 2) pe_int) pe_int) pa_nil)) pe_int)) (pss_cons (ps_set (i := 2) nd rfl (Or.inl rfl) (pe_op op_mod (pe_callTy call_int1 rfl (T.free 4 _ rfl) boot_int (pa_cons (pe_op op_add (pe_op op_add (pe_op op_mul (pv 2) (pv 2)) (pe_op op_mul pe_int (pe_dget hr.u1 (pv 0) pe_str (fun _ _ => rfl)))) pe_int) pa_nil)) pe_int)) (pss_cons (ps_set (i := 2) nd rfl (Or.inl rfl) (pe_op op_mod (pe_callTy call_int1 rfl (T.free 4 _ rfl) boot_int (pa_cons (pe_op op_mul (pv 2) pe_int) pa_nil)) pe_int)) (pss_one (ps_ret (pe_op op_mod (pe_callTy call_int1 rfl (T.free 4 _ rfl) boot_int (pa_cons (pe_op op_fdiv (pv 2) pe_int) pa_nil)) (pv 1)))))))))), ?_⟩
  cases h with
  | mk n h h2 =>
  refine rk_draws (ek_add ek_draws ek_int) ?_
  refine rk_set (by decide) (S := anyI) (ek_add ek_mixed (ek_mulC (by decide) (by decide) ek_draws)) fun d ⟨f0, hd⟩ => ?_
  subst hd
  refine rk_pop (j := 3) (by decide) (fun c => ⟨_, et_test (ed_op (ed_var (d := .int c) rfl) (ed_op ed_int ed_int (rd_I ⟨by decide, by decide, by decide⟩ fun _ => .int _)) (rd_I0 fun _ => .bl _))⟩) (fun c => ⟨_, ed_op (ed_var (d := .int c) rfl) (ed_cb (ea2 ed_int (ed_var (d := .int n) rfl)) rc_max2) (rd_I ⟨by split <;> omega, by split <;> omega⟩ fun _ => .int _)⟩)
    (fun c => ek_one (ed_op (ed_cb (ea1 (ed_var (d := .int c) rfl)) rc_intI) (ed_var (d := .int n) rfl) (rd_I (by omega) fun _ => .int _)) (mod_below h)) (fun ρ1 => ∃ (f0 : Int) (z : Sd), ρ1 = [.no, .dat (.int n), .dat (.int f0), z]) ?_ (fun c rest => ?_) ⟨f0, .no, rfl⟩
  · rintro _ ⟨f0, z, rfl⟩
    refine rk_set (by decide) (S := fun d => ∃ a : Int, 0 ≤ a ∧ a < 2147483563 ∧ d = .int a) (ek_one (ed_op (ed_cb (ea1 (ed_op (ed_op (ed_var (d := .int f0) rfl) ed_int (rd_I (cmulR (by decide) (by decide)) fun _ => .int _)) ed_int (rd_I0 fun _ => .int _))) rc_intI) ed_int (rd_I (by decide) fun _ => .int _)) ⟨_, Int.emod_nonneg _ (by decide), Int.emod_lt_of_pos _ (by decide), rfl⟩) fun d ⟨f1, b1, b2, hd⟩ => ?_
    subst hd
    refine rk_set (by decide) (S := fun d => ∃ a : Int, 0 ≤ a ∧ a < 2147483399 ∧ d = .int a) (ek_mod (by decide) (ek_toInt (ek_add (ek_add (ek_one (ed_op (ed_var (d := .int f1) rfl) (ed_var (d := .int f1) rfl) (rd_I (cmulR (by omega) (by omega)) fun _ => .int _)) ⟨_, rfl⟩) (ek_mulC (by decide) (by decide) ek_draws)) ek_int))) fun d ⟨f2, b3, b4, hd⟩ => ?_
    subst hd
    refine rk_set (by decide) (S := anyI) (ek_one (ed_op (ed_cb (ea1 (ed_op (ed_var (d := .int f2) rfl) ed_int (rd_I (cmulR (by decide) (by decide)) fun _ => .int _))) rc_intI) ed_int (rd_I (by decide) fun _ => .int _)) ⟨_, rfl⟩) fun d ⟨f3, hd⟩ => ?_
    subst hd
    exact rk_last (rk_ret (ek_one (ed_op (ed_cb (ea1 (ed_op (ed_var (d := .int f3) rfl) ed_int (rd_I cdiv fun _ => .int _))) rc_intI) (ed_var (d := .int n) rfl) (rd_I (by omega) fun _ => .int _)) (mod_below h)))
  · refine rk_set (by decide) (S := anyI) (ek_one (ed_op (ed_var (d := .int f0) rfl) (ed_op (ed_cb (ea1 (ed_var (d := .int c) rfl)) rc_intI) ed_int (rd_I (by decide) fun _ => .int _)) (rd_I0 fun _ => .int _)) ⟨_, rfl⟩) fun d ⟨f1, hd⟩ => ?_
    subst hd
    exact rest _ ⟨f1, _, rfl⟩
end
end K19

/-! TEXT K19W20 -/
set_option Elab.async false
set_option linter.all false
set_option maxRecDepth 100000
set_option maxHeartbeats 4000000
set_option autoImplicit false
/-! The walks, 20: picks, fields, maps. -/
namespace K19
open PySem PySem.Spec PyProof.Rows L2
open Evl (Ex)
inductive R_law_pick : List PyData → Sx → Prop
  | mk (ds : List PyData) (h : 0 < ds.length) (h2 : ds.length ≤ 1000) : R_law_pick [.tuple ds] (fun d => d ∈ ds)
inductive R_law_far : List PyData → Sx → Prop
  | mk (n : Nat) (h : 0 < n) : R_law_far [.int n] (below n)
inductive R_law_field : List PyData → Sx → Prop
  | mk : R_law_field [] (fun d => ∃ q : Nat, Fld q ∧ d = .int q)
inductive R_law_map : List PyData → Sx → Prop
  | mk (q : Nat) [Fld q] : R_law_map [.int q] (fun d => ∃ m : SM q, m.det ≠ 0 ∧ d = mD m)
section
variable {K : PySem.W.Frag} {ρ : Ro} {i : Nat}
theorem ek_draw {ta : TE} {n : Nat} (h : Ed K ta ρ (.int n)) (h1 : 0 < n) (h2 : n ≤ 1000000) : EdK i K (tCall (spDk K R_law_draw) [] E0 (tCons (tVar i) (tCons ta tNil))) ρ (below n) :=
  ek_callK (ak_of (ea1 h)) fun ds e => ⟨_, by rw [e]; exact .mk n h1 h2, fun d hd => hd⟩
theorem ek_draw1 {ta : TE} {n : Nat} (h : Ed K ta ρ (.int n)) (h1 : 0 < n) (h2 : n ≤ 1000000) : EdK i K (tOp (rI0 fun i j => .int (i + j)) (tC (.int 1)) (tCall (spDk K R_law_draw) [] E0 (tCons (tVar i) (tCons ta tNil)))) ρ (fun d => ∃ k : Nat, 1 ≤ k ∧ k ≤ n ∧ d = .int k) :=
  ek_op (ek_of (ed_int (i := 1))) (ek_draw h h1 h2) fun x y hx ⟨k, hk, hy⟩ => by
    subst hx
    subst hy
    exact ⟨.int (1 + (k : Int)), rd_I0 fun _ => .int _, k + 1, by omega, by omega, congrArg PyData.int (by omega)⟩
theorem ek_pick {ta : TE} {ds : List PyData} (h : Ed K ta ρ (.tuple ds)) (h1 : 0 < ds.length) (h2 : ds.length ≤ 1000) : EdK i K (tCall (spDk K R_law_pick) [] E0 (tCons (tVar i) (tCons ta tNil))) ρ (fun d => d ∈ ds) :=
  ek_callK (ak_of (ea1 h)) fun ds' e => ⟨_, by rw [e]; exact .mk ds h1 h2, fun d hd => hd⟩
/-- a test of what was drawn: either way -/
abbrev anyB : Bool → Prop := fun _ => True
theorem etk_eq {te : TE} {c : Int} {S : Sx} (h : EdK i K te ρ S) (hS : ∀ d, S d → ∃ a : Int, d = .int a) : EtK i K (tTest (tOp rEq te (tC (.int c)))) ρ anyB :=
  etk_test (ek_op (S := fun d => ∃ b, d = .bool b) h (ek_of (ed_int (i := c))) fun x y hx hy => by
    obtain ⟨a, rfl⟩ := hS x hx
    subst hy
    exact ⟨_, rd_eqI, _, rfl⟩) fun d ⟨b, hb⟩ => ⟨b, hb, trivial⟩
end
section
variable {q : Nat} [Fld q]
theorem dg_nz {n : Nat} (h1 : 1 ≤ n) (h2 : n < q) : (dg n : F q) ≠ 0 := fun z => by
  have := congrArg F.v z
  rw [dg_v, F.zero_v, Nat.mod_eq_of_lt h2] at this
  omega
theorem nD_dg {n : Nat} (h : n < q) : PyData.int n = nD (dg n : F q) := by
  show _ = PyData.int ((n % q : Nat) : Int)
  rw [Nat.mod_eq_of_lt h]
theorem det_1 : (SM.one : SM q).det ≠ 0 := ST.none_ok.det
end
theorem fld_of {n : Nat} (h : n ∈ fields) : Fld n := ⟨h⟩
section
variable {P : Program} {w : World} {K : PySem.W.Frag} {mg : Str → Option Value} {base : Heap}
abbrev N_law_pick : List Str := ["_law_deck_here", "_law_some"]
theorem sc_law_pick : FnScope N_law_pick ["_law_deck_here", "_law_some"] (defScope s_law_pick) := ⟨rfl, rfl, rfl, by decide +kernel, rfl, by decide +kernel, by decide +kernel⟩
theorem ok_law_pick (T : Top K mg) : Has P w K mg base 2 "_law_pick" ["_law_deck_here", "_law_some"] (spDk K R_law_pick) := by
  obtain ⟨f, fd, g, Fd⟩ := T.def_ 69 d_law_pick rfl
  have nd := sc_law_pick.nd
  have h_law_draw := ok_law_draw (P := P) (w := w) (base := base) T
  refine has_ofK g Fd sc_law_pick (fun _ _ _ _ _ _ us hl => match us, hl with | [_, _], _ => rfl) (fun _ _ h => by cases h <;> rfl) fun cdv A outer s H E hr ds d h => ?_
  refine ⟨_, (pss_one (ps_ret (pe_ix ix_tup (pv 1) (pe_callH h_law_draw hr (by decide) rfl (pa_cons (pv 0) (pa_cons (pe_callB call_len_seq rfl (T.free 6 _ rfl) boot_len (pa_cons (pv 1) pa_nil)) pa_nil))) (fun _ _ => rfl)))), ?_⟩
  cases h with
  | mk ds h1 h2 =>
  refine rk_last (rk_ret (ek_op (ek_of (ed_var (d := .tuple ds) rfl)) (ek_draw (n := ds.length) (ed_cb (ea1 (ed_var rfl)) rc_lenT) h1 (by omega)) fun x y hx ⟨k, hk, hy⟩ => ?_))
  subst hx
  subst hy
  exact ⟨ds[k], rd_ixT (atI_nat (List.getElem?_eq_getElem hk)), List.getElem_mem hk⟩
abbrev N_law_far : List Str := ["_law_deck_here", "_law_many", "_law_found", "_law_room", "_law_turn"]
theorem sc_law_far : FnScope N_law_far ["_law_deck_here", "_law_many"] (defScope s_law_far) := ⟨rfl, rfl, rfl, by decide +kernel, rfl, by decide +kernel, by decide +kernel⟩
theorem ok_law_far (T : Top K mg) : Has P w K mg base 2 "_law_far" ["_law_deck_here", "_law_many"] (spDk K R_law_far) := by
  obtain ⟨f, fd, g, Fd⟩ := T.def_ 70 d_law_far rfl
  have nd := sc_law_far.nd
  have h_law_draw := ok_law_draw (P := P) (w := w) (base := base) T
  refine has_ofK g Fd sc_law_far (fun _ _ _ _ _ _ us hl => match us, hl with | [_, _], _ => rfl) (fun _ _ h => by cases h <;> rfl) fun cdv A outer s H E hr ds d h => ?_
  refine ⟨_, (pss_cons (ps_asg (pe_tup (pa_cons pe_int (pa_cons pe_int pa_nil))) (pg_tup rfl (pgs_cons (pg_name (i := 2) nd rfl (Or.inl rfl)) (pgs_cons (pg_name (i := 3) nd rfl (Or.inl rfl)) pgs_nil)))) (pss_cons (ps_for PassesOwn.never rfl (pi_range1 rfl (T.free 9 _ rfl) (pa_cons pe_int pa_nil)) (pg_name (i := 4) nd rfl (Or.inl rfl)) (pss_one (ps_if (pt_cmpR op_lt (pv 3) (pv 1) (nomark _)) (pss_one (ps_par (i := 2) (j := 3) rfl nd rfl rfl (by decide) rfl rfl (pa_cons (pe_op op_add (pe_op op_mul pe_int (pv 2)) (pe_callH h_law_draw hr (by decide) rfl (pa_cons (pv 0) (pa_cons pe_int pa_nil)))) (pa_cons (pe_op op_mul pe_int (pv 3)) pa_nil)) rfl)) pss_nil))) (pss_one (ps_ret (pe_op op_mod (pe_callTy call_int1 rfl (T.free 4 _ rfl) boot_int (pa_cons (pv 2) pa_nil)) (pv 1)))))), ?_⟩
  cases h with
  | mk n h1 =>
  refine rk_asg (ek_of (ed_tup (ea2 ed_int ed_int) (le5 rfl))) (by decide : 0 ∉ [2, 3]) fun d e => ?_
  subst e
  refine ⟨_, bd_tup rfl (bds_cons (bds_cons bds_nil)), ?_⟩
  refine rk_for (fun j ρ1 => ∃ (a b : Int) (z : Sd), ρ1 = [.no, .dat (.int n), .dat (.int a), .dat (.int b), z]) (ei_range1 (n := 40) (ea1 ed_int) (by decide) (by decide)) ⟨0, 1, .no, rfl⟩ (fun j x ρ1 ⟨a, b, z, e⟩ hx => ?_) fun ρ1 ⟨a, b, z, e⟩ => ?_
  · subst e
    refine ⟨_, _, bd_name, by decide, ?_⟩
    refine rk_last (rk_if (et_of (et_test (ed_op (ed_var (d := .int b) rfl) (ed_var (d := .int n) rfl) (rd_I0 fun _ => .bl _)))) (fun _ => ?_) (fun _ => rk_next (rk_end ⟨a, b, _, rfl⟩)))
    refine rk_par (by decide) (by decide) (ak2 (S1 := anyI) (S2 := anyI) (ek_op (S1 := anyI) (ek_one (ed_op ed_int (ed_var (d := .int a) rfl) (rd_I (cmulL (by decide) (by decide)) fun _ => .int _)) ⟨_, rfl⟩) (ek_draw (n := 1000) ed_int (by decide) (by decide)) fun x y ⟨u, hu⟩ ⟨k, _, hk⟩ => ?_) (ek_one (ed_op ed_int (ed_var (d := .int b) rfl) (rd_I (cmulL (by decide) (by decide)) fun _ => .int _)) ⟨_, rfl⟩)) fun ds ⟨x, y, hd, ⟨u, hu⟩, v, hv⟩ => ⟨x, y, hd, ?_⟩
    · subst hu
      subst hk
      exact ⟨.int (u + (k : Int)), rd_I0 fun _ => .int _, _, rfl⟩
    · subst hu
      subst hv
      exact rk_end ⟨u, v, _, rfl⟩
  · subst e
    exact rk_last (rk_ret (ek_one (ed_op (ed_cb (ea1 (ed_var (d := .int a) rfl)) rc_intI) (ed_var (d := .int n) rfl) (rd_I (by omega) fun _ => .int _)) (mod_below h1)))
abbrev N_law_field : List Str := ["_law_deck_here"]
theorem sc_law_field : FnScope N_law_field ["_law_deck_here"] (defScope s_law_field) := ⟨rfl, rfl, rfl, by decide +kernel, rfl, by decide +kernel, by decide +kernel⟩
theorem ok_law_field (T : Top K mg) : Has P w K mg base 3 "_law_field" ["_law_deck_here"] (spDk K R_law_field) := by
  obtain ⟨f, fd, g, Fd⟩ := T.def_ 71 d_law_field rfl
  have nd := sc_law_field.nd
  have h_law_pick := ok_law_pick (P := P) (w := w) (base := base) T
  have h_law_draw := ok_law_draw (P := P) (w := w) (base := base) T
  refine has_ofK g Fd sc_law_field (fun _ _ _ _ _ _ us hl => match us, hl with | [_], _ => rfl) (fun _ _ h => by cases h <;> rfl) fun cdv A outer s H E hr ds d h => ?_
  refine ⟨_, (pss_cons (ps_if (pt_cmpR op_eq (pe_callH h_law_draw hr (by decide) rfl (pa_cons (pv 0) (pa_cons pe_int pa_nil))) pe_int (nomark _)) (pss_one (ps_ret (pe_callH h_law_pick hr (by decide) rfl (pa_cons (pv 0) (pa_cons (pe_tup (pa_cons pe_int (pa_cons pe_int (pa_cons pe_int (pa_cons pe_int (pa_cons pe_int (pa_cons pe_int (pa_cons pe_int (pa_cons pe_int (pa_cons pe_int (pa_cons pe_int pa_nil))))))))))) pa_nil))))) pss_nil) (pss_one (ps_ret (pe_callH h_law_pick hr (by decide) rfl (pa_cons (pv 0) (pa_cons (pe_tup (pa_cons pe_int (pa_cons pe_int (pa_cons pe_int (pa_cons pe_int (pa_cons pe_int (pa_cons pe_int pa_nil))))))) pa_nil)))))), ?_⟩
  cases h with
  | mk =>
  have fin : ∀ ns : List Nat, (∀ n ∈ ns, n ∈ fields) → ∀ d, d ∈ (ns.map fun n : Nat => PyData.int n) → ∃ q : Nat, Fld q ∧ d = .int q := fun ns hn d hd => by
    obtain ⟨n, h1, rfl⟩ := List.mem_map.mp hd
    exact ⟨n, ⟨hn n h1⟩, rfl⟩
  refine rk_if (etk_eq (ek_draw (n := 5) ed_int (by decide) (by decide)) fun d ⟨k, _, e⟩ => ⟨_, e⟩) (fun _ => ?_) (fun _ => rk_next ?_)
  · exact rk_ret ((ek_pick (ds := [2, 3, 4, 5, 7, 8, 9, 11, 13, 16].map fun n : Nat => PyData.int n) (ed_tup (ea_cons ed_int (ea_cons ed_int (ea_cons ed_int (ea_cons ed_int (ea6 ed_int ed_int ed_int ed_int ed_int ed_int))))) (le5 rfl)) (by decide) (by decide)).to (fin _ (by decide)))
  · exact rk_last (rk_ret ((ek_pick (ds := [2, 3, 4, 5, 3, 2].map fun n : Nat => PyData.int n) (ed_tup (ea6 ed_int ed_int ed_int ed_int ed_int ed_int) (le5 rfl)) (by decide) (by decide)).to (fin _ (by decide))))
abbrev N_law_map : List Str := ["_law_deck_here", "_law_q", "_law_way", "_law_number", "_law_a", "_law_b", "_law_k", "_law_u", "_law_c", "_law_f", "_law_d", "_law_e"]
theorem sc_law_map : FnScope N_law_map ["_law_deck_here", "_law_q"] (defScope s_law_map) := ⟨rfl, rfl, rfl, by decide +kernel, rfl, by decide +kernel, by decide +kernel⟩
theorem ok_law_map (T : Top K mg) : Has P w K mg base 3 "_law_map" ["_law_deck_here", "_law_q"] (spDk K R_law_map) := by
  obtain ⟨f, fd, g, Fd⟩ := T.def_ 78 d_law_map rfl
  have nd := sc_law_map.nd
  have h_law_plus := ok_law_plus (P := P) (w := w) (base := base) T
  have h_law_by := ok_law_by (P := P) (w := w) (base := base) T
  have h_law_draw := ok_law_draw (P := P) (w := w) (base := base) T
  refine has_ofK g Fd sc_law_map (fun _ _ _ _ _ _ us hl => match us, hl with | [_, _], _ => rfl) (fun _ _ h => by cases h <;> rfl) fun cdv A outer s H E hr ds d h => ?_
  refine ⟨_, (pss_cons (ps_par (i := 2) (j := 3) rfl nd rfl rfl (by decide) rfl rfl (pa_cons (pe_callH h_law_draw hr (by decide) rfl (pa_cons (pv 0) (pa_cons pe_int pa_nil))) (pa_cons (pe_op op_add pe_int (pe_callH h_law_draw hr (by decide) rfl (pa_cons (pv 0) (pa_cons (pe_op op_sub (pe_op op_mul (pv 1) (pv 1)) pe_int) pa_nil)))) pa_nil)) rfl) (pss_cons (ps_asg (pe_tup (pa_cons (pe_op op_fdiv (pv 3) (pv 1)) (pa_cons (pe_op op_mod (pe_callTy call_int1 rfl (T.free 4 _ rfl) boot_int (pa_cons (pv 3) pa_nil)) (pv 1)) (pa_cons (pe_callH h_law_draw hr (by decide) rfl (pa_cons (pv 0) (pa_cons (pv 1) pa_nil))) (pa_cons (pe_op op_add pe_int (pe_callH h_law_draw hr (by decide) rfl (pa_cons (pv 0) (pa_cons (pe_op op_sub (pv 1) pe_int) pa_nil)))) pa_nil))))) (pg_tup rfl (pgs_cons (pg_name (i := 4) nd rfl (Or.inl rfl)) (pgs_cons (pg_name (i := 5) nd rfl (Or.inl rfl)) (pgs_cons (pg_name (i := 6) nd rfl (Or.inl rfl)) (pgs_cons (pg_name (i := 7) nd rfl (Or.inl rfl)) pgs_nil)))))) (pss_cons (ps_par (i := 8) (j := 9) rfl nd rfl rfl (by decide) rfl rfl (pa_cons (pe_callH h_law_draw hr (by decide) rfl (pa_cons (pv 0) (pa_cons (pv 1) pa_nil))) (pa_cons (pe_callH h_law_draw hr (by decide) rfl (pa_cons (pv 0) (pa_cons (pv 1) pa_nil))) pa_nil)) rfl) (pss_cons (ps_if (pt_cmpR op_eq (pv 2) pe_int (nomark _)) (pss_one (ps_ret (pe_tup (pa_cons pe_int (pa_cons pe_int (pa_cons pe_int (pa_cons pe_int (pa_cons pe_int (pa_cons pe_int pa_nil))))))))) pss_nil) (pss_cons (ps_if (pt_cmpR op_lt (pv 2) pe_int (nomark _)) (pss_one (ps_ret (pe_tup (pa_cons (pe_op op_add pe_int (pe_op op_mod (pe_callTy call_int1 rfl (T.free 4 _ rfl) boot_int (pa_cons (pv 3) pa_nil)) (pe_op op_sub (pv 1) pe_int))) (pa_cons (pv 6) (pa_cons (pv 8) (pa_cons pe_int (pa_cons (pv 7) (pa_cons (pv 9) pa_nil))))))))) pss_nil) (pss_cons (ps_par (i := 10) (j := 11) rfl nd rfl rfl (by decide) rfl rfl (pa_cons (pe_callH h_law_by hr (by decide) rfl (pa_cons (pv 1) (pa_cons (pv 6) (pa_cons (pv 4) pa_nil)))) (pa_cons (pe_callH h_law_by hr (by decide) rfl (pa_cons (pv 1) (pa_cons (pv 6) (pa_cons (pv 5) pa_nil)))) pa_nil)) rfl) (pss_cons (ps_if (pt_cmpR op_eq (pv 4) pe_int (nomark _)) (pss_one (ps_ret (pe_tup (pa_cons (pv 4) (pa_cons (pv 5) (pa_cons (pv 8) (pa_cons (pe_callH h_law_plus hr (by decide) rfl (pa_cons (pv 1) (pa_cons (pv 10) (pa_cons (pv 7) pa_nil)))) (pa_cons (pv 11) (pa_cons (pv 9) pa_nil))))))))) pss_nil) (pss_one (ps_ret (pe_tup (pa_cons (pv 4) (pa_cons (pv 5) (pa_cons (pv 8) (pa_cons (pv 10) (pa_cons (pe_callH h_law_plus hr (by decide) rfl (pa_cons (pv 1) (pa_cons (pv 11) (pa_cons (pv 7) pa_nil)))) (pa_cons (pv 9) pa_nil)))))))))))))))), ?_⟩
  cases h with
  | mk q =>
  have hq := q_bd (q := q)
  have hqq := qq_le (q := q)
  have h4 : 4 ≤ q * q := Nat.mul_le_mul hq.1 hq.1
  have em : ∀ {ρ : Ro}, ρ[1]? = some (.dat (.int q)) → Ed K (tOp (rI0 fun i j => .int (i - j)) (tVar 1) (tC (.int 1))) ρ (.int ((q - 1 : Nat) : Int)) := fun h => ed_to (ed_op (ed_var h) ed_int (rd_I0 fun _ => .int _)) (congrArg PyData.int qm1)
  refine rk_par (by decide) (by decide) (ak2 (ek_draw (n := 9) ed_int (by decide) (by decide)) (ek_draw1 (n := q * q - 1) (ed_to (ed_op (ed_op (ed_var (d := .int q) rfl) (ed_var (d := .int q) rfl) (rd_I (cmulN (by omega)) fun _ => .int _)) ed_int (rd_I0 fun _ => .int _)) (congrArg PyData.int (by rw [nat_mul]; omega))) (by omega) (by omega))) fun ds ⟨x, y, hd, ⟨way, hw, hx⟩, n, n1, n2, hy⟩ => ⟨x, y, hd, ?_⟩
  subst hx
  subst hy
  have hA : n / q < q := Nat.div_lt_of_lt_mul (by omega)
  have hB : n % q < q := Nat.mod_lt _ (by omega)
  refine rk_asg (S := fun d => ∃ k u : Nat, k < q ∧ 1 ≤ u ∧ u < q ∧ d = .tuple [.int (n / q : Nat), .int (n % q : Nat), .int k, .int u]) ((ek_tup (ak_cons (ek_of (ed_op (ed_var (d := .int n) rfl) (ed_var (d := .int q) rfl) (rd_I (cdivN (by omega) (by omega)) fun _ => .int _))) (ak_cons (ek_of (ed_op (ed_cb (ea1 (ed_var (d := .int n) rfl)) rc_intI) (ed_var (d := .int q) rfl) (rd_I (by omega) fun _ => .int _))) (ak2 (ek_draw (n := q) (ed_var rfl) (by omega) (by omega)) (ek_draw1 (n := q - 1) (em rfl) (by omega) (by omega))))) fun ds ⟨a, r, h1, _, b, s, h2, _, c, e, h3, _, _⟩ => by subst h1; subst h2; subst h3; exact le5 rfl).to fun d ⟨ds, ⟨a, r, h1, ha, b, s, h2, hb, c, e, h3, ⟨k, hk, hc⟩, u, u1, u2, he⟩, hd⟩ => ⟨k, u, hk, u1, by omega, ?_⟩) (by decide : 0 ∉ [4, 5, 6, 7]) fun d ⟨k, u, hk, u1, u2, hd⟩ => ?_
  · subst hd h1 h2 h3 ha hb hc he
    rfl
  subst hd
  refine ⟨_, bd_tup rfl (bds_cons (bds_cons (bds_cons (bds_cons bds_nil)))), ?_⟩
  refine rk_par (by decide) (by decide) (ak2 (ek_draw (n := q) (ed_var rfl) (by omega) (by omega)) (ek_draw (n := q) (ed_var rfl) (by omega) (by omega))) fun ds ⟨x, y, hd, ⟨c, hc, hx⟩, f0, hf, hy⟩ => ⟨x, y, hd, ?_⟩
  subst hx
  subst hy
  refine rk_if (et_of (et_test (ed_op (ed_var (d := .int way) rfl) ed_int rd_eqI))) (fun _ => ?_) (fun _ => rk_next ?_)
  · refine rk_ret (ek_one (ed_tup (ea6 ed_int ed_int ed_int ed_int ed_int ed_int) (le5 rfl)) ⟨SM.one, det_1, ?_⟩)
    show _ = PyData.tuple [nD (1 : F q), nD (0 : F q), nD (0 : F q), nD (0 : F q), nD (1 : F q), nD (0 : F q)]
    rw [nD0, nD1]
  refine rk_if (et_of (et_test (ed_op (ed_var (d := .int way) rfl) ed_int (rd_I0 fun _ => .bl _)))) (fun _ => ?_) (fun _ => rk_next ?_)
  · have hm : n % (q - 1) < q - 1 := Nat.mod_lt _ (by omega)
    refine rk_ret (ek_one (ed_tup (ea6 (ed_to (ed_op ed_int (ed_op (ed_cb (ea1 (ed_var (d := .int n) rfl)) rc_intI) (em rfl) (rd_I (by omega) fun _ => .int _)) (rd_I0 fun _ => .int _)) (x := .int (1 + n % (q - 1) : Nat)) (congrArg PyData.int (by omega))) (ed_var (d := .int k) rfl) (ed_var (d := .int c) rfl) ed_int (ed_var (d := .int u) rfl) (ed_var (d := .int f0) rfl)) (le5 rfl)) ⟨⟨dg (1 + n % (q - 1)), dg k, dg c, 0, dg u, dg f0⟩, ?_, ?_⟩)
    · show (dg (1 + n % (q - 1)) : F q) * dg u - dg k * 0 ≠ 0
      have h1 := F.mul_ne (dg_nz (q := q) (n := 1 + n % (q - 1)) (by omega) (by omega)) (dg_nz (q := q) (n := u) u1 u2)
      intro z
      exact h1 (by grind)
    · show _ = PyData.tuple [nD (dg (1 + n % (q - 1)) : F q), nD (dg k : F q), nD (dg c : F q), nD (0 : F q), nD (dg u : F q), nD (dg f0 : F q)]
      rw [nD0, ← nD_dg (by omega), ← nD_dg (by omega), ← nD_dg (by omega), ← nD_dg (by omega), ← nD_dg (by omega)]
  let a : F q := dg (n / q)
  let b : F q := dg (n % q)
  let k' : F q := dg k
  let u' : F q := dg u
  have ea : PyData.int (n / q : Nat) = nD a := nD_dg hA
  have eb : PyData.int (n % q : Nat) = nD b := nD_dg hB
  have ek : PyData.int k = nD k' := nD_dg hk
  have eu : PyData.int u = nD u' := nD_dg u2
  have ec : PyData.int c = nD (dg c : F q) := nD_dg hc
  have ef : PyData.int f0 = nD (dg f0 : F q) := nD_dg hf
  have hu0 : u' ≠ 0 := dg_nz u1 u2
  have hab : a = 0 → b ≠ 0 := fun z1 z2 => by
    have e1 := congrArg F.v z1
    have e2 := congrArg F.v z2
    rw [dg_v, F.zero_v, Nat.mod_eq_of_lt hA] at e1
    rw [dg_v, F.zero_v, Nat.mod_eq_of_lt hB] at e2
    have := Nat.div_add_mod n q
    rw [e1, e2] at this
    omega
  rw [ea, eb, ek, eu, ec, ef]
  refine rk_par (by decide) (by decide) (ak_of (ea2 (ed_call (ea3 (ed_var rfl) (ed_var rfl) (ed_var rfl)) (R_law_by.mk q k' a)) (ed_call (ea3 (ed_var rfl) (ed_var rfl) (ed_var rfl)) (R_law_by.mk q k' b)))) fun ds e => ⟨_, _, e, ?_⟩
  refine rk_if (et_of (et_test (ed_to (ed_op (ed_var (d := nD a) rfl) ed_int rd_eqI) (congrArg PyData.bool dec0)))) (fun z => ?_) (fun z => rk_next ?_)
  · have z : a = 0 := of_decide_eq_true z.symm
    refine rk_ret (ek_one (ed_tup (ea6 (ed_var (d := nD a) rfl) (ed_var (d := nD b) rfl) (ed_var (d := nD (dg c : F q)) rfl) (ed_call (ea3 (ed_var (d := .int q) rfl) (ed_var rfl) (ed_var rfl)) (R_law_plus.mk q (k' * a) u')) (ed_var (d := nD (k' * b)) rfl) (ed_var (d := nD (dg f0 : F q)) rfl)) (le5 rfl)) ⟨⟨a, b, dg c, k' * a + u', k' * b, dg f0⟩, ?_, rfl⟩)
    show a * (k' * b) - b * (k' * a + u') ≠ 0
    have h1 := F.mul_ne (hab z) hu0
    rw [z]
    intro y
    exact h1 (by grind)
  · have z : a ≠ 0 := of_decide_eq_false z.symm
    refine rk_last (rk_ret (ek_one (ed_tup (ea6 (ed_var (d := nD a) rfl) (ed_var (d := nD b) rfl) (ed_var (d := nD (dg c : F q)) rfl) (ed_var (d := nD (k' * a)) rfl) (ed_call (ea3 (ed_var (d := .int q) rfl) (ed_var rfl) (ed_var rfl)) (R_law_plus.mk q (k' * b) u')) (ed_var (d := nD (dg f0 : F q)) rfl)) (le5 rfl)) ⟨⟨a, b, dg c, k' * a, k' * b + u', dg f0⟩, ?_, rfl⟩))
    show a * (k' * b + u') - b * (k' * a) ≠ 0
    have h1 := F.mul_ne z hu0
    intro y
    exact h1 (by grind)
end
end K19

/-! TEXT K19W21 -/
set_option Elab.async false
set_option linter.all false
set_option maxRecDepth 100000
set_option maxHeartbeats 4000000
set_option autoImplicit false
/-! The walks, 21: drawn bends and steps. -/
namespace K19
open PySem PySem.Spec PyProof.Rows L2
open Evl (Ex)
section
variable {K : PySem.W.Frag} {ρ : Ro} {te tn : TE} {tl th : TO} {ds : List PyData} {lo hi : Option Int}
theorem en_slL (h : Ed K te ρ (.list ds)) (h1 : EdO K tl ρ lo) (h2 : EdO K th ρ hi) : EdN K (tSl (rSlL K) te tl th) ρ (cutD ds lo hi) := fun σ D H0 H s sl Q q =>
  h σ D H0 H s sl _ fun v D1 H1 t1 p1 => h1 σ D1 H0 H1 t1.s (sl.mono t1) _ fun D2 H2 t2 => h2 σ D2 H0 H2 t2.s (sl.mono (t1.tr t2)) _ fun D3 H3 t3 => by
    obtain ⟨a, vs, rfl, h1, h2⟩ := dp_lst (dpX (t2.d.trans t3.d) p1)
    exact ⟨a, vs, rfl, Evl.ex_l t3.s h1, fun p hp => q p _ D3 H3 ((t1.tr t2).tr t3) hp (dpA_cut h2 lo hi)⟩
theorem ed_repN {n : Int} (h : EdN K te ρ ds) (hn : Ed K tn ρ (.int n)) (h1 : n ≤ 1000) (h0 : -1000 ≤ n) (hz : ds.length ≤ 10) : Ed K (tOp rRep te tn) ρ (.list (List.replicate n.toNat ds).flatten) := fun σ D H0 H s sl Q q =>
  h σ D H0 H s sl _ fun p vs D1 H1 t1 hp p1 => by
    have t2 := t1.tr (Stp.tmp (o := .lst vs) t1.s hp)
    refine hn σ D1 H0 _ t2.s (sl.mono t2) _ fun v D2 H2 t3 p3 => ?_
    have g : H2 p = some (.lst vs) := t3.h p _ upd_same
    have hm : vs.length * n.toNat ≤ 10 * 1000 := Nat.mul_le_mul (by rw [dpA_len p1]; exact hz) (by omega)
    refine ⟨p, n, vs, rfl, dp_int p3, g, by omega, by omega, sz100 (by omega), fun c hc => ?_⟩
    exact q (.ref c) _ _ ((t2.tr t3).tr (Stp.new (t2.tr t3).s hc)) (.lst (SqL.of upd_same) (dpA (Ex.new (Evl.fresh_back (t2.tr t3).s hc)) (dpA_repF (dpA t3.d p1) n.toNat)))
end
theorem cut_one (ds : List PyData) : cutD ds none (some 1) = ds.take 1 := by
  cases ds with
  | nil => rfl
  | cons d ds => exact take_cut (α := Unit) (d :: ds) 1 (by rw [List.length_cons]; omega)
inductive R_law_bend : List PyData → Sx → Prop
  | mk (q : Nat) [Fld q] : R_law_bend [.int q] (fun d => ∃ b : List (F q), Bend b ∧ d = tD b)
inductive R_law_step : List PyData → Sx → Prop
  | mk (q : Nat) [Fld q] (n : Nat) (h : n ≤ 3) : R_law_step [.int q, .int n] (fun d => ∃ s : ST q, s.Ok ∧ s.bends.length = n ∧ d = sD s)
section
variable {q : Nat} [Fld q]
/-- a list of data of a kind -/
theorem lD_of : ∀ {ds : List PyData}, (∀ d ∈ ds, below q d) → ∃ xs : List (F q), ds = xs.map nD
  | [], _ => ⟨[], rfl⟩
  | d :: ds, h => by
    obtain ⟨k, hk, rfl⟩ := h d List.mem_cons_self
    obtain ⟨xs, rfl⟩ := lD_of fun e he => h e (List.mem_cons_of_mem _ he)
    exact ⟨dg k :: xs, by rw [List.map_cons, ← nD_dg hk]⟩
theorem bD_of : ∀ {ds : List PyData}, (∀ d ∈ ds, ∃ b : List (F q), Bend b ∧ d = tD b) → ∃ bs : List (List (F q)), (∀ b ∈ bs, Bend b) ∧ ds = bs.map tD
  | [], _ => ⟨[], fun b hb => absurd hb List.not_mem_nil, rfl⟩
  | d :: ds, h => by
    obtain ⟨b, hb, rfl⟩ := h d List.mem_cons_self
    obtain ⟨bs, h2, rfl⟩ := bD_of fun e he => h e (List.mem_cons_of_mem _ he)
    exact ⟨b :: bs, fun c hc => by
      rcases List.mem_cons.mp hc with rfl | hc
      · exact hb
      · exact h2 c hc, rfl⟩
theorem bend_mk (xs : List (F q)) (h : xs.length ≤ 4) {u : F q} (hu : u ≠ 0) : Bend ([0, 0] ++ xs ++ [u]) := by
  have hl : ([0, 0] ++ xs ++ [u]).length = xs.length + 3 := by simp
  refine ⟨by omega, by omega, rfl, rfl, ?_⟩
  rw [hl]
  show ([0, 0] ++ xs ++ [u]).getD (xs.length + 3 - 1) 0 ≠ 0
  rw [List.getD_eq_getElem?_getD, List.getElem?_append_right (by simp)]
  simp
  exact hu
end
section
variable {P : Program} {w : World} {K : PySem.W.Frag} {mg : Str → Option Value} {base : Heap}
abbrev N_law_bend : List Str := ["_law_deck_here", "_law_q", "_law_size_here", "_law_way", "_law_some", "_law_turn", "_law_at", "_law_x"]
theorem sc_law_bend : FnScope N_law_bend ["_law_deck_here", "_law_q"] (defScope s_law_bend) := ⟨rfl, rfl, rfl, by decide +kernel, rfl, by decide +kernel, by decide +kernel⟩
theorem ok_law_bend (T : Top K mg) : Has P w K mg base 3 "_law_bend" ["_law_deck_here", "_law_q"] (spDk K R_law_bend) := by
  obtain ⟨f, fd, g, Fd⟩ := T.def_ 79 d_law_bend rfl
  have nd := sc_law_bend.nd
  have h_law_draw := ok_law_draw (P := P) (w := w) (base := base) T
  have h_law_pick := ok_law_pick (P := P) (w := w) (base := base) T
  refine has_ofK g Fd sc_law_bend (fun _ _ _ _ _ _ us hl => match us, hl with | [_, _], _ => rfl) (fun _ _ h => by cases h <;> rfl) fun cdv A outer s H E hr ds d h => ?_
  refine ⟨_, (pss_cons (ps_par (i := 2) (j := 3) rfl nd rfl rfl (by decide) rfl rfl (pa_cons (pe_callH h_law_pick hr (by decide) rfl (pa_cons (pv 0) (pa_cons (pe_tup (pa_cons pe_int (pa_cons pe_int (pa_cons pe_int (pa_cons pe_int (pa_cons pe_int (pa_cons pe_int (pa_cons pe_int (pa_cons pe_int pa_nil))))))))) pa_nil))) (pa_cons (pe_callH h_law_draw hr (by decide) rfl (pa_cons (pv 0) (pa_cons pe_int pa_nil))) pa_nil)) rfl) (pss_cons (ps_setLc (i := 4) (own := [("_law_turn", 5)]) rfl nd rfl rfl (sw_true rfl rfl rfl (by decide +kernel)) (pi_range1 rfl (T.free 9 _ rfl) (pa_cons (pe_op op_sub (pv 2) pe_int) pa_nil)) (blkOk_by (own := [("_law_turn", 5)]) (N := N_law_bend) (sc := defScope s_law_bend) (by decide +kernel)) (fun _ _ _ _ _ => (pg_name (i := 5) nd rfl (Or.inl rfl))) (fun _ _ _ _ _ => pts_nil) (fun _ _ _ _ _ => (pe_callH h_law_draw hr (by decide) rfl (pa_cons (pv 0) (pa_cons (pv 1) pa_nil))))) (pss_cons (ps_if (pt_cmpR op_eq (pv 3) pe_int (nomark _)) (pss_one (ps_setLc (i := 4) (own := [("_law_at", 6), ("_law_x", 7)]) rfl nd rfl rfl (sw_true rfl rfl rfl (by decide +kernel)) (pi_enum rfl (T.free 3 _ rfl) (pa_cons (pv 4) pa_nil)) (blkOk_by (own := [("_law_at", 6), ("_law_x", 7)]) (N := N_law_bend) (sc := defScope s_law_bend) (by decide +kernel)) (fun _ _ _ _ _ => (pg_tupK (K := K) (n := 2) rfl rfl (pgs_cons (pg_name (i := 6) nd rfl (Or.inl rfl)) (pgs_cons (pg_name (i := 7) nd rfl (Or.inl rfl)) pgs_nil)))) (fun _ _ _ _ _ => pts_nil) (fun _ _ _ _ _ => (pe_ifExp (pt_cmpR op_eq (pv 6) pe_int (nomark _)) (pv 7) pe_int)))) pss_nil) (pss_one (ps_ret (pe_op op_catA (pe_op op_catA (pe_tup (pa_cons pe_int (pa_cons pe_int pa_nil))) (pe_callTy call_tuple_of rfl (T.free 13 _ rfl) boot_tuple (pa_cons (pv 4) pa_nil))) (pe_tup (pa_cons (pe_op op_add pe_int (pe_callH h_law_draw hr (by decide) rfl (pa_cons (pv 0) (pa_cons (pe_op op_sub (pv 1) pe_int) pa_nil)))) pa_nil)))))))), ?_⟩
  cases h with
  | mk q =>
  have hq := q_bd (q := q)
  have em : ∀ {ρ : Ro}, ρ[1]? = some (.dat (.int q)) → Ed K (tOp (rI0 fun i j => .int (i - j)) (tVar 1) (tC (.int 1))) ρ (.int ((q - 1 : Nat) : Int)) := fun h => ed_to (ed_op (ed_var h) ed_int (rd_I0 fun _ => .int _)) (congrArg PyData.int qm1)
  refine rk_par (by decide) (by decide) (ak2 (S1 := fun d => ∃ z : Nat, 1 ≤ z ∧ z ≤ 5 ∧ d = .int z) ((ek_pick (ds := [1, 2, 1, 3, 1, 4, 2, 5].map fun n : Nat => PyData.int n) (ed_tup (ea_cons ed_int (ea_cons ed_int (ea6 ed_int ed_int ed_int ed_int ed_int ed_int))) (le5 rfl)) (by decide) (by decide)).to fun d hd => ?_) (ek_draw (n := 3) ed_int (by decide) (by decide))) fun ds ⟨x, y, hd, ⟨z, z1, z2, hx⟩, way, _, hy⟩ => ⟨x, y, hd, ?_⟩
  · obtain ⟨n, hn, rfl⟩ := List.mem_map.mp hd
    exact ⟨n, (by decide : ∀ n ∈ [1, 2, 1, 3, 1, 4, 2, 5], 1 ≤ n) n hn, (by decide : ∀ n ∈ [1, 2, 1, 3, 1, 4, 2, 5], n ≤ 5) n hn, rfl⟩
  subst hx
  subst hy
  refine rk_set (S := fun d => ∃ xs : List (F q), xs.length ≤ 4 ∧ d = lD xs) (by decide) ((ek_lcm (S := below q) (by decide) (ei_range1 (n := (z : Int) - 1) (ea1 (ed_op (ed_var (d := .int z) rfl) ed_int (rd_I0 fun _ => .int _))) (by omega) (by omega)) (by rw [rgD_len]; omega) fun j x hx => ⟨_, _, bd_name, fun a ha => ha, ek_draw (n := q) (ed_var rfl) (by omega) (by omega)⟩).to fun d ⟨ds, e1, e2, e3⟩ => ?_) fun d ⟨xs, hxs, hd⟩ => ?_
  · obtain ⟨xs, rfl⟩ := lD_of e3
    refine ⟨xs, ?_, e1⟩
    rw [List.length_map, rgD_len] at e2
    omega
  subst hd
  have fin : ∀ (xs : List (F q)) (ρ1 : Ro), xs.length ≤ 4 → ρ1[1]? = some (.dat (.int q)) → ρ1[4]? = some (.dat (lD xs)) → RunK 0 K (tRet (tOp (rCatA K) (tOp (rCatA K) (tTup (tCons (tC (.int 0)) (tCons (tC (.int 0)) tNil))) (tCB (fun xs H Q => ∃ p ys, xs = [.ref p] ∧ ((SqL K H p ys ∧ ∀ l, H l = none → Q (.ref l) (upd H l (.tup ys))) ∨ (SqT K H p ys ∧ Q (.ref p) H))) (tCons (tVar 4) tNil))) (tTup (tCons (tOp (rI0 fun i j => .int (i + j)) (tC (.int 1)) (tCall (spDk K R_law_draw) [] E0 (tCons (tVar 0) (tCons (tOp (rI0 fun i j => .int (i - j)) (tVar 1) (tC (.int 1))) tNil)))) tNil)))) ρ1 (.rt (fun d => ∃ b : List (F q), Bend b ∧ d = tD b)) := fun xs ρ1 hxs h1 h4 => by
    refine rk_last (rk_ret (ek_op (ek_of (ed_op (ed_tup (ea2 ed_int ed_int) (le5 rfl)) (ed_cb (ea1 (ed_var h4)) rc_tupL) (rd_catT (by rw [List.length_map]; show 2 + _ ≤ _; omega)))) (ek_tup (ak1 (ek_draw1 (n := q - 1) (em h1) (by omega) (by omega))) fun ds ⟨d, hd, _⟩ => by subst hd; exact le5 rfl) fun x y hx ⟨ds, ⟨d, hd, u, u1, u2, hu⟩, hy⟩ => ?_))
    subst hx hy hd hu
    refine ⟨_, rd_catT (by simp; omega), [0, 0] ++ xs ++ [dg u], bend_mk xs hxs (dg_nz u1 (by omega)), ?_⟩
    show PyData.tuple _ = .tuple (List.map nD ([0, 0] ++ xs ++ [dg u]))
    rw [List.map_append, List.map_append]
    show PyData.tuple ([PyData.int 0, PyData.int 0] ++ xs.map nD ++ [PyData.int u]) = .tuple ([nD (0 : F q), nD (0 : F q)] ++ xs.map nD ++ [nD (dg u : F q)])
    rw [nD0, nD_dg (q := q) (by omega : u < q)]
  refine rk_if (et_of (et_test (ed_op (ed_var (d := .int way) rfl) ed_int rd_eqI))) (fun _ => ?_) (fun _ => rk_next (fin xs _ hxs rfl rfl))
  let g : PyData → PyData := fun p => match p with
    | .tuple [.int i, x] => if i = 0 then x else .int 0
    | _ => .none
  refine rk_set (S := fun d => ∃ ys : List (F q), ys.length ≤ 4 ∧ d = lD ys) (by decide) (ek_one (ed_lcm g (ei_enumL (xs := xs.map nD) (ea1 (ed_var rfl))) (by rw [enD_len, List.length_map]; omega) fun j x hx => ?_) ?_) fun d ⟨ys, hys, hd⟩ => ?_
  · obtain ⟨y, hy, rfl⟩ := enD_at hx
    refine ⟨_, _, bd_tup rfl (bds_cons (bds_cons bds_nil)), fun a ha => ha, ?_⟩
    refine ed_if (b := decide (((j : Nat) : Int) = 0)) (et_test (ed_op (ed_var (d := .int (j : Nat)) rfl) ed_int rd_eqI)) (fun e => ?_) (fun e => ?_)
    · have e := of_decide_eq_true e
      refine ed_to (ed_var (d := y) rfl) ?_
      show y = if ((j : Nat) : Int) = 0 then y else .int 0
      rw [if_pos e]
    · have e := of_decide_eq_false e
      refine ed_to ed_int ?_
      show PyData.int 0 = if ((j : Nat) : Int) = 0 then y else .int 0
      rw [if_neg e]
  · refine ⟨xs.mapIdx fun i x => if i = 0 then x else 0, by rw [List.length_mapIdx]; exact hxs, ?_⟩
    congr 1
    apply List.ext_getElem?
    intro j
    unfold enD
    rw [List.getElem?_map, List.getElem?_mapIdx, List.getElem?_map, List.getElem?_map, List.getElem?_mapIdx]
    cases xs[j]? with
    | none => rfl
    | some x =>
      show some (if ((j : Nat) : Int) = 0 then nD x else .int 0) = some (nD (if j = 0 then x else 0))
      by_cases e : j = 0
      · rw [if_pos e, if_pos (by omega)]
      · rw [if_neg e, if_neg (by omega), nD0]
  subst hd
  exact fin ys _ hys rfl rfl
abbrev N_law_step : List Str := ["_law_deck_here", "_law_q", "_law_many", "_law_way", "_law_start", "_law_bends", "_law_turn", "_law_turns"]
theorem sc_law_step : FnScope N_law_step ["_law_deck_here", "_law_q", "_law_many"] (defScope s_law_step) := ⟨rfl, rfl, rfl, by decide +kernel, rfl, by decide +kernel, by decide +kernel⟩
theorem ok_law_step (T : Top K mg) : Has P w K mg base 4 "_law_step" ["_law_deck_here", "_law_q", "_law_many"] (spDk K R_law_step) := by
  obtain ⟨f, fd, g, Fd⟩ := T.def_ 80 d_law_step rfl
  have nd := sc_law_step.nd
  have h_law_map := ok_law_map (P := P) (w := w) (base := base) T
  have h_law_draw := ok_law_draw (P := P) (w := w) (base := base) T
  have h_law_bend := ok_law_bend (P := P) (w := w) (base := base) T
  refine has_ofK g Fd sc_law_step (fun _ _ _ _ _ _ us hl => match us, hl with | [_, _, _], _ => rfl) (fun _ _ h => by cases h <;> rfl) fun cdv A outer s H E hr ds d h => ?_
  refine ⟨_, (pss_cons (ps_set (i := 3) nd rfl (Or.inl rfl) (pe_callH h_law_draw hr (by decide) rfl (pa_cons (pv 0) (pa_cons pe_int pa_nil)))) (pss_cons (ps_set (i := 4) nd rfl (Or.inl rfl) (pe_ifExp (pt_cmpR op_gt (pv 2) pe_int (nomark _)) (pe_op op_sub (pe_callH h_law_draw hr (by decide) rfl (pa_cons (pv 0) (pa_cons (pe_op op_add (pv 1) pe_int) pa_nil))) pe_int) (pe_un un_neg pe_int))) (pss_cons (ps_setLc (i := 5) (own := [("_law_turn", 6)]) rfl nd rfl rfl (sw_true rfl rfl rfl (by decide +kernel)) (pi_range1 rfl (T.free 9 _ rfl) (pa_cons (pv 2) pa_nil)) (blkOk_by (own := [("_law_turn", 6)]) (N := N_law_step) (sc := defScope s_law_step) (by decide +kernel)) (fun _ _ _ _ _ => (pg_name (i := 6) nd rfl (Or.inl rfl))) (fun _ _ _ _ _ => pts_nil) (fun _ _ _ _ _ => (pe_callH h_law_bend hr (by decide) rfl (pa_cons (pv 0) (pa_cons (pv 1) pa_nil))))) (pss_cons (ps_setLc (i := 7) (own := [("_law_turn", 6)]) rfl nd rfl rfl (sw_true rfl rfl rfl (by decide +kernel)) (pi_range1 rfl (T.free 9 _ rfl) (pa_cons (pe_op op_sub (pv 2) pe_int) pa_nil)) (blkOk_by (own := [("_law_turn", 6)]) (N := N_law_step) (sc := defScope s_law_step) (by decide +kernel)) (fun _ _ _ _ _ => (pg_name (i := 6) nd rfl (Or.inl rfl))) (fun _ _ _ _ _ => pts_nil) (fun _ _ _ _ _ => (pe_callH h_law_draw hr (by decide) rfl (pa_cons (pv 0) (pa_cons (pv 1) pa_nil))))) (pss_cons (ps_if (pt_cmpR op_eq (pv 3) pe_int (nomark _)) (pss_one (ps_par (i := 5) (j := 7) rfl nd rfl rfl (by decide) rfl rfl (pa_cons (pe_op op_rep (pe_slice sl_list (pv 5) po_none (po_some pe_int)) (pv 2)) (pa_cons (pe_op op_rep (pe_slice sl_list (pv 7) po_none (po_some pe_int)) (pe_op op_sub (pv 2) pe_int)) pa_nil)) rfl)) pss_nil) (pss_one (ps_ret (pe_tup (pa_cons (pv 4) (pa_cons (pe_callTy call_tuple_of rfl (T.free 13 _ rfl) boot_tuple (pa_cons (pv 5) pa_nil)) (pa_cons (pe_callTy call_tuple_of rfl (T.free 13 _ rfl) boot_tuple (pa_cons (pv 7) pa_nil)) (pa_cons (pe_callH h_law_map hr (by decide) rfl (pa_cons (pv 0) (pa_cons (pv 1) pa_nil))) pa_nil)))))))))))), ?_⟩
  cases h with
  | mk q n hn =>
  have hq := q_bd (q := q)
  refine rk_set (by decide) (ek_draw (n := 4) ed_int (by decide) (by decide)) fun d ⟨way, _, hd⟩ => ?_
  subst hd
  refine rk_set (S := fun d => ∃ r : Option (F q), (n = 0 → r = none) ∧ d = rD r) (by decide) (ek_if (B := fun b => b = decide ((n : Int) > 0)) (et_of (et_test (ed_op (ed_var (d := .int n) rfl) ed_int (rd_I0 fun _ => .bl _)))) (fun e => ?_) (fun e => ?_)) fun d ⟨r, hr0, hd⟩ => ?_
  · have e : (n : Int) > 0 := of_decide_eq_true e.symm
    refine ek_op (ek_draw (n := q + 1) (ed_to (ed_op (ed_var (d := .int q) rfl) ed_int (rd_I0 fun _ => .int _)) (congrArg PyData.int (by omega))) (by omega) (by omega)) (ek_of (ed_int (i := 1))) fun x y ⟨k, hk, hx⟩ hy => ?_
    subst hx hy
    refine ⟨.int ((k : Int) - 1), rd_I0 fun _ => .int _, ?_⟩
    by_cases hk0 : k = 0
    · exact ⟨none, fun _ => rfl, congrArg PyData.int (by show _ = (-1 : Int); omega)⟩
    · refine ⟨some (dg (k - 1)), fun z => by omega, ?_⟩
      show PyData.int _ = .int (((k - 1) % q : Nat) : Int)
      rw [Nat.mod_eq_of_lt (by omega)]
      congr 1
      omega
  · exact ek_one ed_m1 ⟨none, fun _ => rfl, rfl⟩
  subst hd
  refine rk_set (S := fun d => ∃ bs : List (List (F q)), (∀ b ∈ bs, Bend b) ∧ bs.length = n ∧ d = .list (bs.map tD)) (by decide) ((ek_lcm (S := fun d => ∃ b : List (F q), Bend b ∧ d = tD b) (by decide) (ei_range1 (n := n) (ea1 (ed_var rfl)) (by omega) (by omega)) (by rw [rgD_len]; omega) fun j x hx => ⟨_, _, bd_name, fun a ha => ha, ek_callK (ak_of (ea1 (ed_var (d := .int q) rfl))) fun ds e => ⟨_, by rw [e]; exact .mk q, fun d hd => hd⟩⟩).to fun d ⟨ds, e1, e2, e3⟩ => ?_) fun d ⟨bs, hb, hbl, hd⟩ => ?_
  · obtain ⟨bs, h1, rfl⟩ := bD_of e3
    refine ⟨bs, h1, ?_, e1⟩
    rw [List.length_map, rgD_len] at e2
    omega
  subst hd
  refine rk_set (S := fun d => ∃ ts : List (F q), ts.length = n - 1 ∧ d = lD ts) (by decide) ((ek_lcm (S := below q) (by decide) (ei_range1 (n := (n : Int) - 1) (ea1 (ed_op (ed_var (d := .int n) rfl) ed_int (rd_I0 fun _ => .int _))) (by omega) (by omega)) (by rw [rgD_len]; omega) fun j x hx => ⟨_, _, bd_name, fun a ha => ha, ek_draw (n := q) (ed_var rfl) (by omega) (by omega)⟩).to fun d ⟨ds, e1, e2, e3⟩ => ?_) fun d ⟨ts, htl, hd⟩ => ?_
  · obtain ⟨ts, rfl⟩ := lD_of e3
    refine ⟨ts, ?_, e1⟩
    rw [List.length_map, rgD_len] at e2
    omega
  subst hd
  have fin : ∀ (bs : List (List (F q))) (ts : List (F q)) (ρ1 : Ro), (∀ b ∈ bs, Bend b) → bs.length = n → ts.length = n - 1 → ρ1[1]? = some (.dat (.int q)) → ρ1[4]? = some (.dat (rD r)) → ρ1[5]? = some (.dat (.list (bs.map tD))) → ρ1[7]? = some (.dat (lD ts)) → RunK 0 K (tRet (tTup (tCons (tVar 4) (tCons (tCB (fun xs H Q => ∃ p ys, xs = [.ref p] ∧ ((SqL K H p ys ∧ ∀ l, H l = none → Q (.ref l) (upd H l (.tup ys))) ∨ (SqT K H p ys ∧ Q (.ref p) H))) (tCons (tVar 5) tNil)) (tCons (tCB (fun xs H Q => ∃ p ys, xs = [.ref p] ∧ ((SqL K H p ys ∧ ∀ l, H l = none → Q (.ref l) (upd H l (.tup ys))) ∨ (SqT K H p ys ∧ Q (.ref p) H))) (tCons (tVar 7) tNil)) (tCons (tCall (spDk K R_law_map) [] E0 (tCons (tVar 0) (tCons (tVar 1) tNil))) tNil)))))) ρ1 (.rt (fun d => ∃ s : ST q, s.Ok ∧ s.bends.length = n ∧ d = sD s)) := fun bs ts ρ1 k1 k2 k3 h1 h4 h5 h7 => by
    refine rk_last (rk_ret ((ek_tup (ak_cons (ek_of (ed_var h4)) (ak_cons (ek_of (ed_cb (ea1 (ed_var h5)) rc_tupL)) (ak2 (ek_of (ed_cb (ea1 (ed_var h7)) rc_tupL)) (ek_callK (S := fun d => ∃ m : SM q, m.det ≠ 0 ∧ d = mD m) (ak_of (ea1 (ed_var h1))) fun ds e => ⟨_, by rw [e]; exact .mk q, fun d hd => hd⟩)))) fun ds ⟨a, r, e1, _, b, s, e2, _, c, d, e3, _⟩ => by subst e1; subst e2; subst e3; exact le5 rfl).to fun d ⟨ds, ⟨a, s1, e1, ha, b, s2, e2, hb, c, e, e3, hc, m, hm, he⟩, hd⟩ => ?_))
    subst hd e1 e2 e3 ha hb hc he
    exact ⟨⟨r, bs, ts, m⟩, ⟨k1, hm, by rw [k3, k2], fun z => hr0 (by rw [← k2]; exact congrArg List.length z)⟩, k2, rfl⟩
  refine rk_if (et_of (et_test (ed_op (ed_var (d := .int way) rfl) ed_int rd_eqI))) (fun _ => ?_) (fun _ => rk_next (fin bs ts _ hb hbl htl rfl rfl rfl rfl))
  have rep : ∀ {α : Type} (f : α → PyData) (xs : List α) (k : Nat), (List.replicate k ((xs.map f).take 1)).flatten = ((List.replicate k (xs.take 1)).flatten).map f := fun f xs k => by
    rw [← List.map_take, List.map_flatten, List.map_replicate]
  have rlen : ∀ {α : Type} (xs : List α) (k : Nat), (k = 0 ∨ 0 < xs.length) → ((List.replicate k (xs.take 1)).flatten).length = k := fun xs k h => by
    rw [List.length_flatten, List.map_replicate, List.sum_replicate_nat, List.length_take]
    rcases h with h | h
    · rw [h, Nat.zero_mul]
    · rw [Nat.min_eq_left (by omega), Nat.mul_one]
  refine rk_par (by decide) (by decide) (ak_of (ea2 (ed_repN (n := n) (en_slL (ed_var (d := .list (bs.map tD)) rfl) eo_none (eo_some ed_int)) (ed_var (d := .int n) rfl) (by omega) (by omega) (by rw [cut_one, List.length_take]; omega)) (ed_repN (n := (n : Int) - 1) (en_slL (ed_var (d := lD ts) rfl) eo_none (eo_some ed_int)) (ed_op (ed_var (d := .int n) rfl) ed_int (rd_I0 fun _ => .int _)) (by omega) (by omega) (by rw [cut_one, List.length_take]; omega)))) fun ds e => ⟨_, _, e, ?_⟩
  rw [cut_one, cut_one, rep tD bs, rep nD ts]
  refine fin _ _ _ (fun b hb2 => ?_) ?_ ?_ rfl rfl rfl rfl
  · obtain ⟨l, h1, h2⟩ := List.mem_flatten.mp hb2
    rw [List.eq_of_mem_replicate h1] at h2
    exact hb b (List.mem_of_mem_take h2)
  · rw [rlen _ _ (by omega)]
    omega
  · rw [rlen _ _ (by omega)]
    omega
end
end K19

/-! TEXT K19W22 -/
set_option Elab.async false
set_option linter.all false
set_option maxRecDepth 100000
set_option maxHeartbeats 4000000
set_option autoImplicit false
/-! The walks, 22: calls by name. -/
namespace K19
open PySem PySem.Spec PyProof.Rows L2
open Evl (Ex)
abbrev GV := List Value → List Value → List Value
abbrev GW := List V → List V → List V
structure HasKw (P : Program) (w : World) (K : PySem.W.Frag) (mg : Str → Option Value) (base : Heap) (k : Nat) (x : Str) (ps ks : List Str) (g : GV) (gV : GW) (sp : Sp) : Prop where
  ex : ∃ f fd, mg x = some (.ref f) ∧ PySem.W.keepIn K (.ref f) = true ∧ KBinds K fd ps ks g gV ∧ FnOk P w K mg base CX0 k f fd ps sp
section
variable {X : Cx} {k j : Nat} {x : Str} {p pos : Pos} {e : Expr} {es : List Expr} {kws : List Keyword} {t tk : TA} {ps ks : List Str} {g : GV} {gV : GW} {sp : Sp}
theorem pe_callKW (h : HasKw X.prog X.w X.K X.mg X.base k x ps ks g gV sp) (hr : Room j X.A) (hj : k ≤ j) (hg : Gl X x) (ha : PA X (e :: es) t) (hkw : PK X kws tk)
    (hks : (backToKw pos (keywordEach kws X.env)).filterMap (·.1) = ks := by rfl) (hall : (backToKw pos (keywordEach kws X.env)).all (·.1.isSome) = true := by rfl)
    (hdb : (x == ("__debug__" : Str)) = false := by decide) (he : starEach (e :: es) X.env = (false, eval e X.env) :: starEach es X.env := by rfl)
    (hpl : ((backTo pos (starEach (e :: es) X.env)).any (·.1) || (backToKw pos (keywordEach kws X.env)).any (·.1.isNone)) = false := by rfl) : PE X (.Call (.Name x p) (e :: es) kws pos) (tCallK sp gV E0 t tk) := by
  obtain ⟨f, fd, h1, h2, h3, h4⟩ := h.ex
  exact pe_callK h4 (hr.mono hj) hg h1 h2 h3 pass0 ha hkw hall hks hdb he hpl
def tCallK0 (sp : Sp) (gV : GW) (E : XK) (tk : TA) : TE := fun σ H Q => tk σ H fun zs H1 => sp (gV [] zs) H1 Q E
theorem pe_callKW0 (h : HasKw X.prog X.w X.K X.mg X.base k x ps ks g gV sp) (hr : Room j X.A) (hj : k ≤ j) (hg : Gl X x) (hkw : PK X kws tk)
    (hks : (backToKw pos (keywordEach kws X.env)).filterMap (·.1) = ks := by rfl) (hall : (backToKw pos (keywordEach kws X.env)).all (·.1.isSome) = true := by rfl)
    (hdb : (x == ("__debug__" : Str)) = false := by decide) (hpl : ((backTo pos (starEach [] X.env)).any (·.1) || (backToKw pos (keywordEach kws X.env)).any (·.1.isNone)) = false := by rfl) : PE X (.Call (.Name x p) [] kws pos) (tCallK0 sp gV E0 tk) := by
  obtain ⟨f, fd, h1, h2, h3, F⟩ := h.ex
  refine ⟨fun pins s σ H Q I q => wpAny_Call_Name_kw (ld_glob I hg h1 ?_ hdb)⟩
  refine PySem.W.callWith_KW0 (h₀ := X.base) I.ok.mod.kin h2 hall (thn (hkw.run pos pins s σ H _ I q) fun ws t1 ⟨zs, H1, I1, rz, hs⟩ => ⟨I1.kIn, ?_⟩) hpl
  rw [hks]
  exact run_fnk (us := []) F (hr.mono hj) h3 pass0 I1 .nil rz hs
end
section
variable {K : PySem.W.Frag} {ρ : Ro} {t tk : TA} {gV : GW} {ds es fs : List PyData} {d : PyData} {R : List PyData → PyData → Prop} {E : XK}
theorem ed_callKW (h : EdA K t ρ ds) (hk : EdA K tk ρ es) (hV : ∀ (D : Hp) vs zs, DpAll K D vs ds → DpAll K D zs es → DpAll K D (gV vs zs) fs) (hR : R fs d) : Ed K (tCallK (spR K R) gV E t tk) ρ d := fun σ D H0 H s sl Q q =>
  h σ D H0 H s sl _ fun vs D1 H1 t1 p1 => hk σ D1 H0 H1 t1.s (sl.mono t1) _ fun zs D2 H2 t2 p2 => ⟨fs, d, D2, hR, t2.s, hV D2 vs zs (dpA t2.d p1) p2, fun v D' H' t' p' => q v D' H' ((t1.tr t2).tr t') p'⟩
theorem ed_callKW0 (hk : EdA K tk ρ es) (hV : ∀ (D : Hp) zs, DpAll K D zs es → DpAll K D (gV [] zs) fs) (hR : R fs d) : Ed K (tCallK0 (spR K R) gV E tk) ρ d := fun σ D H0 H s sl Q q =>
  hk σ D H0 H s sl _ fun zs D2 H2 t2 p2 => ⟨fs, d, D2, hR, t2.s, hV D2 zs p2, fun v D' H' t' p' => q v D' H' (t2.tr t') p'⟩
end
def g12 {α : Type} (us ws : List α) : List α := match us, ws with
  | [q], [o, n] => [q, n, o]
  | _, _ => []
def g02 {α : Type} (us ws : List α) : List α := match us, ws with
  | [], [s, q] => [q, s]
  | _, _ => []
theorem g12_rel {vs : List V} {us : List Value} {zs : List V} {ws : List Value} (h1 : Vals vs us) (h2 : Vals zs ws) : Vals (g12 vs zs) (g12 us ws) := by
  cases h1 with
  | nil => exact .nil
  | cons a t =>
    cases t with
    | cons => exact .nil
    | nil =>
      cases h2 with
      | nil => exact .nil
      | cons b t =>
        cases t with
        | nil => exact .nil
        | cons c t =>
          cases t with
          | nil => exact .cons a (.cons c (.cons b .nil))
          | cons => exact .nil
theorem g02_rel {vs : List V} {us : List Value} {zs : List V} {ws : List Value} (h1 : Vals vs us) (h2 : Vals zs ws) : Vals (g02 vs zs) (g02 us ws) := by
  cases h1 with
  | cons a t => exact .nil
  | nil =>
    cases h2 with
    | nil => exact .nil
    | cons b t =>
      cases t with
      | nil => exact .nil
      | cons c t =>
        cases t with
        | nil => exact .cons c (.cons b .nil)
        | cons => exact .nil
theorem g12_dp {K : PySem.W.Frag} {D : Hp} {a b c : PyData} {vs zs : List V} (h1 : DpAll K D vs [a]) (h2 : DpAll K D zs [b, c]) : DpAll K D (g12 vs zs) [a, c, b] := by
  obtain ⟨v, rfl, pv⟩ := dpA1 h1
  obtain ⟨u, w, rfl, pu, pw⟩ := dpA2 h2
  exact .cons pv (.cons pw (.cons pu .nil))
theorem g02_dp {K : PySem.W.Frag} {D : Hp} {b c : PyData} {zs : List V} (h2 : DpAll K D zs [b, c]) : DpAll K D (g02 [] zs) [c, b] := by
  obtain ⟨u, w, rfl, pu, pw⟩ := dpA2 h2
  exact .cons pw (.cons pu .nil)
section
variable {P : Program} {w : World} {K : PySem.W.Frag} {mg : Str → Option Value} {base : Heap}
theorem has_ofKw {x : Str} {params : Arguments} {body : List Stmt} {scope : Scope} {f : Addr} {fd : FuncData} {N ps ks : List Str} {k : Nat} {R : List PyData → PyData → Prop} {gc : GV} {gV : GW} (g : mg x = some (.ref f)) (F : FunD K x x params body scope [] [] f fd) (S : FnScope N ps scope)
    (hrel : ∀ {vs : List V} {us : List Value} {zs : List V} {ws : List Value}, Vals vs us → Vals zs ws → Vals (gV vs zs) (gc us ws))
    (hb : ∀ (kV doc pm : Value) (an : Option Addr) (cdv ct : Value) (us ws : List Value), (gc us ws).length = ps.length → bindArgs (PySem.W.fnOf x x params body scope .none kV doc pm an cdv ct) ⟨us, ks.zip ws⟩ = pure (ps.zip (gc us ws)))
    (hl : ∀ ds d, R ds d → ds.length = ps.length)
    (hbody : ∀ (cdv : Value) (A : Around) (outer : List Env) (s : Shared) (H : Hp) (E : XK), Room k (A.deeper (envOfC x scope s.heap.objs.size f cdv)) → ∀ ds d, R ds d →
      ∃ t, PSs (cxOf CX0 P w K mg base N x scope f cdv A outer s H E).nox body t ∧ Run K t (startR N ds) (.rt d)) : HasKw P w K mg base (k + 1) x ps ks gc gV (spR K R) := by
  refine ⟨f, fd, g, F.kp, ⟨fun s us ws _ hlen => ?_, hrel⟩, F.ok S (fun vs H Q E h => ?_) fun cdv A outer s H vs Q E hr h => ?_⟩
  · obtain ⟨oc, od, dV, kV, doc, pm, an, cdv, ct, osl, rfl, lk, hc, hD, _⟩ := F.ex
    rcases hD with ⟨_, rfl⟩ | ⟨z, _⟩
    · exact .of_eq (hb kV doc pm an cdv ct us ws hlen)
    · exact absurd rfl z
  · obtain ⟨ds, d, D, h1, _, h3, _⟩ := h
    rw [dpA_len h3]
    exact hl ds d h1
  · obtain ⟨ds, d, D, h1, h2, h3, h4⟩ := h
    obtain ⟨t, p1, p2⟩ := hbody cdv A outer s H E hr ds d h1
    exact ⟨t, p1.nox, p2 (L2.start N vs) H D H _ (Stp.rfl' h2) (sl_start h3) h4⟩
theorem okk_product (T : Top K mg) : HasKw P w K mg base 9 "product" ["q", "one", "other"] ["other", "one"] g12 g12 (spR K R_product) := by
  obtain ⟨f, fd, g, Fd⟩ := T.def_ 60 d_product rfl
  have nd := sc_product.nd
  have h_then := ok_then (P := P) (w := w) (base := base) T
  have h_check_step := ok_check_step (P := P) (w := w) (base := base) T
  refine has_ofKw g Fd sc_product g12_rel (fun _ _ _ _ _ _ us ws hl => match us, ws, hl with | [_], [_, _], _ => rfl) (fun _ _ h => by cases h <;> rfl) fun cdv A outer s H E hr ds d h => ?_
  refine ⟨_, (pss_cons (ps_expr (pe_callH h_check_step hr (by decide) rfl (pa_cons (pv 0) (pa_cons (pv 1) pa_nil)))) (pss_cons (ps_expr (pe_callH h_check_step hr (by decide) rfl (pa_cons (pv 0) (pa_cons (pv 2) pa_nil)))) (pss_one (ps_ret (pe_callH h_then hr (by decide) rfl (pa_cons (pv 0) (pa_cons (pv 1) (pa_cons (pv 2) pa_nil)))))))), ?_⟩
  cases h with
  | mk q x y hx hy h1 h2 =>
  exact run_drop (ed_call (ea2 (ed_var rfl) (ed_var rfl)) (R_check_step.mk q x hx (by omega))) (run_drop (ed_call (ea2 (ed_var rfl) (ed_var rfl)) (R_check_step.mk q y hy (by omega))) (run_last (run_ret (ed_call (ea3 (ed_var rfl) (ed_var rfl) (ed_var rfl)) (R_then.mk q x y hx hy h1 h2)))))
theorem okk_degrees_of (T : Top K mg) : HasKw P w K mg base 9 "degrees_of" ["q", "step"] ["step", "q"] g02 g02 (spR K R_degrees_of) := by
  obtain ⟨f, fd, g, Fd⟩ := T.def_ 63 d_degrees_of rfl
  have nd := sc_degrees_of.nd
  have h_bend_degrees := ok_bend_degrees (P := P) (w := w) (base := base) T
  have h_check_step := ok_check_step (P := P) (w := w) (base := base) T
  refine has_ofKw g Fd sc_degrees_of g02_rel (fun _ _ _ _ _ _ us ws hl => match us, ws, hl with | [], [_, _], _ => rfl) (fun _ _ h => by cases h <;> rfl) fun cdv A outer s H E hr ds d h => ?_
  refine ⟨_, (pss_cons (ps_expr (pe_callH h_check_step hr (by decide) rfl (pa_cons (pv 0) (pa_cons (pv 1) pa_nil)))) (pss_one (ps_ret (pe_callH h_bend_degrees hr (by decide) rfl (pa_cons (pv 1) pa_nil))))), ?_⟩
  cases h with
  | mk q s hs hl =>
  exact run_drop (ed_call (ea2 (ed_var rfl) (ed_var rfl)) (R_check_step.mk q s hs (by omega))) (run_last (run_ret (ed_call (ea1 (ed_var rfl)) (R_bend_degrees.mk q s hl))))
theorem okk_determinant_of (T : Top K mg) : HasKw P w K mg base 9 "determinant_of" ["q", "step"] ["step", "q"] g02 g02 (spR K R_determinant_of) := by
  obtain ⟨f, fd, g, Fd⟩ := T.def_ 65 d_determinant_of rfl
  have nd := sc_determinant_of.nd
  have h_step_determinant := ok_step_determinant (P := P) (w := w) (base := base) T
  have h_check_step := ok_check_step (P := P) (w := w) (base := base) T
  refine has_ofKw g Fd sc_determinant_of g02_rel (fun _ _ _ _ _ _ us ws hl => match us, ws, hl with | [], [_, _], _ => rfl) (fun _ _ h => by cases h <;> rfl) fun cdv A outer s H E hr ds d h => ?_
  refine ⟨_, (pss_cons (ps_expr (pe_callH h_check_step hr (by decide) rfl (pa_cons (pv 0) (pa_cons (pv 1) pa_nil)))) (pss_one (ps_ret (pe_callH h_step_determinant hr (by decide) rfl (pa_cons (pv 0) (pa_cons (pv 1) pa_nil)))))), ?_⟩
  cases h with
  | mk q s hs hl =>
  exact run_drop (ed_call (ea2 (ed_var rfl) (ed_var rfl)) (R_check_step.mk q s hs (by omega))) (run_last (run_ret (ed_call (ea2 (ed_var rfl) (ed_var rfl)) (R_step_determinant.mk q s))))
end
/-! ### l.count(n) in a comprehension -/
section
variable {X : Cx} {K : PySem.W.Frag} {o e : Expr} {apos cpos : Pos} {to : TE} {t : TA}
theorem pe_countK (hK : X.K = K) (ho : PE X o to) (ha : PA X [e] t) (y1 : attributeBase o "count" X.env (eval o X.env) = eval o X.env := by rfl) (y2 : ((backTo cpos (starEach [e] X.env)).all (fun x => !x.1) && (backToKw cpos (keywordEach [] X.env)).all (fun x => x.1.isSome) && decide (([e] : List Expr).length + ([] : List Keyword).length + (if ([] : List Keyword).isEmpty then 0 else 1) < 30)) = true := by rfl)
    (y3 : (apos.endLine == cpos.line) = true := by rfl) (y4 : starEach [e] X.env = (false, eval e X.env) :: starEach [] X.env := by rfl) (y5 : (backTo cpos (starEach [] X.env)).any (·.1) = false := by rfl) : PE X (.Call (.Attribute o "count" apos) [e] [] cpos) (tBM K "list" (rCntI K) to t) := by
  subst hK
  exact pe_bm PySem.F.plainAttrs_list PySem.F.slot_list_count PySem.F.type_list_count mt_lcount ho ha y1 y2 y3 y4 y5
theorem op_neDK (hK : X.K = K) (hu : X.A.units + 64 < cLine) : OpR X (compareOp .NotEq) (rNeD K) := by
  subst hK
  exact op_neD hu
end
end K19

/-! TEXT K19W23 -/
set_option Elab.async false
set_option linter.all false
set_option maxRecDepth 100000
set_option maxHeartbeats 4000000
set_option autoImplicit false
/-! The walks, 23: a block of steps. -/
namespace K19
open PySem PySem.Spec PyProof.Rows L2
open Evl (Ex)
/-! ### counts, data of steps -/
section
variable {K : PySem.W.Frag} {ρ : Ro} {ta tb : TE}
theorem ed_count {ns : List Int} {k : Int} (h : Ed K ta ρ (.list (ns.map PyData.int))) (hk : Ed K tb ρ (.int k)) : Ed K (tBM K "list" (rCntI K) ta (tCons tb tNil)) ρ (.int (ns.count k : Nat)) := fun σ D H0 H s sl Q q =>
  h σ D H0 H s sl _ fun v D1 H1 t1 p1 => by
    obtain ⟨a, xs, rfl, hq, hx⟩ := dp_lst p1
    refine ⟨.inl ⟨rfl, _, Evl.ex_l t1.s hq⟩, hk σ D1 H0 H1 t1.s (sl.mono t1) _ fun u D2 H2 t2 p2 => ?_⟩
    have e := dpA_ints hx
    subst e
    exact ⟨a, ns, k, rfl, by rw [dp_int p2], Evl.ex_l (t2.d.trans t2.s) hq, q _ D2 H2 (t1.tr t2) (.int _)⟩
end
section
variable {q : Nat} [Fld q]
theorem nD_inj {a b : F q} (h : nD a = nD b) : a = b := by
  injection h with h
  exact F.ext' (by omega)
theorem map_inj {α : Type} {f : α → PyData} (hf : ∀ a b, f a = f b → a = b) : ∀ {xs ys : List α}, xs.map f = ys.map f → xs = ys
  | [], [], _ => rfl
  | [], _ :: _, h => by cases h
  | _ :: _, [], h => by cases h
  | x :: xs, y :: ys, h => by
    rw [List.map_cons, List.map_cons, List.cons.injEq] at h
    rw [hf x y h.1, map_inj hf h.2]
theorem tD_inj {x y : List (F q)} (h : tD x = tD y) : x = y := by
  injection h with h
  exact map_inj (fun _ _ => nD_inj) h
theorem bD_inj {x y : List (List (F q))} (h : bD x = bD y) : x = y := by
  injection h with h
  exact map_inj (fun _ _ => tD_inj) h
theorem oI_inj {x y : Option (F q)} (h : oI x = oI y) : x = y := by
  cases x with
  | none =>
    cases y with
    | none => rfl
    | some b =>
      have h : (-1 : Int) = ((b.v : Nat) : Int) := h
      omega
  | some a =>
    cases y with
    | none =>
      have h : ((a.v : Nat) : Int) = -1 := h
      omega
    | some b =>
      have h : ((a.v : Nat) : Int) = ((b.v : Nat) : Int) := h
      rw [F.ext' (show a.v = b.v by omega)]
theorem mD_inj {x y : SM q} (h : mD x = mD y) : x = y := by
  obtain ⟨a, b, c, d, e, f⟩ := x
  obtain ⟨a', b', c', d', e', f'⟩ := y
  have h : [nD a, nD b, nD c, nD d, nD e, nD f] = [nD a', nD b', nD c', nD d', nD e', nD f'] := by injection h
  simp only [List.cons.injEq] at h
  obtain ⟨h1, h2, h3, h4, h5, h6, _⟩ := h
  rw [nD_inj h1, nD_inj h2, nD_inj h3, nD_inj h4, nD_inj h5, nD_inj h6]
theorem sD_inj {x y : ST q} (h : sD x = sD y) : x = y := by
  obtain ⟨a, b, c, d⟩ := x
  obtain ⟨a', b', c', d'⟩ := y
  have h : [rD a, bD b, tD c, mD d] = [rD a', bD b', tD c', mD d'] := by injection h
  simp only [List.cons.injEq] at h
  obtain ⟨h1, h2, h3, h4, _⟩ := h
  have e1 : rD a = rD a' := h1
  injection e1 with e1
  rw [bD_inj h2, tD_inj h3, mD_inj h4, oI_inj e1]
theorem nst_tup {n : Nat} {ds : List PyData} (h : ∀ d ∈ ds, Nst n d) : Nst (n + 1) (.tuple ds) := h
theorem nst_tD {n : Nat} (xs : List (F q)) : Nst (n + 1) (tD xs) := nst_tup fun d hd => by
  obtain ⟨a, _, rfl⟩ := List.mem_map.mp hd
  exact nst_int
theorem nst_sD (s : ST q) : Nst 8 (sD s) := nst_tup fun d hd => by
  simp only [List.mem_cons, List.not_mem_nil, or_false] at hd
  rcases hd with rfl | rfl | rfl | rfl
  · exact nst_int
  · exact nst_tup fun d hd => by
      obtain ⟨a, _, rfl⟩ := List.mem_map.mp hd
      exact nst_tD a
  · exact nst_tD _
  · exact nst_tD [s.last.a, s.last.b, s.last.c, s.last.d, s.last.e, s.last.f]
theorem key_sD {x y : ST q} (h : keyD (sD x) = keyD (sD y)) : x = y := sD_inj (key_inj 8 _ _ (nst_sD x) (nst_sD y) h)
/-! ### what can be shown -/
theorem sh_nD (a : F q) : Sh 2000 (nD a) := sh_small (Nat.lt_trans (Nat.lt_of_lt_of_le a.h (q_bd (q := q)).2.1) (by decide))
theorem say_tD (xs : List (F q)) (h : xs.length ≤ 5000) : Say (tD xs) := Sh.tup (n := xs.length * 2002 + 3) (by
  have z := sh_tup (n := 2000) (ds := xs.map nD) fun d hd => by
    obtain ⟨a, _, rfl⟩ := List.mem_map.mp hd
    exact sh_nD a
  rw [len_tD] at z
  exact z) (by omega) (fl_tD (n := 49))
theorem say_lD (xs : List (F q)) (h : xs.length ≤ 5000) : Say (lD xs) := Sh.lst (n := xs.length * 2002 + 3) (by
  have z := sh_lst (n := 2000) (ds := xs.map nD) fun d hd => by
    obtain ⟨a, _, rfl⟩ := List.mem_map.mp hd
    exact sh_nD a
  rw [len_tD] at z
  exact z) (by omega) (fl_lst (n := 49) fun d hd => by
    obtain ⟨a, _, rfl⟩ := List.mem_map.mp hd
    exact fl_int)
theorem say_ints (ns : List Nat) (hs : ∀ n ∈ ns, n < 10 ^ 100) (h : ns.length ≤ 5000) : Say (.tuple (ns.map fun n : Nat => PyData.int n)) := Sh.tup (n := ns.length * 2002 + 3) (by
  have z := sh_tup (n := 2000) (ds := ns.map fun n : Nat => PyData.int n) fun d hd => by
    obtain ⟨a, ha, rfl⟩ := List.mem_map.mp hd
    exact sh_small (Nat.lt_trans (hs a ha) (by decide +kernel))
  rw [List.length_map] at z
  exact z) (by omega) (fl_tup (n := 49) fun d hd => by
    obtain ⟨a, _, rfl⟩ := List.mem_map.mp hd
    exact fl_int)
theorem say_dsD {ds : List Nat} (h : ∀ d ∈ ds, 2 ≤ d ∧ d ≤ 6) (hl : ds.length ≤ 5000) : Say (dsD ds) := say_ints ds (fun n hn => Nat.lt_of_le_of_lt (h n hn).2 (by decide)) hl
theorem deg_ds {s : ST q} {ds : List Nat} (h : s.bends.map List.length = ds.map (· + 1)) : degD s = dsD ds := by
  show PyData.tuple _ = .tuple _
  congr 1
  have e1 : (s.bends.map fun b => PyData.int ((b.length : Int) - 1)) = (s.bends.map List.length).map fun n : Nat => PyData.int ((n : Int) - 1) := by rw [List.map_map]; rfl
  rw [e1, h, List.map_map]
  refine List.map_congr_left fun n _ => ?_
  show PyData.int (((n + 1 : Nat) : Int) - 1) = .int n
  congr 1
  omega
/-! ### what the steps of a block share -/
def com (k : Nat) (s : ST q) : List PyData := [rD s.start, bD s.bends, tD s.turns] ++ [nD s.last.a, nD s.last.b, nD s.last.c, nD s.last.d, nD s.last.e, nD s.last.f].take k
theorem fl_com (k : Nat) (s : ST q) : Fl 4 (.tuple (com k s)) := fl_tup fun d hd => by
  rcases List.mem_append.mp hd with hd | hd
  · simp only [List.mem_cons, List.not_mem_nil, or_false] at hd
    rcases hd with rfl | rfl | rfl
    · exact fl_int
    · exact (fl_bD (n := 1))
    · exact (fl_tD (n := 2))
  · have hd := List.mem_of_mem_take hd
    simp only [List.mem_cons, List.not_mem_nil, or_false] at hd
    rcases hd with rfl | rfl | rfl | rfl | rfl | rfl <;> exact fl_int
theorem com_bl (ds : List Nat) (wh : Bool) (r : Nat) {a : Nat} (h : a < blS q wh) : com (if wh = true then 3 else 5) (stepAt ds (blS q wh * r + a) : ST q) = com (if wh = true then 3 else 5) (stepAt ds (blS q wh * r) : ST q) := by
  obtain ⟨h1, h2, h3, h4, h5, h6, h7⟩ := bl_same (q := q) ds wh r h
  unfold com
  rw [h1, h2, h3, h4, h5, h6]
  cases wh with
  | true => rfl
  | false =>
    obtain ⟨h8, h9⟩ := h7 rfl
    rw [h8, h9]
    rfl
theorem ed_com {K : PySem.W.Frag} {ρ : Ro} {te tk : TE} {s : ST q} {wh : Bool} (h : Ed K te ρ (sD s)) (hk : Ed K tk ρ (.int (if wh = true then 3 else 5))) :
    Ed K (tOp (rCatA K) (tSl (rSlA K) te tNoPart (tPart (tC (.int 3)))) (tSl (rSlA K) (tOp (rIxT K) te (tC (.int 3))) tNoPart (tPart tk))) ρ (.tuple (com (if wh = true then 3 else 5) s)) :=
  ed_to (ed_op (ed_slTe (es := [rD s.start, bD s.bends, tD s.turns]) h eo_none (eo_some ed_int) rfl) (ed_slTe (es := [nD s.last.a, nD s.last.b, nD s.last.c, nD s.last.d, nD s.last.e, nD s.last.f].take (if wh = true then 3 else 5)) (ed_op h ed_int (rd_ixT (d := mD s.last) rfl)) eo_none (eo_some hk) (by cases wh <;> rfl)) (rd_catT (by cases wh <;> exact le5 rfl))) rfl
end
/-- a step read back from its data -/
noncomputable def fromD (q : Nat) [Fld q] (d : PyData) : ST q := open Classical in if h : ∃ s : ST q, d = sD s then h.choose else ST.none_
theorem fromD_sD {q : Nat} [Fld q] (s : ST q) : fromD q (sD s) = s := by
  have h : ∃ t : ST q, sD s = sD t := ⟨s, rfl⟩
  unfold fromD
  rw [dif_pos h]
  exact (sD_inj h.choose_spec).symm
theorem bsN_pos {q : Nat} [Fld q] : ∀ ds : List Nat, 0 < bsN q ds
  | [] => Nat.one_pos
  | d :: ds => Nat.mul_pos mbN_pos (bsN_pos ds)
inductive R_law_is_block : List PyData → Sx → Prop
  | mk (q : Nat) [Fld q] (ds : List Nat) (h : ∀ d ∈ ds, 2 ≤ d ∧ d ≤ 6) (hl : ds.length ≤ 100) : R_law_is_block [.int q, dsD ds] (fun d => d = .bool true)
theorem rg_map {f : PyData → PyData} {g : Nat → PyData} {n : Nat} (h : ∀ i, i < n → f (.int (0 + (i : Nat))) = g i) : (rgD 0 n).map f = (List.range n).map g := by
  unfold rgD
  rw [List.map_map]
  exact List.map_congr_left fun i hi => h i (List.mem_range.mp hi)
theorem at_rgD {n i : Nat} {x : PyData} (h : (rgD 0 n)[i]? = some x) : i < n ∧ x = .int (i : Nat) := by
  unfold rgD at h
  rw [List.getElem?_map] at h
  obtain ⟨j, hj, rfl⟩ := Option.map_eq_some_iff.mp h
  have hi : i < n := by
    have := (List.getElem?_eq_some_iff.mp hj).1
    rwa [List.length_range] at this
  rw [List.getElem?_range hi] at hj
  cases hj
  exact ⟨hi, congrArg PyData.int (by omega)⟩
section
variable {P : Program} {w : World} {K : PySem.W.Frag} {mg : Str → Option Value} {base : Heap}
abbrev N_law_is_block : List Str := ["_law_deck_here", "_law_q", "_law_degrees", "_law_is_whole", "_law_size_here", "_law_first", "_law_steps", "_law_at", "_law_step_here", "_law_shared", "_law_told_here", "_law_number"]
theorem sc_law_is_block : FnScope N_law_is_block ["_law_deck_here", "_law_q", "_law_degrees"] (defScope s_law_is_block) := ⟨rfl, rfl, rfl, by decide +kernel, rfl, by decide +kernel, by decide +kernel⟩
theorem ok_law_is_block (T : Top K mg) : HasG P w K mg base 10 "_law_is_block" ["_law_deck_here", "_law_q", "_law_degrees"] (spDk K R_law_is_block) := by
  obtain ⟨f, fd, g, Fd⟩ := T.def_ 88 d_law_is_block rfl
  have nd := sc_law_is_block.nd
  have h_law_same := ok_law_same (P := P) (w := w) (base := base) T
  have h_law_told := ok_law_told (P := P) (w := w) (base := base) T
  have h_determinant_of := ok_determinant_of (P := P) (w := w) (base := base) T
  have h_law_is_step := ok_law_is_step (P := P) (w := w) (base := base) T
  have h_degrees_of := ok_degrees_of (P := P) (w := w) (base := base) T
  have h_step_at := ok_step_at (P := P) (w := w) (base := base) T
  have h_law_far := ok_law_far (P := P) (w := w) (base := base) T
  have h_many_steps := ok_many_steps (P := P) (w := w) (base := base) T
  have h_law_draw := ok_law_draw (P := P) (w := w) (base := base) T
  refine hasG_ofK g Fd sc_law_is_block (fun _ _ _ _ _ _ us hl => match us, hl with | [_, _, _], _ => rfl) (fun _ _ h => by cases h <;> rfl) fun cdv A outer s H E hG hr ds d h => ?_
  refine ⟨_, (pss_cons (ps_set (i := 3) nd rfl (Or.inl rfl) (pe_or (pe_cmpR op_lt (pv 1) pe_int (nomark _)) (pe_one (pe_and (pe_cmpR op_eq (pv 1) pe_int (nomark _)) (pe_one (pe_cmpR op_eq (pe_callH h_law_draw hr (by decide) rfl (pa_cons (pv 0) (pa_cons pe_int pa_nil))) pe_int (nomark _))))))) (pss_cons (ps_set (i := 4) nd rfl (Or.inl rfl) (pe_ifExp (pt_val (pv 3)) (pe_op op_mul (pv 1) (pe_op op_sub (pe_op op_mul (pv 1) (pv 1)) (pv 1))) (pv 1))) (pss_cons (ps_set (i := 5) nd rfl (Or.inr rfl) (pe_op op_mul (pv 4) (pe_callH h_law_far hr (by decide) rfl (pa_cons (pv 0) (pa_cons (pe_op op_fdiv (pe_callH h_many_steps hr (by decide) rfl (pa_cons (pv 1) (pa_cons (pv 2) pa_nil))) (pv 4)) pa_nil))))) (pss_cons (ps_set (i := 6) nd rfl (Or.inr rfl) (pe_lc (own := [("_law_at", 7)]) rfl nd (pi_range1 rfl (T.free 9 _ rfl) (pa_cons (pv 4) pa_nil)) (blkOk_by (own := [("_law_at", 7)]) (N := N_law_is_block) (sc := defScope s_law_is_block) (by decide +kernel)) (fun _ _ _ _ _ => (pg_name (i := 7) nd rfl (Or.inl rfl))) (fun _ _ _ _ _ => pts_nil) (fun _ _ _ _ _ => (pe_callH h_step_at hr (by decide) rfl (pa_cons (pv 1) (pa_cons (pv 2) (pa_cons (pe_op op_add (pv 5) (pv 7)) pa_nil))))))) (pss_cons (ps_if (pt_cmpR (op_neD hr.units) (pe_lc (own := [("_law_step_here", 8)]) rfl nd (pi_list (pv 6)) (blkOk_by (own := [("_law_step_here", 8)]) (N := N_law_is_block) (sc := defScope s_law_is_block) (by decide +kernel)) (fun _ _ _ _ _ => (pg_name (i := 8) nd rfl (Or.inl rfl))) (fun _ _ _ _ _ => (pts_one (PW.pt (pw_or (pt_not (pt_val (pe_callH h_law_is_step hr (by decide) rfl (pa_cons (pv 1) (pa_cons (pv 8) pa_nil))))) (pw_or1 (pt_not (pt_val (pe_callG h_law_same hG hr (by decide) rfl (pa_cons (pe_callH h_degrees_of hr (by decide) rfl (pa_cons (pv 1) (pa_cons (pv 8) pa_nil))) (pa_cons (pv 2) pa_nil)))))))))) (fun _ _ _ _ _ => (pv 8))) (pe_lst pa_nil) (nomark _)) (pss_one (ps_ret pe_bl)) pss_nil) (pss_cons (ps_set (i := 9) nd rfl (Or.inr rfl) (pe_ifExp (pt_val (pv 3)) pe_int pe_int)) (pss_cons (ps_if (pt_cmpR (op_neD hr.units) (pe_lc (own := [("_law_step_here", 8)]) rfl nd (pi_list (pv 6)) (blkOk_by (own := [("_law_step_here", 8)]) (N := N_law_is_block) (sc := defScope s_law_is_block) (by decide +kernel)) (fun _ _ _ _ _ => (pg_name (i := 8) nd rfl (Or.inl rfl))) (fun _ _ _ _ _ => (pts_one (pt_cmpR (op_neDK (K := K) rfl hr.units) (pe_op (op_catAK (K := K) rfl) (pe_slice (sl_tupAK (K := K) rfl) (pv 8) po_none (po_some pe_int)) (pe_slice (sl_tupAK (K := K) rfl) (pe_ix (ix_tupK (K := K) rfl) (pv 8) pe_int (fun _ _ => rfl)) po_none (po_some (pv 9)))) (pe_op (op_catAK (K := K) rfl) (pe_slice (sl_tupAK (K := K) rfl) (pe_ix (ix_listK (K := K) rfl) (pv 6) pe_int (fun _ _ => rfl)) po_none (po_some pe_int)) (pe_slice (sl_tupAK (K := K) rfl) (pe_ix (ix_tupK (K := K) rfl) (pe_ix (ix_listK (K := K) rfl) (pv 6) pe_int (fun _ _ => rfl)) pe_int (fun _ _ => rfl)) po_none (po_some (pv 9)))) (nomark _)))) (fun _ _ _ _ _ => pe_int)) (pe_lst pa_nil) (nomark _)) (pss_one (ps_ret pe_bl)) pss_nil) (pss_cons (ps_set (i := 10) nd rfl (Or.inr rfl) (pe_lc (own := [("_law_step_here", 8)]) rfl nd (pi_list (pv 6)) (blkOk_by (own := [("_law_step_here", 8)]) (N := N_law_is_block) (sc := defScope s_law_is_block) (by decide +kernel)) (fun _ _ _ _ _ => (pg_name (i := 8) nd rfl (Or.inl rfl))) (fun _ _ _ _ _ => pts_nil) (fun _ _ _ _ _ => (pe_callH h_determinant_of hr (by decide) rfl (pa_cons (pv 1) (pa_cons (pv 8) pa_nil)))))) (pss_cons (ps_if (pt_not (pt_val (pe_callG h_law_same hG hr (by decide) rfl (pa_cons (pv 10) (pa_cons (pe_lc (own := [("_law_step_here", 8)]) rfl nd (pi_list (pv 6)) (blkOk_by (own := [("_law_step_here", 8)]) (N := N_law_is_block) (sc := defScope s_law_is_block) (by decide +kernel)) (fun _ _ _ _ _ => (pg_name (i := 8) nd rfl (Or.inl rfl))) (fun _ _ _ _ _ => pts_nil) (fun _ _ _ _ _ => (pe_callH h_law_told hr (by decide) rfl (pa_cons (pv 1) (pa_cons (pv 8) pa_nil))))) pa_nil))))) (pss_one (ps_ret pe_bl)) pss_nil) (pss_cons (ps_if (PW.pt (pw_and (pt_val (pv 3)) (pw_and1 (pt_cmpR (op_neD hr.units) (pe_lc (own := [("_law_number", 11)]) rfl nd (pi_range2 rfl (T.free 9 _ rfl) (pa_cons pe_int (pa_cons (pv 1) pa_nil))) (blkOk_by (own := [("_law_number", 11)]) (N := N_law_is_block) (sc := defScope s_law_is_block) (by decide +kernel)) (fun _ _ _ _ _ => (pg_name (i := 11) nd rfl (Or.inl rfl))) (fun _ _ _ _ _ => (pts_one (pt_cmpR op_ne (pe_countK (K := K) rfl (pv 10) (pa_cons (pv 11) pa_nil)) (pe_op op_mul (pv 1) (pv 1)) (nomark _)))) (fun _ _ _ _ _ => (pv 11))) (pe_lst pa_nil) (nomark _))))) (pss_one (ps_ret pe_bl)) pss_nil) (pss_one (ps_ret (pe_cmpR op_eq (pe_lenSetD rfl hr.units rfl (T.free 6 _ rfl) rfl (T.free 11 _ rfl) (pv 6)) (pv 4) (nomark _)))))))))))))), ?_⟩
  cases h with
  | mk q ds h hl =>
  have hq := q_bd (q := q)
  have hqq := qq_le (q := q)
  have h4 : 4 ≤ q * q := Nat.mul_le_mul hq.1 hq.1
  refine rk_set (S := fun d => ∃ wh : Bool, (wh = true → q ≤ 5) ∧ d = .bool wh) (by decide) (ek_or (B1 := fun b => b = decide ((q : Int) < 5)) (ek_one (ed_op (ed_var (d := .int q) rfl) ed_int (rd_I0 fun _ => .bl _)) ⟨_, rfl, rfl⟩) (fun _ => ek_and (B1 := fun b => b = decide ((q : Int) = 5)) (ek_one (ed_op (ed_var (d := .int q) rfl) ed_int rd_eqI) ⟨_, rfl, rfl⟩) (fun e => ?_) (fun _ => ⟨false, fun z => absurd z Bool.false_ne_true, rfl⟩)) (fun e => ⟨true, fun _ => by have := of_decide_eq_true e.symm; omega, rfl⟩)) fun d ⟨wh, hw, hd⟩ => ?_
  · have e : (q : Int) = 5 := of_decide_eq_true e.symm
    exact ek_op (ek_draw (n := 3) ed_int (by decide) (by decide)) (ek_of (ed_int (i := 0))) fun x y ⟨k, _, hx⟩ hy => by
      subst hx hy
      exact ⟨_, rd_eqI, _, fun _ => by omega, rfl⟩
  subst hd
  have hS0 := blS_pos (q := q) wh
  have hS : blS q wh ≤ 100 := by
    unfold blS
    cases wh with
    | true =>
      have h5 := hw rfl
      rw [if_pos rfl]
      have : q * q - q ≤ 20 := by
        have : q * q = q * (q - 1) + q := by
          obtain ⟨k, rfl⟩ : ∃ k, q = k + 1 := ⟨q - 1, by omega⟩
          rw [Nat.add_sub_cancel, Nat.mul_add, Nat.mul_one]
        have h2 : q * (q - 1) ≤ 5 * 4 := Nat.mul_le_mul h5 (by omega)
        omega
      exact Nat.mul_le_mul h5 this
    | false =>
      rw [if_neg Bool.false_ne_true]
      omega
  have hM : blS q wh * (mstN q ds / blS q wh) ≤ mstN q ds := Nat.mul_div_le _ _
  have hMp : 0 < mstN q ds / blS q wh := by
    refine Nat.div_pos ?_ hS0
    have h1 : msN q ≤ mstN q ds := by
      have h2 : 0 < bsN q ds := bsN_pos ds
      have h3 : 0 < trN q ds.length := by
        cases ds.length with
        | zero => exact Nat.one_pos
        | succ n => exact Nat.mul_pos (by omega) (Nat.pow_pos (by omega))
      unfold mstN
      rw [Nat.mul_assoc]
      exact Nat.le_mul_of_pos_right _ (Nat.mul_pos h2 h3)
    have h2 := bl_ms (q := q) wh
    have h3 := msN_pos (q := q)
    have h5 : 0 < blC q wh := by
      refine Nat.pos_of_ne_zero fun z => ?_
      rw [z, Nat.mul_zero] at h2
      omega
    have h6 : blS q wh ≤ blS q wh * blC q wh := Nat.le_mul_of_pos_right _ h5
    omega
  refine rk_set (S := fun d => d = .int (blS q wh : Nat)) (by decide) (ek_of (ed_if (b := wh) (et_val (ed_var rfl)) (fun e => ?_) (fun e => ?_))) fun d hd => ?_
  · subst e
    refine ed_to (ed_op (ed_var (d := .int q) rfl) (ed_op (ed_op (ed_var (d := .int q) rfl) (ed_var (d := .int q) rfl) (rd_I (cmulN (by omega)) fun _ => .int _)) (ed_var (d := .int q) rfl) (rd_I0 fun _ => .int _)) (rd_I (cmulN (by omega)) fun _ => .int _)) (congrArg PyData.int ?_)
    rw [nat_mul, qq_sub, nat_mul]
    rfl
  · subst e
    exact ed_var rfl
  subst hd
  refine rk_set (S := fun d => ∃ r : Nat, r < mstN q ds / blS q wh ∧ d = .int (blS q wh * r : Nat)) (by decide) (ek_op (ek_of (ed_var (d := .int (blS q wh : Nat)) rfl)) (ek_callK (S := below (mstN q ds / blS q wh)) (ak_of (ea1 (ed_to (ed_op (ed_call (ea2 (ed_var (d := .int q) rfl) (ed_var (d := dsD ds) rfl)) (R_many_steps.mk q ds h (by omega))) (ed_var (d := .int (blS q wh : Nat)) rfl) (rd_I (cdivN hS0 (by omega)) fun _ => .int _)) (x := .int (mstN q ds / blS q wh : Nat)) (congrArg PyData.int (Int.natCast_ediv _ _).symm)))) fun ds' e => ⟨_, by rw [e]; exact .mk _ hMp, fun d hd => hd⟩) fun x y hx ⟨k, hk, hy⟩ => ?_) fun d ⟨r, hr1, hd⟩ => ?_
  · subst hx hy
    exact ⟨_, rd_I (cmulN (by omega)) fun _ => .int _, k, hk, congrArg PyData.int nat_mul⟩
  subst hd
  have hlt : ∀ a, a < blS q wh → blS q wh * r + a < mstN q ds := fun a ha => by
    have h1 : blS q wh * (r + 1) ≤ blS q wh * (mstN q ds / blS q wh) := Nat.mul_le_mul_left _ hr1
    rw [Nat.mul_add] at h1
    omega
  let st : Nat → ST q := fun a => stepAt ds (blS q wh * r + a)
  have sok : ∀ a, (st a).Ok ∧ (st a).bends.map List.length = ds.map (· + 1) := fun a => stepAt_ok h
  have sbl : ∀ a, (st a).bends.length ≤ 100 := fun a => by
    have := congrArg List.length (sok a).2
    rw [List.length_map, List.length_map] at this
    omega
  refine rk_of ?_ rfl
  refine run_set (d := .list ((List.range (blS q wh)).map fun a => sD (st a))) (EdL.mk (ed_lcm (fun d => match d with | .int i => sD (st i.toNat) | _ => .none) (ei_range1 (n := (blS q wh : Nat)) (ea1 (ed_var rfl)) (by omega) (by omega)) (by rw [rgD_len]; omega) fun i x hx => ?_) (rg_map fun i _ => by show sD (st (0 + (i : Int)).toNat) = sD (st i); congr 2; omega)) ?_
  · obtain ⟨hi, rfl⟩ := at_rgD hx
    refine ⟨_, _, bd_name, fun j hj => hj, ed_to (ed_call (ea3 (ed_var (d := .int q) rfl) (ed_var (d := dsD ds) rfl) (ed_to (ed_op (ed_var (d := .int (blS q wh * r : Nat)) rfl) (ed_var (d := .int (i : Nat)) rfl) (rd_I0 fun _ => .int _)) (congrArg PyData.int nat_add))) (R_step_at.mk q ds (blS q wh * r + i) h (by omega) (hlt i (by omega)))) ?_⟩
    show sD (st i) = sD (st ((i : Nat) : Int).toNat)
    rfl
  have mem : ∀ {i : Nat} {x : PyData}, ((List.range (blS q wh)).map fun a => sD (st a))[i]? = some x → i < blS q wh ∧ x = sD (st i) := fun {i x} hx => by
    rw [List.getElem?_map] at hx
    obtain ⟨j, hj, rfl⟩ := Option.map_eq_some_iff.mp hx
    have hi : i < blS q wh := by
      have := (List.getElem?_eq_some_iff.mp hj).1
      rwa [List.length_range] at this
    rw [List.getElem?_range hi] at hj
    cases hj
    exact ⟨hi, rfl⟩
  have len : ((List.range (blS q wh)).map fun a => sD (st a)).length ≤ 100000 := by
    rw [List.length_map, List.length_range]
    omega
  have zero : ((List.range (blS q wh)).map fun a => sD (st a))[0]? = some (sD (st 0)) := by
    rw [List.getElem?_map, List.getElem?_range hS0]
    rfl
  refine run_no (et_test (ed_noneL (ds := []) (EdL.mk (ed_lc (fun _ => false) (fun x => x) (ei_lst (xs := (List.range (blS q wh)).map fun a => sD (st a)) (ed_var rfl)) len fun i x hx => ?_) (keep_none fun _ _ => rfl)))) ?_
  · obtain ⟨hi, rfl⟩ := mem hx
    refine ⟨_, _, bd_name, fun j hj => hj, (et_or (a := false) (b := false) ((et_not (et_val (ed_call (ea2 (ed_var (d := .int q) rfl) (ed_var (d := sD (st i)) rfl)) (R_law_is_step.mk q (st i) (sok i).1 (by have := sbl i; omega))))).to rfl) fun _ => (et_not (et_val (ed_call (ea2 (ed_to (ed_call (ea2 (ed_var (d := .int q) rfl) (ed_var (d := sD (st i)) rfl)) (R_degrees_of.mk q (st i) (sok i).1 (by have := sbl i; omega))) (deg_ds (sok i).2)) (ed_var (d := dsD ds) rfl)) (R_law_same.mk _ (say_dsD h (by omega)))))).to rfl).to rfl, fun e => nomatch e⟩
  refine run_set (d := .int (if wh = true then 3 else 5)) (ed_if (b := wh) (et_val (ed_var rfl)) (fun e => by subst e; exact ed_int) (fun e => by subst e; exact ed_int)) ?_
  refine run_no (et_test (ed_noneL (ds := []) (EdL.mk (ed_lc (fun _ => false) (fun _ => .int 1) (ei_lst (xs := (List.range (blS q wh)).map fun a => sD (st a)) (ed_var rfl)) len fun i x hx => ?_) (keep_none fun _ _ => rfl)))) ?_
  · obtain ⟨hi, rfl⟩ := mem hx
    refine ⟨_, _, bd_name, fun j hj => hj, et_test (ed_to (ed_op (ed_com (s := st i) (wh := wh) (ed_var rfl) (ed_var rfl)) (ed_com (s := st 0) (wh := wh) (ed_op (ed_var (d := .list ((List.range (blS q wh)).map fun a => sD (st a))) rfl) ed_int (rd_ixL (i := 0) (atI_nat (j := 0) zero))) (ed_var rfl)) (rd_neD (fl_com _ _).shaped (fl_com _ _).shaped)) ?_), fun e => nomatch e⟩
    have e : com (if wh = true then 3 else 5) (st i) = com (if wh = true then 3 else 5) (st 0) := (com_bl ds wh r hi).trans (com_bl ds wh r (a := 0) hS0).symm
    rw [e, (fl_com _ _).refl]
    rfl
  let xs : List (F q) := (List.range (blS q wh)).map fun a => (st a).det
  have exs : xs.map nD = (List.range (blS q wh)).map fun a => nD (st a).det := by
    show ((List.range (blS q wh)).map fun a => (st a).det).map nD = _
    rw [List.map_map]
    rfl
  have lxs : xs.length = blS q wh := by
    show ((List.range (blS q wh)).map fun a => (st a).det).length = _
    rw [List.length_map, List.length_range]
  have walk : ∀ {t : TE} {ρ1 : Ro} (_ : ρ1[6]? = some (.dat (.list ((List.range (blS q wh)).map fun a => sD (st a))))) (_ : ∀ a, a < blS q wh → Ed K t ((wipeR ρ1 [8]).set 8 (.dat (sD (st a)))) (nD (st a).det)), Ed K (tLc (iList K (tVar 6)) (gName 8) tYes t [8]) ρ1 (lD xs) := fun {t ρ1} h6 hb =>
    EdL.mk (ed_lcm (fun d => match d with | .tuple [.int a, b, c, e] => nD (ST.det (fromD q (.tuple [.int a, b, c, e]))) | _ => .none) (ei_lst (ed_var h6)) len fun i x hx => by
      obtain ⟨hi, rfl⟩ := mem hx
      exact ⟨_, _, bd_name, fun j hj => hj, ed_to (hb i hi) (by show nD (st i).det = nD (ST.det (fromD q (sD (st i)))); rw [fromD_sD])⟩) (by
        rw [exs, List.map_map]
        refine List.map_congr_left fun a _ => ?_
        show nD (ST.det (fromD q (sD (st a)))) = nD (st a).det
        rw [fromD_sD])
  refine run_set (d := lD xs) (walk rfl fun a ha => ed_call (ea2 (ed_var (d := .int q) rfl) (ed_var (d := sD (st a)) rfl)) (R_determinant_of.mk q (st a) (sok a).1 (by have := sbl a; omega))) ?_
  refine run_no (EdT.to (et_not (et_val (ed_call (ea2 (ed_var (d := lD xs) rfl) (walk rfl fun a ha => ed_call (ea2 (ed_var (d := .int q) rfl) (ed_var (d := sD (st a)) rfl)) (R_law_told.mk q (st a) (by have := (sok a).1.len; have := sbl a; omega)))) (R_law_same.mk _ (say_lD xs (by omega)))))) rfl) ?_
  have exi : ∀ xs : List (F q), xs.map nD = (xs.map fun x => ((x.v : Nat) : Int)).map PyData.int := fun xs => by rw [List.map_map]; rfl
  have cnt : wh = true → ∀ n : Nat, 1 ≤ n → n < q → (xs.map fun x => ((x.v : Nat) : Int)).count (n : Int) = q * q := fun e n n1 n2 => by
    subst e
    have hu : (dg n : F q) ≠ 0 := dg_nz n1 n2
    rw [← bl_cnt ds r hu, List.count_eq_countP, List.countP_eq_length_filter, List.filter_map, List.length_map, List.filter_map, List.length_map]
    congr 1
    refine List.filter_congr fun a _ => ?_
    show ((((st a).det.v : Nat) : Int) == (n : Int)) = decide ((stepAt ds (blS q true * r + a) : ST q).det = dg n)
    by_cases c : (stepAt ds (blS q true * r + a) : ST q).det = dg n
    · rw [decide_eq_true c]
      have : (st a).det.v = n := by rw [show (st a).det = dg n from c, dg_v, Nat.mod_eq_of_lt n2]
      rw [this]
      exact beq_self_eq_true _
    · rw [decide_eq_false c]
      refine beq_eq_false_iff_ne.mpr fun z => c (F.ext' ?_)
      rw [dg_v, Nat.mod_eq_of_lt n2]
      show (st a).det.v = n
      omega
  refine run_no (EdT.to (et_and (a := wh) (b := false) (et_val (ed_var rfl)) fun e => et_test (ed_noneL (ds := []) (EdL.mk (ed_lc (fun _ => false) (fun x => x) (ei_range2 (m := 1) (n := q) (ea2 ed_int (ed_var rfl)) ⟨by decide, by decide, by omega, by omega⟩) (by rw [rgD_len]; omega) fun i x hx => ?_) (keep_none fun _ _ => rfl)))) (Bool.and_false wh)) ?_
  · obtain ⟨n, n1, n2, rfl⟩ : ∃ n : Nat, 1 ≤ n ∧ n < q ∧ x = .int n := by
      unfold rgD at hx
      obtain ⟨j, hj, rfl⟩ := map_at hx
      have hi : i < ((q : Int) - 1).toNat := by
        have := (List.getElem?_eq_some_iff.mp hj).1
        rwa [List.length_range] at this
      rw [List.getElem?_range hi] at hj
      cases hj
      exact ⟨1 + i, by omega, by omega, congrArg PyData.int (by omega)⟩
    refine ⟨_, _, bd_name, fun j hj => hj, et_test (ed_to (ed_op (ed_count (ns := xs.map fun x => ((x.v : Nat) : Int)) (k := n) (ed_to (ed_var (d := lD xs) rfl) (congrArg PyData.list (exi xs))) (ed_var (d := .int n) rfl)) (ed_op (ed_var (d := .int q) rfl) (ed_var (d := .int q) rfl) (rd_I (cmulN (by omega)) fun _ => .int _)) rd_neI) ?_), fun e => nomatch e⟩
    rw [cnt e n n1 n2, nat_mul, decide_eq_true rfl]
    rfl
  refine run_last (run_ret (ed_to (ed_op (ed_lenSetD (ds := (List.range (blS q wh)).map fun a => sD (st a)) (ed_var rfl) (fun d hd => ?_) (.inl ⟨?_, ?_⟩)) (ed_var (d := .int (blS q wh : Nat)) rfl) rd_eqI) ?_))
  · obtain ⟨a, _, rfl⟩ := List.mem_map.mp hd
    exact ⟨_, rfl, nst_sD (st a)⟩
  · rw [List.map_map]
    exact nodup_map (fun x hx y hy e => bl_inj ds wh r (List.mem_range.mp hx) (List.mem_range.mp hy) (key_sD e)) List.nodup_range
  · rw [List.length_map, List.length_range]
    omega
  · have nd : (((List.range (blS q wh)).map fun a => sD (st a)).map keyD).Nodup := by
      rw [List.map_map]
      exact nodup_map (fun x hx y hy e => bl_inj ds wh r (List.mem_range.mp hx) (List.mem_range.mp hy) (key_sD e)) List.nodup_range
    rw [ddp_id nd, List.length_map, List.length_map, List.length_range, decide_eq_true rfl]
end
end K19

/-! TEXT K19W24 -/
set_option Elab.async false
set_option linter.all false
set_option maxRecDepth 100000
set_option maxHeartbeats 4000000
set_option autoImplicit false
/-! The walks, 24: maps that multiply x. -/
namespace K19
open PySem PySem.Spec PyProof.Rows L2
open Evl (Ex)
section
variable {K : PySem.W.Frag} {ρ : Ro} {ta tb : TE}
theorem dpA_rg {H : Hp} (a b : Int) : DpAll K H (rgV a b) (rgD a (b - a).toNat) := by
  have e1 : rgV a b = ((List.range (b - a).toNat).map fun i : Nat => a + (i : Int)).map V.int := by
    unfold rgV
    rw [List.map_map]
    rfl
  have e2 : rgD a (b - a).toNat = ((List.range (b - a).toNat).map fun i : Nat => a + (i : Int)).map PyData.int := by
    unfold rgD
    rw [List.map_map]
    rfl
  rw [e1, e2]
  exact dpA_of_ints _
theorem ed_listRg {m n : Int} (h1 : Ed K ta ρ (.int m)) (h2 : Ed K tb ρ (.int n)) (ok : RgOk m n) : Ed K (tLstRg (tRg2 ta tb)) ρ (.list (rgD m (n - m).toNat)) := fun σ D H0 H s sl Q q =>
  h1 σ D H0 H s sl _ fun v D1 H1 t1 p1 => h2 σ D1 H0 H1 t1.s (sl.mono t1) _ fun u D2 H2 t2 p2 => by
    rw [dp_int p1, dp_int p2]
    exact ⟨m, n, rfl, rfl, ok, fun c hc => q (.ref c) _ _ ((t1.tr t2).tr (Stp.new (t1.tr t2).s hc)) (.lst (SqL.of upd_same) (dpA_rg m n))⟩
/-- a, b, c = e, [], [] -/
theorem rk_par3LL {i a b c : Nat} {t2 : TS} {r : RsK} {x : PyData} (ha : i ≠ a) (hb : i ≠ b) (hc : i ≠ c) (h : Ed K ta ρ x) (hn : ∀ p1 p2, RunK i K t2 (((ρ.set a (.dat x)).set b (.own p1 (.lst []))).set c (.own p2 (.lst []))) r) :
    RunK i K (tSeq (tPar3 a b c (tCons ta (tCons (tLst tNil) (tCons (tLst tNil) tNil)))) t2) ρ r := fun σ p l H0 D H E gt k t sl q =>
  h σ D H0 H (ex_cut t.s) sl.of_cut _ fun v D1 H1 t1 q1 => ⟨Nat.zero_le _, fun p1 n1 => ⟨Nat.zero_le _, fun p2 n2 => by
    obtain ⟨k1, u1⟩ := t1.cut k t.s
    obtain ⟨k2, e2, m2⟩ := dk_new (u := .lst []) k1 n1
    obtain ⟨k3, e3, m3⟩ := dk_new (u := .lst []) k2 n2
    have T1 := t.go u1
    have s1 := (sl.mono u1).set a q1
    have s2 := s1.new b T1.h T1.s m2 (OdV.lst (.nil : DpAll K D1 [] []))
    have T2 : Stp D1 H0 D1 (upd (cut p l H1) p1 (.lst [])) := ⟨Ex.refl D1, T1.h.trans (Ex.new m2), T1.s.trans (Ex.new m2), fun _ _ _ _ h => h⟩
    rw [← e2] at s2 T2
    have s3 := s2.new c T2.h T2.s m3 (OdV.lst (.nil : DpAll K D1 [] []))
    have T3 : Stp D1 H0 D1 (upd (cut p l (upd H1 p1 (.lst []))) p2 (.lst [])) := ⟨Ex.refl D1, T2.h.trans (Ex.new m3), T2.s.trans (Ex.new m3), fun _ _ _ _ h => h⟩
    rw [← e3] at s3 T3
    exact ⟨v, .ref p1, .ref p2, rfl, hn p1 p2 _ p l H0 D1 _ E (by rw [List.getElem?_set_ne (Ne.symm hc), List.getElem?_set_ne (Ne.symm hb), List.getElem?_set_ne (Ne.symm ha)]; exact gt) k3 T3 s3 (q.of (t.up u1))⟩⟩⟩
end
inductive R_law_is_moved : List PyData → Sx → Prop
  | mk (q : Nat) [Fld q] (s : ST q) (hs : s.Ok) (hl : s.bends.length ≤ 3) : R_law_is_moved [.int q, sD s] (fun d => d = .bool true)
section
variable {q : Nat} [Fld q]
theorem degD_eq {x y : ST q} (h : x.bends.map List.length = y.bends.map List.length) : degD x = degD y := by
  unfold degD
  have e : ∀ s : ST q, (s.bends.map fun b => PyData.int ((b.length : Int) - 1)) = (s.bends.map List.length).map fun n : Nat => PyData.int ((n : Int) - 1) := fun s => by rw [List.map_map]; rfl
  rw [e, e, h]
theorem lD_nz : ∀ {ds : List PyData}, (∀ d ∈ ds, ∃ k : Nat, 1 ≤ k ∧ k < q ∧ d = .int k) → ∃ us : List (F q), (∀ u ∈ us, u ≠ 0) ∧ us.length = ds.length ∧ ds = us.map nD
  | [], _ => ⟨[], fun u hu => absurd hu List.not_mem_nil, rfl, rfl⟩
  | d :: ds, h => by
    obtain ⟨k, k1, k2, rfl⟩ := h d List.mem_cons_self
    obtain ⟨us, h1, h2, rfl⟩ := lD_nz fun e he => h e (List.mem_cons_of_mem _ he)
    refine ⟨dg k :: us, fun u hu => ?_, congrArg Nat.succ h2, by rw [List.map_cons, ← nD_dg k2]⟩
    rcases List.mem_cons.mp hu with rfl | hu
    · exact dg_nz k1 k2
    · exact h1 u hu
theorem say_deg2 {s : ST q} (hs : s.Ok) (hl : s.bends.length ≤ 100) : Say (.list [degD s, degD s]) := by
  have hb : ∀ d ∈ (s.bends.map fun b => PyData.int ((b.length : Int) - 1)), Sh 2000 d := fun d hd => by
    obtain ⟨b, hb, rfl⟩ := List.mem_map.mp hd
    have h1 := (hs.bend b hb).lo
    have h2 := (hs.bend b hb).hi
    have e : PyData.int ((b.length : Int) - 1) = .int ((b.length - 1 : Nat) : Int) := congrArg PyData.int (by omega)
    rw [e]
    exact sh_small (Nat.lt_of_le_of_lt (show b.length - 1 ≤ 6 by omega) (by decide))
  have z := sh_tup hb
  rw [List.length_map] at z
  have z2 : Sh 200203 (degD s) := Sh.mono z (by omega)
  have f : Fl 2 (degD s) := fl_tup fun d hd => by
    obtain ⟨b, _, rfl⟩ := List.mem_map.mp hd
    exact fl_int
  exact Sh.lst (n := 2 * (200203 + 2) + 3) (sh_lst (n := 200203) (ds := [degD s, degD s]) fun d hd => by
    simp only [List.mem_cons, List.not_mem_nil, or_false, or_self] at hd
    rw [hd]
    exact z2) (by decide) (fl_lst (n := 49) fun d hd => by
    simp only [List.mem_cons, List.not_mem_nil, or_false, or_self] at hd
    rw [hd]
    exact f.mono (by decide))
theorem sD_scl (u : F q) : sD (scl u) = .tuple [.int (-1), .tuple [], .tuple [], .tuple [nD u, .int 0, .int 0, .int 0, .int 1, .int 0]] := by
  show PyData.tuple [.int (-1), .tuple [], .tuple [], .tuple [nD u, nD (0 : F q), nD (0 : F q), nD (0 : F q), nD (1 : F q), nD (0 : F q)]] = _
  rw [nD0, nD1]
/-- a number, and a step -/
def mvD (g : F q → ST q) (u : F q) : PyData := .tuple [nD u, sD (g u)]
theorem ed_moved {K : PySem.W.Frag} {ρ : Ro} {g : F q → ST q} {us : List (F q)} (hl : us.length ≤ 60) (hg : ∀ x ∈ us, ∀ y ∈ us, g x = g y → x = y) (h12 : ρ[12]? = some (.dat (.list (us.map (mvD g))))) (hlen : ρ.length = 14) :
    Ed K (tOp rNe (tLenSetD K (tLc (iList K (tVar 12)) (gTup K 2 (gCons (gName 7) (gCons (gName 13) gNil))) tYes (tVar 13) [7, 13])) (tLenSetZ K (tLc (iList K (tVar 12)) (gTup K 2 (gCons (gName 7) (gCons (gName 13) gNil))) tYes (tVar 7) [7, 13]))) ρ (.bool false) := by
  have at_ : ∀ {i : Nat} {x : PyData}, (us.map (mvD g))[i]? = some x → ∃ u, us[i]? = some u ∧ x = .tuple [nD u, sD (g u)] := fun hx => by
    obtain ⟨u, h1, h2⟩ := map_at hx
    exact ⟨u, h1, h2⟩
  have wl : (wipeR ρ [7, 13]).length = 14 := by
    show ((ρ.set 13 Sd.no).set 7 Sd.no).length = 14
    rw [List.length_set, List.length_set, hlen]
  let f2 : PyData → PyData := fun d => match d with
    | .tuple [_, x] => x
    | _ => .none
  let f1 : PyData → PyData := fun d => match d with
    | .tuple [x, _] => x
    | _ => .none
  have l1 : Ed K (tLc (iList K (tVar 12)) (gTup K 2 (gCons (gName 7) (gCons (gName 13) gNil))) tYes (tVar 13) [7, 13]) ρ (.list (us.map fun u => sD (g u))) :=
    EdL.mk (ed_lcm f2 (ei_lst (ed_var h12)) (by rw [List.length_map]; omega) fun i x hx => by
      obtain ⟨u, _, rfl⟩ := at_ hx
      exact ⟨_, _, bd_tup rfl (bds_cons (bds_cons bds_nil)), fun a ha => ha, ed_var (d := sD (g u)) (by rw [List.getElem?_set_self (by rw [List.length_set, wl]; decide)])⟩) (by rw [List.map_map]; rfl)
  have l2 : Ed K (tLc (iList K (tVar 12)) (gTup K 2 (gCons (gName 7) (gCons (gName 13) gNil))) tYes (tVar 7) [7, 13]) ρ (.list ((us.map fun u => ((u.v : Nat) : Int)).map PyData.int)) :=
    EdL.mk (ed_lcm f1 (ei_lst (ed_var h12)) (by rw [List.length_map]; omega) fun i x hx => by
      obtain ⟨u, _, rfl⟩ := at_ hx
      exact ⟨_, _, bd_tup rfl (bds_cons (bds_cons bds_nil)), fun a ha => ha, ed_var (d := nD u) (by rw [List.getElem?_set_ne (by decide), List.getElem?_set_self (by rw [wl]; decide)])⟩) (by rw [List.map_map, List.map_map]; rfl)
  refine ed_to (ed_op (ed_lenSetD l1 (fun d hd => ?_) (.inr (by rw [List.length_map]; exact hl))) (ed_lenSetZ l2 (by rw [List.length_map]; exact hl)) rd_neI) ?_
  · obtain ⟨u, _, rfl⟩ := List.mem_map.mp hd
    exact ⟨_, rfl, nst_sD (g u)⟩
  · rw [List.map_map, ddp_map (f := keyD ∘ fun u => sD (g u)) us fun x hx y hy e => hg x hx y hy (key_sD e), ddp_map us fun x hx y hy e => F.ext' (show x.v = y.v by have e : ((x.v : Nat) : Int) = ((y.v : Nat) : Int) := e; omega), decide_eq_true rfl]
    rfl
end
section
variable {P : Program} {w : World} {K : PySem.W.Frag} {mg : Str → Option Value} {base : Heap}
abbrev N_law_is_moved : List Str := ["_law_deck_here", "_law_q", "_law_step_here", "_law_due", "_law_far_here", "_law_near", "_law_numbers", "_law_number", "_law_scale", "_law_behind", "_law_ahead", "_law_told_here", "_law_some", "_law_it"]
theorem sc_law_is_moved : FnScope N_law_is_moved ["_law_deck_here", "_law_q", "_law_step_here"] (defScope s_law_is_moved) := ⟨rfl, rfl, rfl, by decide +kernel, rfl, by decide +kernel, by decide +kernel⟩
theorem ok_law_is_moved (T : Top K mg) : HasG P w K mg base 10 "_law_is_moved" ["_law_deck_here", "_law_q", "_law_step_here"] (spDk K R_law_is_moved) := by
  obtain ⟨f, fd, g, Fd⟩ := T.def_ 89 d_law_is_moved rfl
  have nd := sc_law_is_moved.nd
  have h_law_same := ok_law_same (P := P) (w := w) (base := base) T
  have h_determinant_of := ok_determinant_of (P := P) (w := w) (base := base) T
  have h_undoing := ok_undoing (P := P) (w := w) (base := base) T
  have h_law_under := ok_law_under (P := P) (w := w) (base := base) T
  have h_degrees_of := ok_degrees_of (P := P) (w := w) (base := base) T
  have h_law_by := ok_law_by (P := P) (w := w) (base := base) T
  have h_product := ok_product (P := P) (w := w) (base := base) T
  have h_law_draw := ok_law_draw (P := P) (w := w) (base := base) T
  have h_law_told := ok_law_told (P := P) (w := w) (base := base) T
  have hk_degrees_of := okk_degrees_of (P := P) (w := w) (base := base) T
  have hk_determinant_of := okk_determinant_of (P := P) (w := w) (base := base) T
  have hk_product := okk_product (P := P) (w := w) (base := base) T
  refine hasG_ofK g Fd sc_law_is_moved (fun _ _ _ _ _ _ us hl => match us, hl with | [_, _, _], _ => rfl) (fun _ _ h => by cases h <;> rfl) fun cdv A outer s H E hG hr ds d h => ?_
  refine ⟨_, (pss_cons (ps_par3 (i := 3) (j := 4) (l := 5) rfl nd rfl rfl rfl (by decide) (by decide) (by decide) rfl rfl rfl (pa_cons (pe_callH h_law_told hr (by decide) rfl (pa_cons (pv 1) (pa_cons (pv 2) pa_nil))) (pa_cons (pe_lst pa_nil) (pa_cons (pe_lst pa_nil) pa_nil))) rfl) (pss_cons (ps_set (i := 6) nd rfl (Or.inl rfl) (pe_ifExp (pt_cmpR op_lt (pv 1) pe_int (nomark _)) (pe_listRg rfl rfl (T.free 7 _ rfl) (prg_2 rfl (T.free 9 _ rfl) pe_int (pv 1))) (pe_lst (pa_cons (pe_op op_add pe_int (pe_callH h_law_draw hr (by decide) rfl (pa_cons (pv 0) (pa_cons (pe_op op_sub (pv 1) pe_int) pa_nil)))) (pa_cons (pe_op op_sub (pv 1) pe_int) pa_nil))))) (pss_cons (ps_for PassesOwn.never rfl (pi_list (pv 6)) (pg_name (i := 7) nd rfl (Or.inl rfl)) (pss_cons (ps_set (i := 8) nd rfl (Or.inl rfl) (pe_tup (pa_cons (pe_un un_neg pe_int) (pa_cons (pe_tup pa_nil) (pa_cons (pe_tup pa_nil) (pa_cons (pe_tup (pa_cons (pv 7) (pa_cons pe_int (pa_cons pe_int (pa_cons pe_int (pa_cons pe_int (pa_cons pe_int pa_nil))))))) pa_nil)))))) (pss_cons (ps_par (i := 9) (j := 10) rfl nd rfl rfl (by decide) rfl rfl (pa_cons (pe_callH h_product hr (by decide) rfl (pa_cons (pv 1) (pa_cons (pv 2) (pa_cons (pv 8) pa_nil)))) (pa_cons (pe_callKW hk_product hr (by decide) rfl (pa_cons (pv 1) pa_nil) (pk_cons (pv 2) (pk_cons (pv 8) pk_nil))) pa_nil)) rfl) (pss_cons (ps_set (i := 11) nd rfl (Or.inl rfl) (pe_lst (pa_cons (pe_callH h_determinant_of hr (by decide) rfl (pa_cons (pv 1) (pa_cons (pv 9) pa_nil))) (pa_cons (pe_callKW0 hk_determinant_of hr (by decide) rfl (pk_cons (pv 10) (pk_cons (pv 1) pk_nil))) (pa_cons (pe_callH h_determinant_of hr (by decide) rfl (pa_cons (pv 1) (pa_cons (pv 8) pa_nil))) pa_nil))))) (pss_cons (ps_if (pt_not (pt_val (pe_callG h_law_same hG hr (by decide) rfl (pa_cons (pv 11) (pa_cons (pe_op op_cat (pe_op op_rep (pe_lst (pa_cons (pe_callH h_law_by hr (by decide) rfl (pa_cons (pv 1) (pa_cons (pv 3) (pa_cons (pv 7) pa_nil)))) pa_nil)) pe_int) (pe_lst (pa_cons (pv 7) pa_nil))) pa_nil))))) (pss_one (ps_ret pe_bl)) pss_nil) (pss_cons (ps_if (pt_not (pt_val (pe_callG h_law_same hG hr (by decide) rfl (pa_cons (pe_lst (pa_cons (pe_callH h_degrees_of hr (by decide) rfl (pa_cons (pv 1) (pa_cons (pv 9) pa_nil))) (pa_cons (pe_callH h_degrees_of hr (by decide) rfl (pa_cons (pv 1) (pa_cons (pv 10) pa_nil))) pa_nil))) (pa_cons (pe_op op_rep (pe_lst (pa_cons (pe_callKW0 hk_degrees_of hr (by decide) rfl (pk_cons (pv 2) (pk_cons (pv 1) pk_nil))) pa_nil)) pe_int) pa_nil))))) (pss_one (ps_ret pe_bl)) pss_nil) (pss_cons (ps_expr (pe_bm PySem.F.plainAttrs_list PySem.F.slot_list_append PySem.F.type_list_append mt_append (pv 4) (pa_cons (pe_tup (pa_cons (pv 7) (pa_cons (pv 9) pa_nil))) pa_nil))) (pss_one (ps_expr (pe_bm PySem.F.plainAttrs_list PySem.F.slot_list_append PySem.F.type_list_append mt_append (pv 5) (pa_cons (pe_tup (pa_cons (pv 7) (pa_cons (pv 10) pa_nil))) pa_nil))))))))))) (pss_cons (ps_for PassesOwn.never rfl (pi_tup (pe_tup (pa_cons (pv 4) (pa_cons (pv 5) pa_nil)))) (pg_name (i := 12) nd rfl (Or.inl rfl)) (pss_one (ps_if (pt_cmpR op_ne (pe_lenSetD rfl hr.units rfl (T.free 6 _ rfl) rfl (T.free 11 _ rfl) (pe_lc (own := [("_law_number", 7), ("_law_it", 13)]) rfl nd (pi_list (pv 12)) (blkOk_by (own := [("_law_number", 7), ("_law_it", 13)]) (N := N_law_is_moved) (sc := defScope s_law_is_moved) (by decide +kernel)) (fun _ _ _ _ _ => (pg_tupK (K := K) (n := 2) rfl rfl (pgs_cons (pg_name (i := 7) nd rfl (Or.inl rfl)) (pgs_cons (pg_name (i := 13) nd rfl (Or.inl rfl)) pgs_nil)))) (fun _ _ _ _ _ => pts_nil) (fun _ _ _ _ _ => (pv 13)))) (pe_lenSetZ rfl rfl (T.free 6 _ rfl) rfl (T.free 11 _ rfl) (pe_lc (own := [("_law_number", 7), ("_law_it", 13)]) rfl nd (pi_list (pv 12)) (blkOk_by (own := [("_law_number", 7), ("_law_it", 13)]) (N := N_law_is_moved) (sc := defScope s_law_is_moved) (by decide +kernel)) (fun _ _ _ _ _ => (pg_tupK (K := K) (n := 2) rfl rfl (pgs_cons (pg_name (i := 7) nd rfl (Or.inl rfl)) (pgs_cons (pg_name (i := 13) nd rfl (Or.inl rfl)) pgs_nil)))) (fun _ _ _ _ _ => pts_nil) (fun _ _ _ _ _ => (pv 7)))) (nomark _)) (pss_one (ps_ret pe_bl)) pss_nil))) (pss_one (ps_ret (pe_callG h_law_same hG hr (by decide) rfl (pa_cons (pe_lst (pa_cons (pe_callH h_determinant_of hr (by decide) rfl (pa_cons (pv 1) (pa_cons (pe_callH h_undoing hr (by decide) rfl (pa_cons (pv 1) (pa_cons (pv 2) pa_nil))) pa_nil))) (pa_cons (pe_callH h_determinant_of hr (by decide) rfl (pa_cons (pv 1) (pa_cons (pv 2) pa_nil))) pa_nil))) (pa_cons (pe_lst (pa_cons (pe_callH h_law_under hr (by decide) rfl (pa_cons (pv 1) (pa_cons (pv 3) pa_nil))) (pa_cons (pv 3) pa_nil))) pa_nil))))))))), ?_⟩
  cases h with
  | mk q s hs hl =>
  have hq := q_bd (q := q)
  have em : ∀ {ρ : Ro}, ρ[1]? = some (.dat (.int q)) → Ed K (tOp (rI0 fun i j => .int (i - j)) (tVar 1) (tC (.int 1))) ρ (.int ((q - 1 : Nat) : Int)) := fun h => ed_to (ed_op (ed_var h) ed_int (rd_I0 fun _ => .int _)) (congrArg PyData.int qm1)
  refine rk_par3LL (by decide) (by decide) (by decide) (ed_call (ea2 (ed_var (d := .int q) rfl) (ed_var (d := sD s) rfl)) (R_law_told.mk q s (by have := hs.len; omega))) fun a1 a2 => ?_
  refine rk_set (S := fun d => ∃ us : List (F q), (∀ u ∈ us, u ≠ 0) ∧ us.length ≤ 60 ∧ d = lD us) (by decide) (ek_if (B := fun b => b = decide ((q : Int) < 6)) (et_of (et_test (ed_op (ed_var (d := .int q) rfl) ed_int (rd_I0 fun _ => .bl _)))) (fun _ => ?_) (fun _ => ?_)) fun d ⟨us, hu, hul, hd⟩ => ?_
  · obtain ⟨us, h1, h2, h3⟩ := lD_nz (q := q) (ds := rgD 1 ((q : Int) - 1).toNat) fun d hd => by
      unfold rgD at hd
      obtain ⟨i, hi, rfl⟩ := List.mem_map.mp hd
      have := List.mem_range.mp hi
      exact ⟨1 + i, by omega, by omega, congrArg PyData.int (by omega)⟩
    rw [rgD_len] at h2
    exact ek_one (ed_listRg ed_int (ed_var (d := .int q) rfl) ⟨by decide, by decide, by omega, by omega, by omega⟩) ⟨us, h1, by omega, congrArg PyData.list h3⟩
  · refine (ek_lst (ak2 (ek_draw1 (n := q - 1) (em rfl) (by omega) (by omega)) (ek_of (em rfl))) fun ds ⟨a, b, h, _⟩ => by subst h; exact le5 rfl).to fun d ⟨ds, ⟨a, b, h1, ⟨k, k1, k2, hk⟩, hb⟩, hd⟩ => ?_
    subst h1 hk hb hd
    refine ⟨[dg k, dg (q - 1)], fun u hu => ?_, by show 2 ≤ 60; decide, ?_⟩
    · simp only [List.mem_cons, List.not_mem_nil, or_false] at hu
      rcases hu with rfl | rfl
      · exact dg_nz k1 (by omega)
      · exact dg_nz (by omega) (by omega)
    · show PyData.list _ = .list [nD (dg k : F q), nD (dg (q - 1) : F q)]
      rw [← nD_dg (by omega), ← nD_dg (by omega)]
  subst hd
  refine rk_of ?_ rfl
  let gb : F q → ST q := fun u => s.thn (scl u)
  let ga : F q → ST q := fun u => (scl u).thn s
  let tl : Nat → Ro := fun i => match i with
    | 0 => [.no, .no, .no, .no, .no, .no, .no]
    | i + 1 => [.dat (nD (us.getD i 0)), .dat (sD (scl (us.getD i 0))), .dat (sD (gb (us.getD i 0))), .dat (sD (ga (us.getD i 0))), .dat (lD [s.det * us.getD i 0, s.det * us.getD i 0, us.getD i 0]), .no, .no]
  let Fz : Nat → Ro := fun i => [.no, .dat (.int q), .dat (sD s), .dat (nD s.det), .own a1 (.lst ((us.take i).map (mvD gb))), .own a2 (.lst ((us.take i).map (mvD ga))), .dat (lD us)] ++ tl i
  refine run_for Fz (ei_lst (xs := us.map nD) (ed_var rfl)) rfl (fun i x hx => ?_) ?_
  · obtain ⟨u, hui, rfl⟩ := map_nD hx
    have u0 : u ≠ 0 := hu u (List.mem_of_getElem? hui)
    have eu : us.getD i 0 = u := by rw [List.getD_eq_getElem?_getD, hui]; rfl
    have et : us.take (i + 1) = us.take i ++ [u] := by rw [List.take_add_one, hui]; rfl
    have ok1 := ST.thn_ok hs (scl_ok u0)
    have ok2 := ST.thn_ok (scl_ok u0) hs
    have d1 : (gb u).det = s.det * u := by rw [show (gb u).det = s.det * (scl u).det from ok1.2, scl_det]
    have d2 : (ga u).det = s.det * u := by rw [show (ga u).det = (scl u).det * s.det from ok2.2, scl_det, F.mul_comm']
    have b1 : (gb u).bends.map List.length = s.bends.map List.length := by rw [show (gb u).bends = s.bends from rfl]
    have b2 : (ga u).bends.map List.length = s.bends.map List.length := scl_thn hs u0
    have l1 : (gb u).bends.length = s.bends.length := rfl
    have l2 : (ga u).bends.length = s.bends.length := by
      have := congrArg List.length b2
      rwa [List.length_map, List.length_map] at this
    refine ⟨_, _, bd_name, ?_⟩
    have e2 : Fz (i + 1) = [.no, .dat (.int q), .dat (sD s), .dat (nD s.det), .own a1 (.lst ((us.take (i + 1)).map (mvD gb))), .own a2 (.lst ((us.take (i + 1)).map (mvD ga))), .dat (lD us), .dat (nD u), .dat (sD (scl u)), .dat (sD (gb u)), .dat (sD (ga u)), .dat (lD [s.det * u, s.det * u, u]), .no, .no] := by
      rw [← eu]
      rfl
    have ez : ∃ z8 z9 z10 z11 : Sd, (Fz i).set 7 (.dat (nD u)) = [.no, .dat (.int q), .dat (sD s), .dat (nD s.det), .own a1 (.lst ((us.take i).map (mvD gb))), .own a2 (.lst ((us.take i).map (mvD ga))), .dat (lD us), .dat (nD u), z8, z9, z10, z11, .no, .no] := by
      cases i with
      | zero => exact ⟨_, _, _, _, rfl⟩
      | succ i => exact ⟨_, _, _, _, rfl⟩
    obtain ⟨z8, z9, z10, z11, ez⟩ := ez
    rw [ez, e2]
    refine run_set (d := sD (scl u)) (ed_to (ed_tup (ea4 ed_m1 (ed_tup ea_nil (le5 rfl)) (ed_tup ea_nil (le5 rfl)) (ed_tup (ea6 (ed_var (d := nD u) rfl) ed_int ed_int ed_int ed_int ed_int) (le5 rfl))) (le5 rfl)) (sD_scl u).symm) ?_
    refine run_par (x := sD (gb u)) (y := sD (ga u)) (ea2 (ed_call (ea3 (ed_var (d := .int q) rfl) (ed_var (d := sD s) rfl) (ed_var (d := sD (scl u)) rfl)) (R_product.mk q s (scl u) hs (scl_ok u0) (by omega) (Nat.zero_le _))) (ed_callKW (fs := [.int q, sD (scl u), sD s]) (ea1 (ed_var (d := .int q) rfl)) (ea2 (ed_var (d := sD s) rfl) (ed_var (d := sD (scl u)) rfl)) (fun D vs zs h1 h2 => g12_dp h1 h2) (R_product.mk q (scl u) s (scl_ok u0) hs (Nat.zero_le _) (by omega)))) ?_
    refine run_set (d := lD [s.det * u, s.det * u, u]) (ed_to (ed_lst (ea3 (ed_call (ea2 (ed_var (d := .int q) rfl) (ed_var (d := sD (gb u)) rfl)) (R_determinant_of.mk q (gb u) ok1.1 (by omega))) (ed_callKW0 (fs := [.int q, sD (ga u)]) (ea2 (ed_var (d := sD (ga u)) rfl) (ed_var (d := .int q) rfl)) (fun D zs h => g02_dp h) (R_determinant_of.mk q (ga u) ok2.1 (by omega))) (ed_call (ea2 (ed_var (d := .int q) rfl) (ed_var (d := sD (scl u)) rfl)) (R_determinant_of.mk q (scl u) (scl_ok u0) (Nat.zero_le _)))) (le5 rfl)) (by rw [d1, d2, scl_det]; rfl)) ?_
    refine run_no (EdT.to (et_not (et_val (ed_call (ea2 (ed_var (d := lD [s.det * u, s.det * u, u]) rfl) (ed_to (en_cat (en_rep (n := 2) (ea1 (ed_call (ea3 (ed_var (d := .int q) rfl) (ed_var (d := nD s.det) rfl) (ed_var (d := nD u) rfl)) (R_law_by.mk q s.det u))) ed_int (by decide) (by decide) (le5 rfl) (le5 rfl)) (en_lst (ea1 (ed_var (d := nD u) rfl)) (le5 rfl)) (le5 rfl)).ed rfl)) (R_law_same.mk _ (say_lD _ (by show 3 ≤ 5000; decide)))))) rfl) ?_
    refine run_no (EdT.to (et_not (et_val (ed_call (ea2 (ed_to (ed_lst (ea2 (ed_call (ea2 (ed_var (d := .int q) rfl) (ed_var (d := sD (gb u)) rfl)) (R_degrees_of.mk q (gb u) ok1.1 (by omega))) (ed_call (ea2 (ed_var (d := .int q) rfl) (ed_var (d := sD (ga u)) rfl)) (R_degrees_of.mk q (ga u) ok2.1 (by omega)))) (le5 rfl)) (x := .list [degD s, degD s]) (by rw [degD_eq b1, degD_eq b2])) (ed_to (en_rep (n := 2) (ea1 (ed_callKW0 (fs := [.int q, sD s]) (ea2 (ed_var (d := sD s) rfl) (ed_var (d := .int q) rfl)) (fun D zs h => g02_dp h) (R_degrees_of.mk q s hs (by omega)))) ed_int (by decide) (by decide) (le5 rfl) (le5 rfl)).ed rfl)) (R_law_same.mk _ (say_deg2 hs (by omega)))))) rfl) ?_
    refine run_append (d := mvD gb u) rfl (ed_tup (ea2 (ed_var (d := nD u) rfl) (ed_var (d := sD (gb u)) rfl)) (le5 rfl)) (by rw [List.length_map, List.length_take]; omega) ?_
    refine run_last (run_append (d := mvD ga u) rfl (ed_tup (ea2 (ed_var (d := nD u) rfl) (ed_var (d := sD (ga u)) rfl)) (le5 rfl)) (by rw [List.length_map, List.length_take]; omega) ?_)
    rw [et, List.map_append, List.map_append]
    exact run_end
  · have gbi : ∀ x ∈ us, ∀ y ∈ us, gb x = gb y → x = y := fun x hx y hy e => by
      have h1 := (ST.thn_ok hs (scl_ok (hu x hx))).2
      have h2 := (ST.thn_ok hs (scl_ok (hu y hy))).2
      rw [scl_det] at h1 h2
      exact F.mul_cancel (ST.det_ne0 hs) (h1.symm.trans ((congrArg ST.det e).trans h2))
    have gai : ∀ x ∈ us, ∀ y ∈ us, ga x = ga y → x = y := fun x hx y hy e => by
      have h1 := (ST.thn_ok (scl_ok (hu x hx)) hs).2
      have h2 := (ST.thn_ok (scl_ok (hu y hy)) hs).2
      rw [scl_det, F.mul_comm'] at h1 h2
      exact F.mul_cancel (ST.det_ne0 hs) (h1.symm.trans ((congrArg ST.det e).trans h2))
    rw [List.length_map]
    have ez : ∃ z7 z8 z9 z10 z11 z12 : Sd, Fz us.length = [.no, .dat (.int q), .dat (sD s), .dat (nD s.det), .own a1 (.lst (us.map (mvD gb))), .own a2 (.lst (us.map (mvD ga))), .dat (lD us), z7, z8, z9, z10, z11, z12, .no] := by
      have e1 : us.take us.length = us := List.take_length
      have tz : ∀ n, ∃ z7 z8 z9 z10 z11 z12 : Sd, tl n = [z7, z8, z9, z10, z11, z12, .no] := fun n => by
        cases n with
        | zero => exact ⟨_, _, _, _, _, _, rfl⟩
        | succ n => exact ⟨_, _, _, _, _, _, rfl⟩
      obtain ⟨z7, z8, z9, z10, z11, z12, e2⟩ := tz us.length
      refine ⟨z7, z8, z9, z10, z11, z12, ?_⟩
      show ([.no, .dat (.int q), .dat (sD s), .dat (nD s.det), .own a1 (.lst ((us.take us.length).map (mvD gb))), .own a2 (.lst ((us.take us.length).map (mvD ga))), .dat (lD us)] : Ro) ++ tl us.length = _
      rw [e1, e2]
      rfl
    obtain ⟨z7, z8, z9, z10, z11, z12, ez⟩ := ez
    rw [ez]
    refine run_fz (i := 4) rfl (run_fz (i := 5) rfl ?_)
    let Gz : Nat → Ro := fun i => [.no, .dat (.int q), .dat (sD s), .dat (nD s.det), .dat (.list (us.map (mvD gb))), .dat (.list (us.map (mvD ga))), .dat (lD us), z7, z8, z9, z10, z11, (match i with | 0 => z12 | 1 => .dat (.list (us.map (mvD gb))) | _ => .dat (.list (us.map (mvD ga)))), .no]
    refine run_for Gz (ei_tup (xs := [.list (us.map (mvD gb)), .list (us.map (mvD ga))]) (ed_tup (ea2 (ed_var rfl) (ed_var rfl)) (le5 rfl))) rfl (fun i x hx => ?_) ?_
    · match i, hx with
      | 0, hx =>
        cases hx
        exact ⟨_, _, bd_name, run_last (run_no (et_test (ed_moved (g := gb) hul gbi rfl rfl)) run_end)⟩
      | 1, hx =>
        cases hx
        exact ⟨_, _, bd_name, run_last (run_no (et_test (ed_moved (g := ga) hul gai rfl rfl)) run_end)⟩
      | i + 2, hx => cases hx
    · have bk := ST.back_ok hs
      have lb : s.back.bends.length ≤ 1000 := by
        have h1 := ST.wPcs_le (s.pieces.reverse.map ST.bk) (ST.none_ : ST q)
        rw [List.length_map, List.length_reverse] at h1
        have h2 := ST.pieces_le s
        have h3 : (ST.none_ : ST q).bends.length = 0 := rfl
        show (ST.none_.wPcs _).bends.length ≤ 1000
        omega
      refine run_last (run_ret (ed_call (ea2 (ed_to (ed_lst (ea2 (ed_call (ea2 (ed_var (d := .int q) rfl) (ed_call (ea2 (ed_var (d := .int q) rfl) (ed_var (d := sD s) rfl)) (R_undoing.mk q s hs (by omega)))) (R_determinant_of.mk q s.back bk.1 lb)) (ed_call (ea2 (ed_var (d := .int q) rfl) (ed_var (d := sD s) rfl)) (R_determinant_of.mk q s hs (by omega)))) (le5 rfl)) (x := lD [F.inv s.det, s.det]) (by rw [bk.2]; rfl)) (ed_to (ed_lst (ea2 (ed_call (ea2 (ed_var (d := .int q) rfl) (ed_var (d := nD s.det) rfl)) (R_law_under.mk q s.det (ST.det_ne0 hs))) (ed_var (d := nD s.det) rfl)) (le5 rfl)) (x := lD [F.inv s.det, s.det]) rfl)) (R_law_same.mk _ (say_lD _ (by show 2 ≤ 5000; decide)))))
end
end K19

/-! TEXT K19W25 -/
set_option Elab.async false
set_option linter.all false
set_option maxRecDepth 100000
set_option maxHeartbeats 4000000
set_option autoImplicit false
/-! The walks, 25: the deck is made; the law. -/
namespace K19
open PySem PySem.Spec PyProof.Rows L2
open Evl (Ex)
/-! ### the deck is made -/
def spNewDk (K : PySem.W.Frag) : Sp := fun vs H Q _ => ∃ (ns : List Int) (m : Int) (D : Hp), Ex D H ∧ DpAll K D vs [.list (ns.map PyData.int), .int m] ∧ ∀ p l D' H', Dk p l H' → Stp D H D' (cut p l H') → Q (.ref p) H'
theorem cut_ints (ns : List Int) : ∃ cs : List Int, cs.length ≤ 63 ∧ cutD (ns.map PyData.int) none (some 63) = cs.map PyData.int := by
  refine ⟨(ns.drop 0).take (HT.sIx ns.length ns.length (some 63)), ?_, ?_⟩
  · rw [List.length_take]
    have : HT.sIx ns.length ns.length (some 63) = min 63 ns.length := HT.sIx_nat ns.length ns.length 63
    omega
  · unfold cutD
    rw [List.length_map, HT.sIx_none, Nat.sub_zero, ← List.map_drop, ← List.map_take]
def mixN (m c : Int) : Int := (m * 69621 + c % 2147483629 + 81) % 2147483587
section
variable {P : Program} {w : World} {K : PySem.W.Frag} {mg : Str → Option Value} {base : Heap}
abbrev N_law_deck : List Str := ["_law_script", "_law_number", "_law_mixed", "_law_cell"]
theorem sc_law_deck : FnScope N_law_deck ["_law_script", "_law_number"] (defScope s_law_deck) := ⟨rfl, rfl, rfl, by decide +kernel, rfl, by decide +kernel, by decide +kernel⟩
theorem ok_law_deck (T : Top K mg) : Has P w K mg base 1 "_law_deck" ["_law_script", "_law_number"] (spNewDk K) := by
  obtain ⟨f, fd, g, Fd⟩ := T.def_ 67 d_law_deck rfl
  have nd := sc_law_deck.nd
  refine ⟨f, fd, g, Fd.kp, Fd.bindsN (fun _ _ _ _ _ _ us hl => match us, hl with | [_, _], _ => rfl), Fd.ok sc_law_deck (fun vs H Q E h => ?_) fun cdv A outer s H vs Q E hr h => ?_⟩
  · obtain ⟨ns, m, D, _, h2, _⟩ := h
    exact dpA_len h2
  obtain ⟨ns, m, D, e0, hvs, hQ⟩ := h
  refine ⟨_, PSs.nox (pss_cons (ps_set (i := 2) nd rfl (Or.inl rfl) (pv 1)) (pss_cons (ps_for PassesOwn.never rfl (pi_list (pe_slice sl_list (pv 0) po_none (po_some pe_int))) (pg_name (i := 3) nd rfl (Or.inl rfl)) (pss_one (ps_set (i := 2) nd rfl (Or.inl rfl) (pe_op op_mod (pe_callTy call_int1 rfl (T.free 4 _ rfl) boot_int (pa_cons (pe_op op_add (pe_op op_add (pe_op op_mul (pv 2) pe_int) (pe_op op_mod (pe_callTy call_int1 rfl (T.free 4 _ rfl) boot_int (pa_cons (pv 3) pa_nil)) pe_int)) pe_int) pa_nil)) pe_int)))) (pss_one (ps_ret (pe_disp (pps_cons pe_str (pe_revL (pe_callTy call_list_of rfl (T.free 7 _ rfl) boot_list (pa_cons (pe_slice sl_list (pv 0) po_none (po_some pe_int)) pa_nil))) (pps_cons pe_str (pv 2) (pps_cons pe_str pe_int pps_nil))) (by rfl) (by rfl) (fun z => by cases z) (by decide)))))), ?_⟩
  obtain ⟨cs, hcs, ecs⟩ := cut_ints ns
  have sl : Ed K (tSl (rSlL K) (tVar 0) tNoPart (tPart (tC (.int 63)))) [.dat (.list (ns.map PyData.int)), .dat (.int m), .no, .no] (.list (cs.map PyData.int)) := ed_to (ed_slL (ed_var rfl) eo_none (eo_some ed_int)) (congrArg PyData.list ecs)
  let F : Nat → Ro := fun i => [.dat (.list (ns.map PyData.int)), .dat (.int m), .dat (.int ((cs.take i).foldl mixN m)), match i with | 0 => .no | i + 1 => .dat (.int (cs.getD i 0))]
  have r : Run K (tSeq (tAsg (tVar 1) (gName 2)) (tSeq (tFor (iList K (tSl (rSlL K) (tVar 0) tNoPart (tPart (tC (.int 63))))) (gName 3) (tAsg (tOp (rI (fun _ j => 0 < j) fun i j => .int (i % j)) (tCB (fun xs H Q => (∃ i, xs = [V.int i] ∧ Q (.int i) H) ∨ ∃ k, xs = [V.bl k] ∧ Q (.int (if k then 1 else 0)) H) (tCons (tOp (rI0 fun i j => .int (i + j)) (tOp (rI0 fun i j => .int (i + j)) (tOp (rI CMul fun i j => .int (i * j)) (tVar 2) (tC (.int 69621))) (tOp (rI (fun _ j => 0 < j) fun i j => .int (i % j)) (tCB (fun xs H Q => (∃ i, xs = [V.int i] ∧ Q (.int i) H) ∨ ∃ k, xs = [V.bl k] ∧ Q (.int (if k then 1 else 0)) H) (tCons (tVar 3) tNil)) (tC (.int 2147483629)))) (tC (.int 81))) tNil)) (tC (.int 2147483587))) (gName 2))) tNext)) (startR N_law_deck [.list (ns.map PyData.int), .int m]) (.nx (F cs.length)) := by
    refine run_set (d := .int m) (ed_var rfl) (run_for F (ei_lst (xs := cs.map PyData.int) (ed_to (ed_slL (ed_var (d := .list (ns.map PyData.int)) rfl) eo_none (eo_some (i := 63) ed_int)) (congrArg PyData.list ecs))) rfl (fun i x hx => ?_) ?_)
    · obtain ⟨c, hc, rfl⟩ := map_at hx
      have e1 : (cs.take (i + 1)).foldl mixN m = mixN ((cs.take i).foldl mixN m) c := by
        rw [List.take_add_one, hc, List.foldl_append]
        rfl
      have e2 : cs.getD i 0 = c := by rw [List.getD_eq_getElem?_getD, hc]; rfl
      refine ⟨_, _, bd_name, ?_⟩
      have e3 : F (i + 1) = [.dat (.list (ns.map PyData.int)), .dat (.int m), .dat (.int (mixN ((cs.take i).foldl mixN m) c)), .dat (.int c)] := by
        rw [← e1, ← e2]
      have e4 : (F i).set 3 (.dat (.int c)) = [.dat (.list (ns.map PyData.int)), .dat (.int m), .dat (.int ((cs.take i).foldl mixN m)), .dat (.int c)] := rfl
      rw [e3, e4]
      exact run_last (run_set (d := .int (mixN ((cs.take i).foldl mixN m) c)) (ed_op (ed_cb (ea1 (ed_op (ed_op (ed_op (ed_var (d := .int ((cs.take i).foldl mixN m)) rfl) ed_int (rd_I (cmulR (by decide) (by decide)) fun _ => .int _)) (ed_op (ed_cb (ea1 (ed_var (d := .int c) rfl)) rc_intI) ed_int (rd_I (by decide) fun _ => .int _)) (rd_I0 fun _ => .int _)) ed_int (rd_I0 fun _ => .int _))) rc_intI) ed_int (rd_I (by decide) fun _ => .int _)) run_end)
    · rw [List.length_map]
      exact run_end
  refine r (L2.start N_law_deck vs) H D H { nx := fun σ H1 => (tRet (tDisp [(tC (.str "left"), tRevL K (tCB (fun xs H Q => ∃ p ys, xs = [.ref p] ∧ (SqL K H p ys ∨ SqT K H p ys) ∧ ∀ l, H l = none → Q (.ref l) (upd H l (.lst ys))) (tCons (tSl (rSlL K) (tVar 0) tNoPart (tPart (tC (.int 63)))) tNil))), (tC (.str "mixed"), tVar 2), (tC (.str "draws"), tC (.int 0))])) { nx := fun _ H' => Q .non H', rt := Q } σ H1, rt := Q } (Stp.rfl' e0) (sl_start hvs) fun σ D1 H1 t1 s1 => ?_
  intro p hp
  have t2 : Stp D1 H1 D1 (upd H1 p (.dK [])) := Stp.tmp t1.s hp
  have sx : Ed K (tCB (fun xs H Q => ∃ p ys, xs = [.ref p] ∧ (SqL K H p ys ∨ SqT K H p ys) ∧ ∀ l, H l = none → Q (.ref l) (upd H l (.lst ys))) (tCons (tSl (rSlL K) (tVar 0) tNoPart (tPart (tC (.int 63)))) tNil)) (F cs.length) (.list (cs.map PyData.int)) := ed_cb (ea1 (ed_to (ed_slL (ed_var (d := .list (ns.map PyData.int)) rfl) eo_none (eo_some (i := 63) ed_int)) (congrArg PyData.list ecs))) rc_lstL
  simp only [tPairs]
  unfold tC tRevL
  refine sx σ D1 H _ t2.s (s1.mono t2) _ fun v D2 H2 t3 p3 => ?_
  obtain ⟨a, xs, rfl, hq, hx⟩ := dp_lst p3
  have ex := dpA_ints hx
  subst ex
  refine ⟨a, _, rfl, Evl.ex_l t3.s hq, fun l hl => ?_⟩
  have s2 := s1.mono (t2.tr t3)
  obtain ⟨v2, g2, d2⟩ := s2.at_ 2 _ rfl
  rw [dp_int d2] at g2
  have hp2 : H2 p = some (.dK []) := t3.h p _ upd_same
  have hpl : p ≠ l := fun z => by rw [z, hl] at hp2; cases hp2
  have np : D2 p = none := t3.n p _ upd_same (fun _ z => nomatch z) (Evl.fresh_back t1.s hp)
  refine ⟨_, g2, ?_⟩
  refine ⟨by rw [upd_ne hpl]; exact hp2, [(.inr "left", .ref l), (.inr "mixed", .int _), (.inr "draws", .int 0)], rfl, by show 3 ≤ 15; decide, ?_⟩
  have em : ∀ z : Int, mergeK [] [((.inr "left" : Key), V.ref l), (.inr "mixed", .int z), (.inr "draws", .int 0)] = [(.inr "left", .ref l), (.inr "mixed", .int z), (.inr "draws", .int 0)] := fun z => by rfl
  rw [em]
  generalize hG : upd (upd H2 l (.lst (List.map V.int cs).reverse)) p (.dK [(.inr "left", .ref l), (.inr "mixed", .int ((cs.take cs.length).foldl mixN m)), (.inr "draws", .int 0)]) = G
  have nl : D2 l = none := Evl.fresh_back t3.s hl
  have hGo : ∀ b, b ≠ p → b ≠ l → G b = H2 b := fun b h1 h2 => by rw [← hG, upd_ne h1, upd_ne h2]
  refine hQ p l D2 G ⟨hpl, ⟨_, 0, by rw [← hG]; exact upd_same⟩, cs.reverse, by rw [List.length_reverse]; exact hcs, by rw [← hG, upd_ne (Ne.symm hpl), upd_same, List.map_reverse]⟩ ?_
  have t4 : Stp D H D2 H2 := ⟨t1.d.trans t3.d, fun b u z => t3.h b u ((Ex.new hp) b u (t1.h b u z)), t3.s, fun b u h1 h2 h3 => t3.n b u ((Ex.new hp) b u (t1.h b u h1)) h2 (t1.n b u h1 h2 h3)⟩
  refine ⟨t4.d, fun b u z => ?_, fun b u z => ?_, t4.n⟩
  · have b1 : b ≠ p := fun y => by
      have := t1.h b u z
      rw [y, hp] at this
      cases this
    have b2 : b ≠ l := ne_of_none (t4.h b u z) hl
    rw [cut_ne b1 b2, hGo b b1 b2]
    exact t4.h b u z
  · have b1 : b ≠ p := ne_of_none z np
    have b2 : b ≠ l := ne_of_none z nl
    rw [cut_ne b1 b2, hGo b b1 b2]
    exact t3.s b u z
end
end K19

/-! TEXT K19W26 -/
set_option Elab.async false
set_option linter.all false
set_option maxRecDepth 100000
set_option maxHeartbeats 4000000
set_option autoImplicit false
/-! The walks, 26: the law. -/
namespace K19
open PySem PySem.Spec PyProof.Rows L2
open Evl (Ex)
def spLaw (K : PySem.W.Frag) : Sp := fun vs H Q _ => ∃ (a : Addr) (ns : List Int), vs = [.ref a] ∧ SqL K H a (ns.map V.int) ∧ ∀ H', Q (.bl true) H'
section
variable {K : PySem.W.Frag} {ρ : Ro} {te : TE} {i : Nat} {S : Sx}
theorem etk_nv (h : EdK i K te ρ (fun d => d = .bool true)) : EtK i K (tNot (tB te)) ρ (fun b => b = false) := fun σ p l D H0 H g k e sl Q q => h σ p l D H0 H g k e sl _ fun d v D1 H1 s1 k1 t1 p1 => by
  subst s1
  exact ⟨true, dp_bl p1, q false D1 H1 rfl k1 t1⟩
theorem etk_gt {c : Int} (h : EdK i K te ρ S) (hS : ∀ d, S d → ∃ a : Int, d = .int a) : EtK i K (tTest (tOp (rI0 fun i j => .bl (i > j)) te (tC (.int c)))) ρ anyB :=
  etk_test (ek_op (S := fun d => ∃ b, d = .bool b) h (ek_of (ed_int (i := c))) fun x y hx hy => by
    obtain ⟨a, rfl⟩ := hS x hx
    subst hy
    exact ⟨_, rd_I0 fun _ => .bl _, _, rfl⟩) fun d ⟨b, hb⟩ => ⟨b, hb, trivial⟩
end
theorem dsD_of : ∀ {ds : List PyData}, (∀ d ∈ ds, ∃ n : Nat, 2 ≤ n ∧ n ≤ 6 ∧ d = .int n) → ∃ ns : List Nat, (∀ d ∈ ns, 2 ≤ d ∧ d ≤ 6) ∧ ns.length = ds.length ∧ ds = ns.map fun n : Nat => PyData.int n
  | [], _ => ⟨[], fun d hd => absurd hd List.not_mem_nil, rfl, rfl⟩
  | d :: ds, h => by
    obtain ⟨n, h1, h2, rfl⟩ := h d List.mem_cons_self
    obtain ⟨ns, h3, h4, rfl⟩ := dsD_of fun e he => h e (List.mem_cons_of_mem _ he)
    exact ⟨n :: ns, fun d hd => by
      rcases List.mem_cons.mp hd with rfl | hd
      · exact ⟨h1, h2⟩
      · exact h3 d hd, congrArg Nat.succ h4, rfl⟩
section
variable {q : Nat} [Fld q]
theorem bsN_le : ∀ {ds : List Nat}, (∀ d ∈ ds, 2 ≤ d ∧ d ≤ 6) → bsN q ds ≤ (15 * 16 ^ 4) ^ ds.length
  | [], _ => Nat.le_refl 1
  | d :: ds, h => by
    have h1 := bsN_le (ds := ds) fun x hx => h x (List.mem_cons_of_mem _ hx)
    have h2 := mbN_le (q := q) (h d List.mem_cons_self).2
    show mbN q d * bsN q ds ≤ (15 * 16 ^ 4) ^ (ds.length + 1)
    rw [Nat.pow_succ, Nat.mul_comm]
    exact Nat.mul_le_mul h1 h2
theorem trN_le (k : Nat) : trN q k ≤ 17 * 16 ^ k := by
  have hq := q_bd (q := q)
  cases k with
  | zero =>
    show 1 ≤ 17 * 16 ^ 0
    decide
  | succ k =>
    show (q + 1) * q ^ k ≤ 17 * 16 ^ (k + 1)
    refine Nat.mul_le_mul (by omega) (Nat.le_trans (Nat.pow_le_pow_left hq.2.1 k) (Nat.pow_le_pow_right (by decide) (Nat.le_succ k)))
theorem say_mst {ds : List Nat} (h : ∀ d ∈ ds, 2 ≤ d ∧ d ≤ 6) (hl : ds.length ≤ 4) : Say (.int (mstN q ds : Nat)) := Sh.int (sh_small (by
  have h1 := msN_le (q := q)
  have h2 : bsN q ds ≤ (15 * 16 ^ 4) ^ 4 := Nat.le_trans (bsN_le h) (Nat.pow_le_pow_right (by decide) hl)
  have h3 : trN q ds.length ≤ 17 * 16 ^ 4 := Nat.le_trans (trN_le _) (Nat.mul_le_mul_left _ (Nat.pow_le_pow_right (by decide) hl))
  have h4 : mstN q ds ≤ 255 * 256 * 16 * 16 * (15 * 16 ^ 4) ^ 4 * (17 * 16 ^ 4) := Nat.mul_le_mul (Nat.mul_le_mul h1 h2) h3
  exact Nat.lt_of_le_of_lt h4 (by decide +kernel))) (by decide)
theorem say_one (c : F q) : Say (PT [((0, 0), c)]) := by
  have z : Sh (3 * 2002 + 3) (tmD (((0, 0), c) : (Nat × Nat) × F q)) := sh_tup (n := 2000) (ds := [.int (0 : Nat), .int (0 : Nat), nD c]) fun d hd => by
    simp only [List.mem_cons, List.not_mem_nil, or_false] at hd
    rcases hd with rfl | rfl | rfl
    · exact sh_small (by decide +kernel)
    · exact sh_small (by decide +kernel)
    · exact sh_nD c
  have f : Fl 1 (tmD (((0, 0), c) : (Nat × Nat) × F q)) := fl_tup fun d hd => by
    simp only [List.mem_cons, List.not_mem_nil, or_false] at hd
    rcases hd with rfl | rfl | rfl <;> exact fl_int
  exact Sh.tup (n := 1 * (3 * 2002 + 3 + 2) + 3) (sh_tup (ds := [tmD (((0, 0), c) : (Nat × Nat) × F q)]) fun d hd => by
    rw [List.mem_singleton.mp hd]
    exact z) (by decide) (fl_tup (n := 49) fun d hd => by
    rw [List.mem_singleton.mp hd]
    exact f.mono (by decide))
/-- the determinant of a step's pair -/
theorem pair_det {s : ST q} (hs : s.Ok) : detP leK (rowPair leK s.pieces).1 (rowPair leK s.pieces).2 = [((0, 0), s.det)] := by
  obtain ⟨h1, h2⟩ := ST.pieces_ok hs
  rw [det_row h1 (by rw [h2]; exact ST.det_ne0 hs), h2]
end
theorem mk_deck {K : PySem.W.Frag} {rest : TS} {E : Ends} {σ : L2.St} {H : Hp} {a : Addr} {ns : List Int} (g0 : σ[0]? = some (some (.ref a))) (hq : SqL K H a (ns.map V.int)) (h : ∀ p l D' H', Dk p l H' → Stp H H D' (cut p l H') → rest E (σ.set 1 (some (.ref p))) H') :
    tSeq (tAsg (tCall (spNewDk K) [] E0 (tCons (tVar 0) (tCons (tC (.int 10881019)) tNil))) (gName 1)) rest E σ H :=
  ⟨_, g0, ns, 10881019, H, Ex.refl H, .cons (.lst hq (dpA_of_ints ns)) (.cons (.int _) .nil), fun p l D' H' kd t => h p l D' H' kd t⟩
section
variable {P : Program} {w : World} {K : PySem.W.Frag} {mg : Str → Option Value} {base : Heap}
abbrev N_law : List Str := ["_law_script", "_law_deck_here", "_law_q", "_law_degrees", "_law_turn", "_law_number", "_law_field_here", "_law_some", "_law_step_here", "_law_due"]
theorem sc_law : FnScope N_law ["_law_script"] (defScope s_law) := ⟨rfl, rfl, rfl, by decide +kernel, rfl, by decide +kernel, by decide +kernel⟩
theorem ok_law (T : Top K mg) : HasG P w K mg base 11 "law" ["_law_script"] (spLaw K) := by
  obtain ⟨f, fd, g, Fd⟩ := T.def_ 90 d_law rfl
  have nd := sc_law.nd
  have h_law_same := ok_law_same (P := P) (w := w) (base := base) T
  have h_determinant_of := ok_determinant_of (P := P) (w := w) (base := base) T
  have h_product := ok_product (P := P) (w := w) (base := base) T
  have h_law_by := ok_law_by (P := P) (w := w) (base := base) T
  have h_law_told := ok_law_told (P := P) (w := w) (base := base) T
  have h_law_size := ok_law_size (P := P) (w := w) (base := base) T
  have h_determinant := ok_determinant (P := P) (w := w) (base := base) T
  have h_pair_of := ok_pair_of (P := P) (w := w) (base := base) T
  have h_law_is_moved := ok_law_is_moved (P := P) (w := w) (base := base) T
  have h_law_step := ok_law_step (P := P) (w := w) (base := base) T
  have h_law_pick := ok_law_pick (P := P) (w := w) (base := base) T
  have h_law_field := ok_law_field (P := P) (w := w) (base := base) T
  have h_many_with := ok_many_with (P := P) (w := w) (base := base) T
  have h_many_steps := ok_many_steps (P := P) (w := w) (base := base) T
  have h_law_draw := ok_law_draw (P := P) (w := w) (base := base) T
  have h_law_is_block := ok_law_is_block (P := P) (w := w) (base := base) T
  have h_law_deck := ok_law_deck (P := P) (w := w) (base := base) T
  refine hasG_of g Fd sc_law (fun _ _ _ _ _ _ us hl => match us, hl with | [_], _ => rfl) (fun zs H Q E h => by obtain ⟨a, ns, rfl, _⟩ := h; rfl) fun cdv A outer s H zs Q E hG hr  h => ?_
  refine ⟨_, (pss_cons (ps_set (i := 1) nd rfl (Or.inr rfl) (pe_callH h_law_deck hr (by decide) rfl (pa_cons (pv 0) (pa_cons pe_int pa_nil)))) (pss_cons (ps_set (i := 2) nd rfl (Or.inl rfl) (pe_ifExp (pt_cmpR op_gt (pe_callH h_law_draw hr (by decide) rfl (pa_cons (pv 1) (pa_cons pe_int pa_nil))) pe_int (nomark _)) (pe_callH h_law_pick hr (by decide) rfl (pa_cons (pv 1) (pa_cons (pe_tup (pa_cons pe_int (pa_cons pe_int (pa_cons pe_int (pa_cons pe_int (pa_cons pe_int pa_nil)))))) pa_nil))) (pe_callH h_law_field hr (by decide) rfl (pa_cons (pv 1) pa_nil)))) (pss_cons (ps_set (i := 3) nd rfl (Or.inl rfl) (pe_callTy call_tuple_of rfl (T.free 13 _ rfl) boot_tuple (pa_cons (pe_lc (own := [("_law_turn", 4)]) rfl nd (pi_range1 rfl (T.free 9 _ rfl) (pa_cons (pe_callH h_law_pick hr (by decide) rfl (pa_cons (pv 1) (pa_cons (pe_tup (pa_cons pe_int (pa_cons pe_int (pa_cons pe_int (pa_cons pe_int (pa_cons pe_int (pa_cons pe_int pa_nil))))))) pa_nil))) pa_nil)) (blkOk_by (own := [("_law_turn", 4)]) (N := N_law) (sc := defScope s_law) (by decide +kernel)) (fun _ _ _ _ _ => (pg_name (i := 4) nd rfl (Or.inl rfl))) (fun _ _ _ _ _ => pts_nil) (fun _ _ _ _ _ => (pe_op op_add pe_int (pe_callH h_law_draw hr (by decide) rfl (pa_cons (pv 1) (pa_cons pe_int pa_nil)))))) pa_nil))) (pss_cons (ps_if (pt_not (pt_val (pe_callG h_law_is_block hG hr (by decide) rfl (pa_cons (pv 1) (pa_cons (pv 2) (pa_cons (pv 3) pa_nil)))))) (pss_one (ps_ret pe_bl)) pss_nil) (pss_cons (ps_set (i := 5) nd rfl (Or.inl rfl) (pe_op op_add pe_int (pe_callH h_law_draw hr (by decide) rfl (pa_cons (pv 1) (pa_cons (pe_op op_sub (pv 2) pe_int) pa_nil))))) (pss_cons (ps_if (pt_not (pt_val (pe_callG h_law_same hG hr (by decide) rfl (pa_cons (pe_op op_mul (pe_callH h_many_with hr (by decide) rfl (pa_cons (pv 2) (pa_cons (pv 3) (pa_cons (pv 5) pa_nil)))) (pe_op op_sub (pv 2) pe_int)) (pa_cons (pe_callH h_many_steps hr (by decide) rfl (pa_cons (pv 2) (pa_cons (pv 3) pa_nil))) pa_nil))))) (pss_one (ps_ret pe_bl)) pss_nil) (pss_cons (ps_set (i := 6) nd rfl (Or.inr rfl) (pe_callH h_law_field hr (by decide) rfl (pa_cons (pv 1) pa_nil))) (pss_cons (ps_setLc (i := 7) (own := [("_law_turn", 4)]) rfl nd rfl rfl (sw_true rfl rfl rfl (by decide +kernel)) (pi_range1 rfl (T.free 9 _ rfl) (pa_cons pe_int pa_nil)) (blkOk_by (own := [("_law_turn", 4)]) (N := N_law) (sc := defScope s_law) (by decide +kernel)) (fun _ _ _ _ _ => (pg_name (i := 4) nd rfl (Or.inl rfl))) (fun _ _ _ _ _ => pts_nil) (fun _ _ _ _ _ => (pe_callH h_law_step hr (by decide) rfl (pa_cons (pv 1) (pa_cons (pv 6) (pa_cons (pe_callH h_law_pick hr (by decide) rfl (pa_cons (pv 1) (pa_cons (pe_tup (pa_cons pe_int (pa_cons pe_int (pa_cons pe_int (pa_cons pe_int pa_nil))))) pa_nil))) pa_nil)))))) (pss_cons (ps_for PassesOwn.never rfl (pi_list (pv 7)) (pg_name (i := 8) nd rfl (Or.inl rfl)) (pss_cons (ps_if (pt_not (pt_val (pe_callG h_law_is_moved hG hr (by decide) rfl (pa_cons (pv 1) (pa_cons (pv 6) (pa_cons (pv 8) pa_nil)))))) (pss_one (ps_ret pe_bl)) pss_nil) (pss_one (ps_if (PW.pt (pw_and (pt_cmpR op_lt (pe_callH h_law_size hr (by decide) rfl (pa_cons (pv 8) pa_nil)) pe_int (nomark _)) (pw_and1 (pt_not (pt_val (pe_callG h_law_same hG hr (by decide) rfl (pa_cons (pe_callH h_determinant hr (by decide) rfl (pa_cons (pv 6) (pa_cons (pe_callH h_pair_of hr (by decide) rfl (pa_cons (pv 6) (pa_cons (pv 8) pa_nil))) pa_nil))) (pa_cons (pe_tup (pa_cons (pe_tup (pa_cons pe_int (pa_cons pe_int (pa_cons (pe_callH h_law_told hr (by decide) rfl (pa_cons (pv 6) (pa_cons (pv 8) pa_nil))) pa_nil)))) pa_nil)) pa_nil)))))))) (pss_one (ps_ret pe_bl)) pss_nil)))) (pss_cons (ps_set (i := 9) nd rfl (Or.inl rfl) (pe_callH h_law_by hr (by decide) rfl (pa_cons (pv 6) (pa_cons (pe_callH h_law_told hr (by decide) rfl (pa_cons (pv 6) (pa_cons (pe_ix ix_list (pv 7) pe_int (fun _ _ => rfl)) pa_nil))) (pa_cons (pe_callH h_law_told hr (by decide) rfl (pa_cons (pv 6) (pa_cons (pe_ix ix_list (pv 7) pe_int (fun _ _ => rfl)) pa_nil))) pa_nil))))) (pss_one (ps_ret (pe_callG h_law_same hG hr (by decide) rfl (pa_cons (pe_callH h_determinant_of hr (by decide) rfl (pa_cons (pv 6) (pa_cons (pe_callH h_product hr (by decide) rfl (pa_cons (pv 6) (pa_cons (pe_ix ix_list (pv 7) pe_int (fun _ _ => rfl)) (pa_cons (pe_ix ix_list (pv 7) pe_int (fun _ _ => rfl)) pa_nil)))) pa_nil))) (pa_cons (pv 9) pa_nil))))))))))))))), ?_⟩
  obtain ⟨a, ns, rfl, hq, hQ⟩ := h
  have dl : DpAll K H [V.ref a] [.list (ns.map PyData.int)] := .cons (.lst hq (dpA_of_ints ns)) .nil
  refine mk_deck rfl hq fun p l D' H' kd t => ?_
  have sl0 : Sl K ((L2.start N_law [V.ref a]).set 1 (some (.ref p))) D' H (cut p l H') (startR N_law [.list (ns.map PyData.int)]) := ((sl_start dl).mono t).unset 1 (some (.ref p))
  refine (?_ : RunK 1 K _ (startR N_law [.list (ns.map PyData.int)]) (.rt (fun d => d = .bool true))) _ p l H D' H' _ rfl kd t.self sl0 fun d v D2 H2 hd _ _ pv => ?_
  · refine rk_set (S := fun d => ∃ q : Nat, Fld q ∧ d = .int q) (by decide) (ek_if (etk_gt (ek_draw (n := 4) ed_int (by decide) (by decide)) fun d ⟨k, _, e⟩ => ⟨_, e⟩) (fun _ => (ek_pick (ds := [2, 3, 4, 2, 3].map fun n : Nat => PyData.int n) (ed_tup (ea5 ed_int ed_int ed_int ed_int ed_int) (le5 rfl)) (by decide) (by decide)).to fun d hd => ?_) fun _ => ek_callK (ak_of ea_nil) fun ds e => ⟨_, by rw [e]; exact .mk, fun d hd => hd⟩) fun d ⟨q0, hf0, hd⟩ => ?_
    · obtain ⟨n, h1, rfl⟩ := List.mem_map.mp hd
      exact ⟨n, ⟨(by decide : ∀ n ∈ [2, 3, 4, 2, 3], n ∈ fields) n h1⟩, rfl⟩
    subst hd
    have hq0 := q_bd (q := q0)
    have em : ∀ {ρ : Ro}, ρ[2]? = some (.dat (.int q0)) → Ed K (tOp (rI0 fun i j => .int (i - j)) (tVar 2) (tC (.int 1))) ρ (.int ((q0 - 1 : Nat) : Int)) := fun h => ed_to (ed_op (ed_var h) ed_int (rd_I0 fun _ => .int _)) (congrArg PyData.int qm1)
    refine rk_set (S := fun d => ∃ ds : List Nat, (∀ d ∈ ds, 2 ≤ d ∧ d ≤ 6) ∧ ds.length ≤ 4 ∧ d = dsD ds) (by decide) (ek_cb (ak1 (ek_lcE (L := fun xs => ∃ k : Nat, k ≤ 4 ∧ xs = rgD 0 k) (S := fun d => ∃ n : Nat, 2 ≤ n ∧ n ≤ 6 ∧ d = .int n) (by decide) (ik_range (n := 4) (by decide) ((ak1 (ek_pick (ds := [1, 0, 2, 1, 3, 4].map fun n : Nat => PyData.int n) (ed_tup (ea6 ed_int ed_int ed_int ed_int ed_int ed_int) (le5 rfl)) (by decide) (by decide))).to fun ds ⟨d, e, hd⟩ => ?_)) (fun xs ⟨k, hk, e⟩ => by rw [e, rgD_len]; omega) fun xs j x _ hx => ⟨_, _, bd_name, fun a ha => ha, ek_op (ek_of (ed_int (i := 2))) (ek_draw (n := 5) ed_int (by decide) (by decide)) fun x y hx ⟨k, hk, hy⟩ => ?_⟩)) fun ds ⟨d, e, xs, es, ⟨k, hk, hxs⟩, h1, h2, h3⟩ => ?_) fun d ⟨ds, hds, hdl, hd⟩ => ?_
    · obtain ⟨n, h1, rfl⟩ := List.mem_map.mp hd
      exact ⟨n, (by decide : ∀ n ∈ [1, 0, 2, 1, 3, 4], n ≤ 4) n h1, e⟩
    · subst hx hy
      exact ⟨.int (2 + (k : Int)), rd_I0 fun _ => .int _, 2 + k, by omega, by omega, congrArg PyData.int (by omega)⟩
    · subst e h1
      obtain ⟨ns2, n1, n2, rfl⟩ := dsD_of h3
      refine ⟨_, rc_tupL, ns2, n1, ?_, rfl⟩
      rw [hxs, rgD_len, List.length_map] at h2
      omega
    subst hd
    refine rk_no (etk_nv (ek_callK (ak_of (ea2 (ed_var (d := .int q0) rfl) (ed_var (d := dsD ds) rfl))) fun ds' e => ⟨_, by rw [e]; exact .mk q0 ds hds (by omega), fun d hd => hd⟩)) ?_
    refine rk_set (by decide) (ek_draw1 (n := q0 - 1) (em rfl) (by omega) (by omega)) fun d ⟨num, _, _, hd⟩ => ?_
    subst hd
    refine rk_no (et_of (EdT.to (et_not (et_val (ed_call (ea2 (ed_to (ed_op (ed_call (ea3 (ed_var (d := .int q0) rfl) (ed_var (d := dsD ds) rfl) (ed_var (d := .int num) rfl)) (R_many_with.mk q0 ds hds (by omega) _)) (em rfl) (rd_I (cmulR (by omega) (by omega)) fun _ => .int _)) (x := .int (mstN q0 ds : Nat)) (congrArg PyData.int (by rw [nat_mul, mst_each]))) (ed_call (ea2 (ed_var (d := .int q0) rfl) (ed_var (d := dsD ds) rfl)) (R_many_steps.mk q0 ds hds (by omega)))) (R_law_same.mk _ (say_mst hds hdl))))) rfl)) ?_
    refine rk_set (S := fun d => ∃ q : Nat, Fld q ∧ d = .int q) (by decide) (ek_callK (ak_of ea_nil) fun ds e => ⟨_, by rw [e]; exact .mk, fun d hd => hd⟩) fun d ⟨q, hf, hd⟩ => ?_
    subst hd
    have hq := q_bd (q := q)
    refine rk_set (S := fun d => ∃ s0 s1 : ST q, s0.Ok ∧ s0.bends.length ≤ 3 ∧ s1.Ok ∧ s1.bends.length ≤ 3 ∧ d = .list [sD s0, sD s1]) (by decide) ((ek_lcm (S := fun d => ∃ s : ST q, s.Ok ∧ s.bends.length ≤ 3 ∧ d = sD s) (by decide) (ei_range1 (n := 2) (ea1 ed_int) (by decide) (by decide)) (by decide) fun j x hx => ⟨_, _, bd_name, fun a ha => ha, ek_callK (ak2 (ek_of (ed_var (d := .int q) rfl)) (ek_pick (ds := [1, 0, 2, 3].map fun n : Nat => PyData.int n) (ed_tup (ea4 ed_int ed_int ed_int ed_int) (le5 rfl)) (by decide) (by decide))) fun ds ⟨x, y, e, hx, hy⟩ => ?_⟩).to fun d ⟨es, h1, h2, h3⟩ => ?_) fun d ⟨s0, s1, k0, l0, k1, l1, hd⟩ => ?_
    · obtain ⟨n, hn, rfl⟩ := List.mem_map.mp hy
      have hn3 : n ≤ 3 := (by decide : ∀ n ∈ [1, 0, 2, 3], n ≤ 3) n hn
      subst hx
      exact ⟨fun d => ∃ s : ST q, s.Ok ∧ s.bends.length = n ∧ d = sD s, by rw [e]; exact .mk q n hn3, fun d ⟨s, h1, h2, h3⟩ => ⟨s, h1, by omega, h3⟩⟩
    · rw [rgD_len] at h2
      match es, h2 with
      | [a, b], _ =>
        obtain ⟨s0, a1, a2, rfl⟩ := h3 a List.mem_cons_self
        obtain ⟨s1, b1, b2, rfl⟩ := h3 b (List.mem_cons_of_mem _ List.mem_cons_self)
        exact ⟨s0, s1, a1, a2, b1, b2, h1⟩
    subst hd
    refine rk_for (fun j ρ1 => ∃ z : Sd, ρ1 = [.dat (.list (ns.map PyData.int)), .no, .dat (.int q0), .dat (dsD ds), .no, .dat (.int num), .dat (.int q), .dat (.list [sD s0, sD s1]), z, .no]) (ei_lst (xs := [sD s0, sD s1]) (ed_var rfl)) ⟨_, rfl⟩ (fun j x ρ1 ⟨z, e⟩ hx => ?_) fun ρ1 ⟨z, e⟩ => ?_
    · subst e
      obtain ⟨s, hs, hl, rfl⟩ : ∃ s : ST q, s.Ok ∧ s.bends.length ≤ 3 ∧ x = sD s := by
        match j, hx with
        | 0, hx => cases hx; exact ⟨s0, k0, l0, rfl⟩
        | 1, hx => cases hx; exact ⟨s1, k1, l1, rfl⟩
        | j + 2, hx => cases hx
      refine ⟨_, _, bd_name, by decide, ?_⟩
      refine rk_no (etk_nv (ek_callK (ak_of (ea2 (ed_var (d := .int q) rfl) (ed_var (d := sD s) rfl))) fun ds' e => ⟨_, by rw [e]; exact .mk q s hs hl, fun d hd => hd⟩)) ?_
      have hb7 : ∀ b ∈ s.bends, b.length ≤ 7 := fun b hb => (hs.bend b hb).hi
      refine rk_last (rk_no (et_of (EdT.to (et_and (a := decide ((rowDeg s.pieces : Int) < 7)) (b := false) (et_test (ed_op (ed_to (ed_call (ea1 (ed_var (d := sD s) rfl)) (R_law_size.mk q s (by omega) hb7)) (congrArg PyData.int (size_deg hs))) ed_int (rd_I0 fun _ => .bl _))) fun e => ?_) (Bool.and_false _))) (rk_end ⟨_, rfl⟩))
      have e := of_decide_eq_true e
      have hr := ST.pieces_ok hs
      obtain ⟨g1, g2, _⟩ := rowPair_aux (le := leK) s.pieces (pairM leK SM.one) 1 hr.1 (linP_ok _ _ _) (linP_ok _ _ _)
      rw [Nat.mul_one] at g1 g2
      exact EdT.to (et_not (et_val (ed_call (ea2 (ed_to (ed_call (ea2 (ed_var (d := .int q) rfl) (ed_call (ea2 (ed_var (d := .int q) rfl) (ed_var (d := sD s) rfl)) (R_pair_of.mk q s hs (by omega) (by omega)))) (R_determinant.mk q _ _ (rowDeg s.pieces) g1 g2 (by omega))) (congrArg PT (pair_det hs))) (ed_to (ed_tup (ea1 (ed_tup (ea3 ed_int ed_int (ed_call (ea2 (ed_var (d := .int q) rfl) (ed_var (d := sD s) rfl)) (R_law_told.mk q s (by have := hs.len; omega)))) (le5 rfl))) (le5 rfl)) (x := PT [((0, 0), s.det)]) rfl)) (R_law_same.mk _ (say_one s.det))))) rfl
    subst e
    have i0 : ∀ {ρ1 : Ro}, ρ1[7]? = some (.dat (.list [sD s0, sD s1])) → Ed K (tOp (rIxL K) (tVar 7) (tC (.int 0))) ρ1 (sD s0) := fun h => ed_op (ed_var h) ed_int (rd_ixL (i := 0) rfl)
    have i1 : ∀ {ρ1 : Ro}, ρ1[7]? = some (.dat (.list [sD s0, sD s1])) → Ed K (tOp (rIxL K) (tVar 7) (tC (.int 1))) ρ1 (sD s1) := fun h => ed_op (ed_var h) ed_int (rd_ixL (i := 1) rfl)
    have ok := ST.thn_ok k0 k1
    have hlen : (s0.thn s1).bends.length ≤ 1000 := by
      have h1 := ST.wPcs_le s1.pieces s0
      have h2 := ST.pieces_le s1
      show (s0.wPcs s1.pieces).bends.length ≤ 1000
      omega
    refine rk_of (run_set (d := nD (s0.det * s1.det)) (ed_call (ea3 (ed_var (d := .int q) rfl) (ed_call (ea2 (ed_var (d := .int q) rfl) (i0 rfl)) (R_law_told.mk q s0 (by have := k0.len; omega))) (ed_call (ea2 (ed_var (d := .int q) rfl) (i1 rfl)) (R_law_told.mk q s1 (by have := k1.len; omega)))) (R_law_by.mk q s0.det s1.det)) (run_last (run_ret (ed_call (ea2 (ed_to (ed_call (ea2 (ed_var (d := .int q) rfl) (ed_call (ea3 (ed_var (d := .int q) rfl) (i0 rfl) (i1 rfl)) (R_product.mk q s0 s1 k0 k1 (by omega) (by omega)))) (R_determinant_of.mk q (s0.thn s1) ok.1 hlen)) (congrArg nD ok.2)) (ed_var (d := nD (s0.det * s1.det)) rfl)) (R_law_same.mk _ (Sh.int (sh_nD _) (by decide))))))) rfl
  · subst hd
    rw [dp_bl pv]
    exact hQ H2
end
end K19

/-! TEXT K19End -/
set_option Elab.async false
set_option linter.all false
set_option maxRecDepth 100000
set_option maxHeartbeats 4000000
set_option autoImplicit false
/-! THE END. -/
namespace K19
open PySem PySem.Spec PyProof.Rows L2
open Evl (Ex)
/-- the law's call, at the heap behind the top -/
theorem law_callG {P : Program} {w : World} {K : PySem.W.Frag} {mg mb : Str → Option Value} {k : Nat} {f a : Addr} {x n : Str} {s : Shared} {vs : List Value} {ns : List Int} (hK : K.In s.heap) (hn : s.heap.Ns mainGlobals mg) (hb : s.heap.Ns builtinsNs mb) (hbb : ∀ y : Str, y ≠ "__name__" → mb y = bootBuiltins y)
    (hl : s.heap.NoLimit) (hg : s.gens = #[]) (ho : s.heap.get? a = some { cls := .type "list", data := .seq vs.toArray }) (hi : IntsAre vs ns) (hz : ns.length ≤ sizeLine) (hr : Room k callerA) (gg : callerA.guards = some []) (hm : mg n = some (.ref f))
    (F : ∀ base : Heap, K.In base → base.Ns mainGlobals mg → HasG P w K mg base k n [x] (spLaw K)) :
    codeAny (model P w) callerA (.call (.ref f) ⟨[.ref a], []⟩) (fun r s' => r = .ok (.ret (.bool true)) ∧ OldK s.heap s'.heap ∧ s'.os = s.os ∧ AllBare s'.gens) s := by
  have rv := vals_ints hi
  have main : ∀ H : Hp, (∀ b, H b = none ∨ ∃ o xs, H b = some (.frz o (.lst xs))) → SqL K H a (ns.map V.int) → HOk P w H s.heap → (∀ b, H b ≠ none → b = a) → (H a ≠ none → K.lookup a = none) →
      codeAny (model P w) callerA (.call (.ref f) ⟨[.ref a], []⟩) (fun r s' => r = .ok (.ret (.bool true)) ∧ OldK s.heap s'.heap ∧ s'.os = s.os ∧ AllBare s'.gens) s := by
    intro H hO hS hok hA hL
    have stay : ∀ {b : Addr} {o : Obj}, s.heap.get? b = some o → H b = none → (hidT s.heap H).get? b = some o := fun e z => hidT_get e z
    have away : ∀ {b : Addr} {o : Obj} {es : Array DictEntry} {ep : Nat}, s.heap.get? b = some o → o.data = .dict es ep → H b = none := fun {b o es ep} e d => by
      cases q : H b with
      | none => rfl
      | some u =>
        obtain rfl := hA b (by rw [q]; exact fun z => nomatch z)
        rw [ho] at e
        cases e
        cases d
    have nsK : ∀ {b : Addr} {m : Str → Option Value}, s.heap.Ns b m → (hidT s.heap H).Ns b m := fun {b m} h => by
      obtain ⟨o, es, ep, e, d, r⟩ := h
      exact ⟨o, es, ep, stay e (away e d), d, r⟩
    have inK : K.In (hidT s.heap H) := fun b o e => stay (hK b o e) (by
      cases q : H b with
      | none => rfl
      | some u =>
        obtain rfl := hA b (by rw [q]; exact fun z => nomatch z)
        rw [hL (by rw [q]; exact fun z => nomatch z)] at e
        cases e)
    have lim : (hidT s.heap H).NoLimit := by
      obtain ⟨mc, l1, l2⟩ := hl
      exact ⟨mc, nsK l1, l2⟩
    have e0 : Env0 P w K mg (hidT s.heap H) callerA [] s H := ⟨rfl, ⟨inK, nsK hn, ⟨mb, nsK hb, hbb⟩, lim⟩, fun b o e => of_hidT e, Nat.le_of_eq (hidT_size _ _), trivial, fun b z => absurd z List.not_mem_nil, hok, .of_eq hg⟩
    obtain ⟨f2, fd, m1, m2, m3, G⟩ := (F _ inK (nsK hn)).ex
    rw [hm] at m1
    cases m1
    have bt := m3 s [.ref a] hK rfl
    rw [List.append_nil] at bt
    refine codeAny_mono (G.go callerA [] s H ⟨[.ref a], []⟩ [.ref a] [.ref a] (fun v _ => v = .bl true) E0 gg hr e0 bt (.cons rfl .nil) ⟨a, ns, rfl, hS, fun _ => rfl⟩) fun r s' z => ?_
    cases r with
    | error e => exact z.elim
    | ok fl =>
      cases fl with
      | next => exact z.elim
      | brk => exact z.elim
      | cont => exact z.elim
      | ret u =>
        obtain ⟨v, H', os, bare, un, hok', r', q⟩ := z
        have q' : v = .bl true := q
        subst q'
        obtain rfl : u = Value.bool true := r'
        refine ⟨rfl, OldK.of_keep fun b o e => ?_, os, bare⟩
        cases c : H b with
        | none => exact un.keep b o e c (fun z => absurd z List.not_mem_nil) (fun z => absurd z List.not_mem_nil)
        | some u2 =>
          rcases hO b with z | ⟨ob, xs, z⟩
          · rw [c] at z
            cases z
          · obtain ⟨e1, _⟩ := hok b _ z
            obtain ⟨e2, _⟩ := hok' b _ (un.frzs b ob _ z)
            rw [e] at e1
            cases e1
            exact e2
  cases hk : K.lookup a with
  | some o =>
    have e := hK a o hk
    rw [ho] at e
    cases e
    exact main (fun _ => none) (fun _ => .inl rfl) (.inr ⟨_, vs.toArray, _, hk, rfl, rfl, rfl, by rw [List.size_toArray, hi.length]; exact hz, by simpa using rv⟩) (fun b u z => by cases z) (fun b z => absurd rfl z) fun z => absurd rfl z
  | none =>
    let u0 : HO := .frz { cls := .type "list", data := .seq vs.toArray } (.lst (ns.map V.int))
    have at_ : ∀ b : Addr, (if b = a then some u0 else none) = none ∨ (b = a ∧ (if b = a then some u0 else none) = some u0) := fun b => by
      by_cases c : b = a
      · exact .inr ⟨c, if_pos c⟩
      · exact .inl (if_neg c)
    refine main (fun b => if b = a then some u0 else none) (fun b => (at_ b).imp id fun z => ⟨_, _, z.2⟩) (.inl (.inr ⟨_, if_pos rfl⟩)) (fun b u z => ?_) (fun b z => ?_) fun _ => hk
    · rcases at_ b with y | ⟨rfl, y⟩
      · exact nomatch y.symm.trans z
      · have e := Option.some.inj (y.symm.trans z)
        subst e
        exact ⟨ho, by rw [List.length_map]; exact hz, vs, _, rv, ho⟩
    · rcases at_ b with y | ⟨rfl, y⟩
      · exact absurd y z
      · rfl
theorem law_walk {q : Program} {loose : List Str} {XP : (Str → Option Value) → Heap → Prop} {YP : World → Heap → Prop} {l : PySem.W.OpenLaw} {n k : Nat} {d : DefRec} {x : Str} (hn : l.most = some n) (hz : n ≤ sizeLine) (hd : d.params.defaults = []) (hr : Room k callerA) (gg : callerA.guards = some [])
    (F : ∀ (w : World) (h : Heap) (mg : Str → Option Value), YP w h → h.Ns mainGlobals mg → ∃ K : PySem.W.Frag, K.In h ∧ ∀ base : Heap, K.In base → base.Ns mainGlobals mg → HasG l.prog w K mg base k d.name [x] (spLaw K)) :
    PySem.W.WalkO q loose XP YP l.row.toRowW d [] (fun f vs => PySem.call f vs) := by
  refine Att.attach_call hn hd fun w s0 s1 mg mb fa o pm cd doc a vs ns G Y _ _ _ hmg hobj hints hlen hg => ?_
  obtain ⟨K, hK, hF⟩ := F w s1.heap mg Y G.T.g
  exact law_callG hK G.T.g G.T.b G.T.builtins G.T.nolimit hg hobj hints (Nat.le_trans hlen hz) hr gg hmg hF
end K19
open PySem PySem.W PySem.Calls PyProof.Rows
theorem PySem.Challenge.cw_bentplane_k19_whole_just_as_many_of_each_holds : PySem.Challenge.rw_bentplane_k19_whole_just_as_many_of_each.Holds := by
  w_on; o_law
  refine HandSHeadRun.head_any (r := K19.R) (q := view K19.R.prog [K19.lawAt]) (H := K19.hk) (ob := K19.ob) (M := 4000) (loose := K19.loose) (d := HandSHeadRun.topDef K19.R.prog K19.lawAt) (kwd := []) K19.ob_eq
    (by kernel_rfl) (fun s => by kernel_rfl) K19.run (by kernel_rfl) (by kernel_rfl) (by kernel_rfl) (by rfl) (by first | assumption | decide +kernel) (by decide +kernel) ⟨rfl, rfl, rfl, rfl, rfl, by decide +kernel⟩ ?hw ?hc
  case hw => w_witness2
  case hc =>
    refine K19.law_walk (l := PySem.Challenge.rw_bentplane_k19_whole_just_as_many_of_each) (n := 63) (k := 11) (x := "_law_script") rfl (by decide) (by kernel_rfl) ⟨rfl, by decide, by decide⟩ rfl fun w h mg Y G => ?_
    obtain ⟨K, KX, c⟩ := Y
    have e : (HandSHeadRun.topDef K19.R.prog K19.lawAt).name = ("law" : PySem.Str) := by kernel_rfl
    rw [e]
    exact ⟨K, KX, fun base _ _ => K19.ok_law (K19.top_of c KX G)⟩

