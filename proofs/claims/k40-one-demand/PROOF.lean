import PyProof.Rows.All
import Wide.All
import OpenK.AllK
import Wide.FinOn
import HandS.ForMost
import HandS.Defaults
import HandS.Exc
import HandS.HeadEnd
import HandS.HeadHook1
import HandS.HeadHook2
import PySem.Challenge.RW_elderalike_k40_whole_books_of_one_demand
import KE.KStateDown
import HandS.Head0
import HandS.Head1
import HandS.Head2
import HandS.TupAny
import HandS.Walk
import HandS.Flow
import HandS.IsInst
import HandS.DictComp
import HandS.TupSets
import HandS.SortInts
import HandS.Replace
import HandS.Conv
import HandS.Wide
import HandS.Deep
import HandS.Style
import KE.KDictKeyed
import KE.KDictWalk
import KE.KDictPairs
import KE.GoesMore
import KE.KDictZip
import KE.GoesZip
import KE.GoesEnum
import KE.KEqNest
import HandS.DictEq
set_option Elab.async false
set_option linter.all false
set_option maxRecDepth 100000
/-! The text by places, and the facts of what its top leaves, by names. (Printed by genhead.py.) -/
namespace Eld
open PySem PySem.Spec PyProof.Rows L2
def top (i : Nat) : Stmt := PySem.Challenge.pw_elderalike_k40_whole_books_of_one_demand.main.body.getD i (.Pass ⟨0, 0, 0, 0⟩)
abbrev s_is_integer : Stmt := top 11
abbrev s_is_within : Stmt := top 12
abbrev s_is_pair : Stmt := top 13
abbrev s_is_of : Stmt := top 14
abbrev s_is_label : Stmt := top 15
abbrev s_is_comer : Stmt := top 17
abbrev s_are_unlike : Stmt := top 18
abbrev s_common_divisor : Stmt := top 19
abbrev s_check_number : Stmt := top 22
abbrev s_is_world : Stmt := top 27
abbrev s_told_in : Stmt := top 29
abbrev s_is_factor_nought : Stmt := top 32
abbrev s_is_table : Stmt := top 41
abbrev s_are_tables : Stmt := top 42
abbrev s_is_term : Stmt := top 43
abbrev s_is_demand : Stmt := top 44
abbrev s_Book___init__ : Stmt := inClass (top 45) 0
abbrev s_letters_in : Stmt := top 46
abbrev s_most_letters : Stmt := top 47
abbrev s_arrangements : Stmt := top 48
abbrev s_instances_of : Stmt := top 49
abbrev s_left_of : Stmt := top 50
abbrev s_equation_of : Stmt := top 51
abbrev s_are_names : Stmt := top 55
abbrev s_are_numbers : Stmt := top 57
abbrev s_Party___init__ : Stmt := inClass (top 58) 0
abbrev s_comers : Stmt := top 59
abbrev s_places_of : Stmt := top 60
abbrev s_all_folk : Stmt := top 61
abbrev s_bezout : Stmt := top 63
abbrev s_opening_unit : Stmt := top 64
abbrev s_scaled : Stmt := top 65
abbrev s_items_scaled : Stmt := top 66
abbrev s_items_added : Stmt := top 67
abbrev s_mixed_clockrows : Stmt := top 68
abbrev s_ClockRows___init__ : Stmt := inClass (top 70) 0
abbrev s_ClockRows_put : Stmt := inClass (top 70) 1
abbrev s_ClockRows_put_at : Stmt := inClass (top 70) 2
abbrev s_ClockRows_open_step : Stmt := inClass (top 70) 3
abbrev s_ClockRows_settle : Stmt := inClass (top 70) 4
abbrev s_ClockRows_number_at : Stmt := inClass (top 70) 5
abbrev s_ClockRows_solution : Stmt := inClass (top 70) 6
abbrev s_clock_rows : Stmt := top 71
abbrev s_numbered : Stmt := top 85
abbrev s_named : Stmt := top 86
abbrev s_weight_list : Stmt := top 88
abbrev s_clock_solved : Stmt := top 89
abbrev s_solved : Stmt := top 93
abbrev s_opened : Stmt := top 95
abbrev s_open_equations : Stmt := top 96
abbrev s_unknowns_of : Stmt := top 97
abbrev s_told_for : Stmt := top 98
abbrev s_filling : Stmt := top 99
abbrev s_refusal : Stmt := top 100
abbrev s_ranked : Stmt := top 103
abbrev s_place_form : Stmt := top 104
abbrev s_forms_of : Stmt := top 105
abbrev s_forms : Stmt := top 106
abbrev s_formed : Stmt := top 107
abbrev s_rule_folk : Stmt := top 108
abbrev s_form_equations : Stmt := top 109
abbrev s_rule_rows : Stmt := top 110
abbrev s_rule : Stmt := top 111
abbrev s_served_so_far : Stmt := top 113
abbrev s_served : Stmt := top 114
abbrev s__law_feed : Stmt := top 116
abbrev s__law_draw : Stmt := top 117
abbrev s__law_words : Stmt := top 118
abbrev s__law_pick : Stmt := top 119
abbrev s__law_rows : Stmt := top 120
abbrev s__law_spots : Stmt := top 121
abbrev s__law_letters : Stmt := top 122
abbrev s__law_terms : Stmt := top 123
abbrev s__law_total : Stmt := top 124
abbrev s__law_is_right : Stmt := top 125
abbrev s__law_form : Stmt := top 126
abbrev s__law_forms : Stmt := top 127
abbrev s__law_most : Stmt := top 128
abbrev s__law_folk : Stmt := top 129
abbrev s__law_equations : Stmt := top 130
abbrev s__law_lines : Stmt := top 131
abbrev s__law_meets : Stmt := top 132
abbrev s__law_search : Stmt := top 133
abbrev s__law_one_demand : Stmt := top 134
abbrev s__law_first_bad : Stmt := top 135
abbrev s_law : Stmt := top 136
def d_is_integer : He.DefD := ⟨("is_integer", none), "is_integer", "is_integer", defArgs s_is_integer, defBody s_is_integer, defScope s_is_integer, [], []⟩
def d_is_within : He.DefD := ⟨("is_within", none), "is_within", "is_within", defArgs s_is_within, defBody s_is_within, defScope s_is_within, [], []⟩
def d_is_pair : He.DefD := ⟨("is_pair", none), "is_pair", "is_pair", defArgs s_is_pair, defBody s_is_pair, defScope s_is_pair, [], []⟩
def d_is_of : He.DefD := ⟨("is_of", none), "is_of", "is_of", defArgs s_is_of, defBody s_is_of, defScope s_is_of, [], []⟩
def d_is_label : He.DefD := ⟨("is_label", none), "is_label", "is_label", defArgs s_is_label, defBody s_is_label, defScope s_is_label, [], []⟩
def d_is_comer : He.DefD := ⟨("is_comer", none), "is_comer", "is_comer", defArgs s_is_comer, defBody s_is_comer, defScope s_is_comer, [], []⟩
def d_are_unlike : He.DefD := ⟨("are_unlike", none), "are_unlike", "are_unlike", defArgs s_are_unlike, defBody s_are_unlike, defScope s_are_unlike, [], []⟩
def d_common_divisor : He.DefD := ⟨("common_divisor", none), "common_divisor", "common_divisor", defArgs s_common_divisor, defBody s_common_divisor, defScope s_common_divisor, [], []⟩
def d_check_number : He.DefD := ⟨("check_number", none), "check_number", "check_number", defArgs s_check_number, defBody s_check_number, defScope s_check_number, [], []⟩
def d_is_world : He.DefD := ⟨("is_world", none), "is_world", "is_world", defArgs s_is_world, defBody s_is_world, defScope s_is_world, [], []⟩
def d_told_in : He.DefD := ⟨("told_in", none), "told_in", "told_in", defArgs s_told_in, defBody s_told_in, defScope s_told_in, [], []⟩
def d_is_factor_nought : He.DefD := ⟨("is_factor_nought", none), "is_factor_nought", "is_factor_nought", defArgs s_is_factor_nought, defBody s_is_factor_nought, defScope s_is_factor_nought, [], []⟩
def d_is_table : He.DefD := ⟨("is_table", none), "is_table", "is_table", defArgs s_is_table, defBody s_is_table, defScope s_is_table, [], []⟩
def d_are_tables : He.DefD := ⟨("are_tables", none), "are_tables", "are_tables", defArgs s_are_tables, defBody s_are_tables, defScope s_are_tables, [], []⟩
def d_is_term : He.DefD := ⟨("is_term", none), "is_term", "is_term", defArgs s_is_term, defBody s_is_term, defScope s_is_term, [], []⟩
def d_is_demand : He.DefD := ⟨("is_demand", none), "is_demand", "is_demand", defArgs s_is_demand, defBody s_is_demand, defScope s_is_demand, [], []⟩
def d_Book___init__ : He.DefD := ⟨("Book", some "__init__"), "__init__", "Book.__init__", defArgs s_Book___init__, defBody s_Book___init__, defScope s_Book___init__, [], []⟩
def d_letters_in : He.DefD := ⟨("letters_in", none), "letters_in", "letters_in", defArgs s_letters_in, defBody s_letters_in, defScope s_letters_in, [], []⟩
def d_most_letters : He.DefD := ⟨("most_letters", none), "most_letters", "most_letters", defArgs s_most_letters, defBody s_most_letters, defScope s_most_letters, [], []⟩
def d_arrangements : He.DefD := ⟨("arrangements", none), "arrangements", "arrangements", defArgs s_arrangements, defBody s_arrangements, defScope s_arrangements, [], []⟩
def d_instances_of : He.DefD := ⟨("instances_of", none), "instances_of", "instances_of", defArgs s_instances_of, defBody s_instances_of, defScope s_instances_of, [], []⟩
def d_left_of : He.DefD := ⟨("left_of", none), "left_of", "left_of", defArgs s_left_of, defBody s_left_of, defScope s_left_of, [], []⟩
def d_equation_of : He.DefD := ⟨("equation_of", none), "equation_of", "equation_of", defArgs s_equation_of, defBody s_equation_of, defScope s_equation_of, [], []⟩
def d_are_names : He.DefD := ⟨("are_names", none), "are_names", "are_names", defArgs s_are_names, defBody s_are_names, defScope s_are_names, [], []⟩
def d_are_numbers : He.DefD := ⟨("are_numbers", none), "are_numbers", "are_numbers", defArgs s_are_numbers, defBody s_are_numbers, defScope s_are_numbers, [], []⟩
def d_Party___init__ : He.DefD := ⟨("Party", some "__init__"), "__init__", "Party.__init__", defArgs s_Party___init__, defBody s_Party___init__, defScope s_Party___init__, [], []⟩
def d_comers : He.DefD := ⟨("comers", none), "comers", "comers", defArgs s_comers, defBody s_comers, defScope s_comers, [], []⟩
def d_places_of : He.DefD := ⟨("places_of", none), "places_of", "places_of", defArgs s_places_of, defBody s_places_of, defScope s_places_of, [], []⟩
def d_all_folk : He.DefD := ⟨("all_folk", none), "all_folk", "all_folk", defArgs s_all_folk, defBody s_all_folk, defScope s_all_folk, [], []⟩
def d_bezout : He.DefD := ⟨("bezout", none), "bezout", "bezout", defArgs s_bezout, defBody s_bezout, defScope s_bezout, [], []⟩
def d_opening_unit : He.DefD := ⟨("opening_unit", none), "opening_unit", "opening_unit", defArgs s_opening_unit, defBody s_opening_unit, defScope s_opening_unit, [], []⟩
def d_scaled : He.DefD := ⟨("scaled", none), "scaled", "scaled", defArgs s_scaled, defBody s_scaled, defScope s_scaled, [], []⟩
def d_items_scaled : He.DefD := ⟨("items_scaled", none), "items_scaled", "items_scaled", defArgs s_items_scaled, defBody s_items_scaled, defScope s_items_scaled, [], []⟩
def d_items_added : He.DefD := ⟨("items_added", none), "items_added", "items_added", defArgs s_items_added, defBody s_items_added, defScope s_items_added, [], []⟩
def d_mixed_clockrows : He.DefD := ⟨("mixed_clockrows", none), "mixed", "mixed", defArgs s_mixed_clockrows, defBody s_mixed_clockrows, defScope s_mixed_clockrows, [], []⟩
def d_ClockRows___init__ : He.DefD := ⟨("ClockRows", some "__init__"), "__init__", "ClockRows.__init__", defArgs s_ClockRows___init__, defBody s_ClockRows___init__, defScope s_ClockRows___init__, [], []⟩
def d_ClockRows_put : He.DefD := ⟨("ClockRows", some "put"), "put", "ClockRows.put", defArgs s_ClockRows_put, defBody s_ClockRows_put, defScope s_ClockRows_put, [], []⟩
def d_ClockRows_put_at : He.DefD := ⟨("ClockRows", some "put_at"), "put_at", "ClockRows.put_at", defArgs s_ClockRows_put_at, defBody s_ClockRows_put_at, defScope s_ClockRows_put_at, [], []⟩
def d_ClockRows_open_step : He.DefD := ⟨("ClockRows", some "open_step"), "open_step", "ClockRows.open_step", defArgs s_ClockRows_open_step, defBody s_ClockRows_open_step, defScope s_ClockRows_open_step, [], []⟩
def d_ClockRows_settle : He.DefD := ⟨("ClockRows", some "settle"), "settle", "ClockRows.settle", defArgs s_ClockRows_settle, defBody s_ClockRows_settle, defScope s_ClockRows_settle, [], []⟩
def d_ClockRows_number_at : He.DefD := ⟨("ClockRows", some "number_at"), "number_at", "ClockRows.number_at", defArgs s_ClockRows_number_at, defBody s_ClockRows_number_at, defScope s_ClockRows_number_at, [], []⟩
def d_ClockRows_solution : He.DefD := ⟨("ClockRows", some "solution"), "solution", "ClockRows.solution", defArgs s_ClockRows_solution, defBody s_ClockRows_solution, defScope s_ClockRows_solution, [], []⟩
def d_clock_rows : He.DefD := ⟨("clock_rows", none), "clock_rows", "clock_rows", defArgs s_clock_rows, defBody s_clock_rows, defScope s_clock_rows, [], []⟩
def d_numbered : He.DefD := ⟨("numbered", none), "numbered", "numbered", defArgs s_numbered, defBody s_numbered, defScope s_numbered, [], []⟩
def d_named : He.DefD := ⟨("named", none), "named", "named", defArgs s_named, defBody s_named, defScope s_named, [], []⟩
def d_weight_list : He.DefD := ⟨("weight_list", none), "weight_list", "weight_list", defArgs s_weight_list, defBody s_weight_list, defScope s_weight_list, [], []⟩
def d_clock_solved : He.DefD := ⟨("clock_solved", none), "clock_solved", "clock_solved", defArgs s_clock_solved, defBody s_clock_solved, defScope s_clock_solved, [], []⟩
def d_solved : He.DefD := ⟨("solved", none), "solved", "solved", defArgs s_solved, defBody s_solved, defScope s_solved, [], []⟩
def d_opened : He.DefD := ⟨("opened", none), "opened", "opened", defArgs s_opened, defBody s_opened, defScope s_opened, [], []⟩
def d_open_equations : He.DefD := ⟨("open_equations", none), "open_equations", "open_equations", defArgs s_open_equations, defBody s_open_equations, defScope s_open_equations, [], []⟩
def d_unknowns_of : He.DefD := ⟨("unknowns_of", none), "unknowns_of", "unknowns_of", defArgs s_unknowns_of, defBody s_unknowns_of, defScope s_unknowns_of, [], []⟩
def d_told_for : He.DefD := ⟨("told_for", none), "told_for", "told_for", defArgs s_told_for, defBody s_told_for, defScope s_told_for, [], []⟩
def d_filling : He.DefD := ⟨("filling", none), "filling", "filling", defArgs s_filling, defBody s_filling, defScope s_filling, [], []⟩
def d_refusal : He.DefD := ⟨("refusal", none), "refusal", "refusal", defArgs s_refusal, defBody s_refusal, defScope s_refusal, [], []⟩
def d_ranked : He.DefD := ⟨("ranked", none), "ranked", "ranked", defArgs s_ranked, defBody s_ranked, defScope s_ranked, [], []⟩
def d_place_form : He.DefD := ⟨("place_form", none), "place_form", "place_form", defArgs s_place_form, defBody s_place_form, defScope s_place_form, [], []⟩
def d_forms_of : He.DefD := ⟨("forms_of", none), "forms_of", "forms_of", defArgs s_forms_of, defBody s_forms_of, defScope s_forms_of, [], []⟩
def d_forms : He.DefD := ⟨("forms", none), "forms", "forms", defArgs s_forms, defBody s_forms, defScope s_forms, [], []⟩
def d_formed : He.DefD := ⟨("formed", none), "formed", "formed", defArgs s_formed, defBody s_formed, defScope s_formed, [], []⟩
def d_rule_folk : He.DefD := ⟨("rule_folk", none), "rule_folk", "rule_folk", defArgs s_rule_folk, defBody s_rule_folk, defScope s_rule_folk, [], []⟩
def d_form_equations : He.DefD := ⟨("form_equations", none), "form_equations", "form_equations", defArgs s_form_equations, defBody s_form_equations, defScope s_form_equations, [], []⟩
def d_rule_rows : He.DefD := ⟨("rule_rows", none), "rule_rows", "rule_rows", defArgs s_rule_rows, defBody s_rule_rows, defScope s_rule_rows, [], []⟩
def d_rule : He.DefD := ⟨("rule", none), "rule", "rule", defArgs s_rule, defBody s_rule, defScope s_rule, [], []⟩
def d_served_so_far : He.DefD := ⟨("served_so_far", none), "served_so_far", "served_so_far", defArgs s_served_so_far, defBody s_served_so_far, defScope s_served_so_far, [], []⟩
def d_served : He.DefD := ⟨("served", none), "served", "served", defArgs s_served, defBody s_served, defScope s_served, [], []⟩
def d__law_feed : He.DefD := ⟨("_law_feed", none), "_law_feed", "_law_feed", defArgs s__law_feed, defBody s__law_feed, defScope s__law_feed, [], []⟩
def d__law_draw : He.DefD := ⟨("_law_draw", none), "_law_draw", "_law_draw", defArgs s__law_draw, defBody s__law_draw, defScope s__law_draw, [], []⟩
def d__law_words : He.DefD := ⟨("_law_words", none), "_law_words", "_law_words", defArgs s__law_words, defBody s__law_words, defScope s__law_words, [], []⟩
def d__law_pick : He.DefD := ⟨("_law_pick", none), "_law_pick", "_law_pick", defArgs s__law_pick, defBody s__law_pick, defScope s__law_pick, [], []⟩
def d__law_rows : He.DefD := ⟨("_law_rows", none), "_law_rows", "_law_rows", defArgs s__law_rows, defBody s__law_rows, defScope s__law_rows, [], []⟩
def d__law_spots : He.DefD := ⟨("_law_spots", none), "_law_spots", "_law_spots", defArgs s__law_spots, defBody s__law_spots, defScope s__law_spots, [], []⟩
def d__law_letters : He.DefD := ⟨("_law_letters", none), "_law_letters", "_law_letters", defArgs s__law_letters, defBody s__law_letters, defScope s__law_letters, [], []⟩
def d__law_terms : He.DefD := ⟨("_law_terms", none), "_law_terms", "_law_terms", defArgs s__law_terms, defBody s__law_terms, defScope s__law_terms, [], []⟩
def d__law_total : He.DefD := ⟨("_law_total", none), "_law_total", "_law_total", defArgs s__law_total, defBody s__law_total, defScope s__law_total, [], []⟩
def d__law_is_right : He.DefD := ⟨("_law_is_right", none), "_law_is_right", "_law_is_right", defArgs s__law_is_right, defBody s__law_is_right, defScope s__law_is_right, [], []⟩
def d__law_form : He.DefD := ⟨("_law_form", none), "_law_form", "_law_form", defArgs s__law_form, defBody s__law_form, defScope s__law_form, [], []⟩
def d__law_forms : He.DefD := ⟨("_law_forms", none), "_law_forms", "_law_forms", defArgs s__law_forms, defBody s__law_forms, defScope s__law_forms, [], []⟩
def d__law_most : He.DefD := ⟨("_law_most", none), "_law_most", "_law_most", defArgs s__law_most, defBody s__law_most, defScope s__law_most, [], []⟩
def d__law_folk : He.DefD := ⟨("_law_folk", none), "_law_folk", "_law_folk", defArgs s__law_folk, defBody s__law_folk, defScope s__law_folk, [], []⟩
def d__law_equations : He.DefD := ⟨("_law_equations", none), "_law_equations", "_law_equations", defArgs s__law_equations, defBody s__law_equations, defScope s__law_equations, [], []⟩
def d__law_lines : He.DefD := ⟨("_law_lines", none), "_law_lines", "_law_lines", defArgs s__law_lines, defBody s__law_lines, defScope s__law_lines, [], []⟩
def d__law_meets : He.DefD := ⟨("_law_meets", none), "_law_meets", "_law_meets", defArgs s__law_meets, defBody s__law_meets, defScope s__law_meets, [], []⟩
def d__law_search : He.DefD := ⟨("_law_search", none), "_law_search", "_law_search", defArgs s__law_search, defBody s__law_search, defScope s__law_search, [], []⟩
def d__law_one_demand : He.DefD := ⟨("_law_one_demand", none), "_law_one_demand", "_law_one_demand", defArgs s__law_one_demand, defBody s__law_one_demand, defScope s__law_one_demand, [], []⟩
def d__law_first_bad : He.DefD := ⟨("_law_first_bad", none), "_law_first_bad", "_law_first_bad", defArgs s__law_first_bad, defBody s__law_first_bad, defScope s__law_first_bad, [], []⟩
def d_law : He.DefD := ⟨("law", none), "law", "law", defArgs s_law, defBody s_law, defScope s_law, [], []⟩
def fn : List He.DefD := [d_is_integer, d_is_within, d_is_pair, d_is_of, d_is_label, d_is_comer, d_are_unlike, d_common_divisor, d_check_number, d_is_world, d_told_in, d_is_factor_nought, d_is_table, d_are_tables, d_is_term, d_is_demand, d_Book___init__, d_letters_in, d_most_letters, d_arrangements, d_instances_of, d_left_of, d_equation_of, d_are_names, d_are_numbers, d_Party___init__, d_comers, d_places_of, d_all_folk, d_bezout, d_opening_unit, d_scaled, d_items_scaled, d_items_added, d_mixed_clockrows, d_ClockRows___init__, d_ClockRows_put, d_ClockRows_put_at, d_ClockRows_open_step, d_ClockRows_settle, d_ClockRows_number_at, d_ClockRows_solution, d_clock_rows, d_numbered, d_named, d_weight_list, d_clock_solved, d_solved, d_opened, d_open_equations, d_unknowns_of, d_told_for, d_filling, d_refusal, d_ranked, d_place_form, d_forms_of, d_forms, d_formed, d_rule_folk, d_form_equations, d_rule_rows, d_rule, d_served_so_far, d_served, d__law_feed, d__law_draw, d__law_words, d__law_pick, d__law_rows, d__law_spots, d__law_letters, d__law_terms, d__law_total, d__law_is_right, d__law_form, d__law_forms, d__law_most, d__law_folk, d__law_equations, d__law_lines, d__law_meets, d__law_search, d__law_one_demand, d__law_first_bad, d_law]
def fa : List He.Fa := [.glo "is_integer", .glo "is_within", .glo "is_pair", .glo "is_of", .glo "is_label", .glo "is_comer", .glo "are_unlike", .glo "common_divisor", .glo "check_number", .glo "is_world", .glo "told_in", .glo "is_factor_nought", .glo "is_table", .glo "are_tables", .glo "is_term", .glo "is_demand", .glo "letters_in", .glo "most_letters", .glo "arrangements", .glo "instances_of", .glo "left_of", .glo "equation_of", .glo "are_names", .glo "are_numbers", .glo "comers", .glo "places_of", .glo "all_folk", .glo "bezout", .glo "opening_unit", .glo "scaled", .glo "items_scaled", .glo "items_added", .glo "mixed_clockrows", .glo "clock_rows", .glo "numbered", .glo "named", .glo "weight_list", .glo "clock_solved", .glo "solved", .glo "opened", .glo "open_equations", .glo "unknowns_of", .glo "told_for", .glo "filling", .glo "refusal", .glo "ranked", .glo "place_form", .glo "forms_of", .glo "forms", .glo "formed", .glo "rule_folk", .glo "form_equations", .glo "rule_rows", .glo "rule", .glo "served_so_far", .glo "served", .glo "_law_feed", .glo "_law_draw", .glo "_law_words", .glo "_law_pick", .glo "_law_rows", .glo "_law_spots", .glo "_law_letters", .glo "_law_terms", .glo "_law_total", .glo "_law_is_right", .glo "_law_form", .glo "_law_forms", .glo "_law_most", .glo "_law_folk", .glo "_law_equations", .glo "_law_lines", .glo "_law_meets", .glo "_law_search", .glo "_law_one_demand", .glo "_law_first_bad", .glo "law", .glo "Book", .glo "Party", .glo "ClockRows", .free "int", .free "bool", .free "str", .free "list", .free "tuple", .free "dict", .free "len", .free "isinstance", .free "all", .free "any", .free "max", .free "min", .free "sorted", .free "abs", .free "range", .free "enumerate", .free "zip", .int "MOST_SIGNS" 8, .int "WHOLE" 0, .int "FRACTIONS" 1, .int "MOST_HOURS" 1000, .int "MOST_SIZE_books" 3, .int "MOST_TABLES" 4, .int "MOST_DEMANDS" 6, .int "MOST_TERMS" 8, .int "MOST_FACTOR" 99, .int "MOST_RIGHT" 999, .int "MOST_NAMES" 3, .int "MOST_COMERS" 8, .int "MOST_SIZE_rules" 3, .str "SMALL" "abcdefghijklmnopqrstuvwxyz", .str "FIGURES" "0123456789", .str "LETTERS" "abcd", .cls "Book", .mkr "Book", .noat "Book" "world", .noat "Book" "tables", .noat "Book" "demands", .cls "Party", .mkr "Party", .noat "Party" "book", .noat "Party" "names", .noat "Party" "kept", .cls "ClockRows", .mkr "ClockRows", .noat "ClockRows" "hours", .noat "ClockRows" "many", .noat "ClockRows" "steps", .noat "ClockRows" "refused", .meth "ClockRows" "put", .meth "ClockRows" "put_at", .meth "ClockRows" "open_step", .meth "ClockRows" "settle", .meth "ClockRows" "number_at", .meth "ClockRows" "solution"]
/-- what is known of the module behind its top: the written part K, the names mg -/
structure Ctx (K : PySem.W.Frag) (mg : Str → Option Value) : Prop where
  c : He.SaysD fa fn K
  h : ∃ h, K.In h ∧ h.Ns mainGlobals mg
section
variable {K : PySem.W.Frag} {mg : Str → Option Value}
theorem Ctx.g_is_integer (C : Ctx K mg) : mg "is_integer" = some (.ref (He.ga K "is_integer")) := by obtain ⟨h, X, G⟩ := C.h; exact He.glo_ok X G (C.c.fact 0 (f := .glo "is_integer") rfl)
theorem Ctx.g_is_within (C : Ctx K mg) : mg "is_within" = some (.ref (He.ga K "is_within")) := by obtain ⟨h, X, G⟩ := C.h; exact He.glo_ok X G (C.c.fact 1 (f := .glo "is_within") rfl)
theorem Ctx.g_is_pair (C : Ctx K mg) : mg "is_pair" = some (.ref (He.ga K "is_pair")) := by obtain ⟨h, X, G⟩ := C.h; exact He.glo_ok X G (C.c.fact 2 (f := .glo "is_pair") rfl)
theorem Ctx.g_is_of (C : Ctx K mg) : mg "is_of" = some (.ref (He.ga K "is_of")) := by obtain ⟨h, X, G⟩ := C.h; exact He.glo_ok X G (C.c.fact 3 (f := .glo "is_of") rfl)
theorem Ctx.g_is_label (C : Ctx K mg) : mg "is_label" = some (.ref (He.ga K "is_label")) := by obtain ⟨h, X, G⟩ := C.h; exact He.glo_ok X G (C.c.fact 4 (f := .glo "is_label") rfl)
theorem Ctx.g_is_comer (C : Ctx K mg) : mg "is_comer" = some (.ref (He.ga K "is_comer")) := by obtain ⟨h, X, G⟩ := C.h; exact He.glo_ok X G (C.c.fact 5 (f := .glo "is_comer") rfl)
theorem Ctx.g_are_unlike (C : Ctx K mg) : mg "are_unlike" = some (.ref (He.ga K "are_unlike")) := by obtain ⟨h, X, G⟩ := C.h; exact He.glo_ok X G (C.c.fact 6 (f := .glo "are_unlike") rfl)
theorem Ctx.g_common_divisor (C : Ctx K mg) : mg "common_divisor" = some (.ref (He.ga K "common_divisor")) := by obtain ⟨h, X, G⟩ := C.h; exact He.glo_ok X G (C.c.fact 7 (f := .glo "common_divisor") rfl)
theorem Ctx.g_check_number (C : Ctx K mg) : mg "check_number" = some (.ref (He.ga K "check_number")) := by obtain ⟨h, X, G⟩ := C.h; exact He.glo_ok X G (C.c.fact 8 (f := .glo "check_number") rfl)
theorem Ctx.g_is_world (C : Ctx K mg) : mg "is_world" = some (.ref (He.ga K "is_world")) := by obtain ⟨h, X, G⟩ := C.h; exact He.glo_ok X G (C.c.fact 9 (f := .glo "is_world") rfl)
theorem Ctx.g_told_in (C : Ctx K mg) : mg "told_in" = some (.ref (He.ga K "told_in")) := by obtain ⟨h, X, G⟩ := C.h; exact He.glo_ok X G (C.c.fact 10 (f := .glo "told_in") rfl)
theorem Ctx.g_is_factor_nought (C : Ctx K mg) : mg "is_factor_nought" = some (.ref (He.ga K "is_factor_nought")) := by obtain ⟨h, X, G⟩ := C.h; exact He.glo_ok X G (C.c.fact 11 (f := .glo "is_factor_nought") rfl)
theorem Ctx.g_is_table (C : Ctx K mg) : mg "is_table" = some (.ref (He.ga K "is_table")) := by obtain ⟨h, X, G⟩ := C.h; exact He.glo_ok X G (C.c.fact 12 (f := .glo "is_table") rfl)
theorem Ctx.g_are_tables (C : Ctx K mg) : mg "are_tables" = some (.ref (He.ga K "are_tables")) := by obtain ⟨h, X, G⟩ := C.h; exact He.glo_ok X G (C.c.fact 13 (f := .glo "are_tables") rfl)
theorem Ctx.g_is_term (C : Ctx K mg) : mg "is_term" = some (.ref (He.ga K "is_term")) := by obtain ⟨h, X, G⟩ := C.h; exact He.glo_ok X G (C.c.fact 14 (f := .glo "is_term") rfl)
theorem Ctx.g_is_demand (C : Ctx K mg) : mg "is_demand" = some (.ref (He.ga K "is_demand")) := by obtain ⟨h, X, G⟩ := C.h; exact He.glo_ok X G (C.c.fact 15 (f := .glo "is_demand") rfl)
theorem Ctx.g_letters_in (C : Ctx K mg) : mg "letters_in" = some (.ref (He.ga K "letters_in")) := by obtain ⟨h, X, G⟩ := C.h; exact He.glo_ok X G (C.c.fact 16 (f := .glo "letters_in") rfl)
theorem Ctx.g_most_letters (C : Ctx K mg) : mg "most_letters" = some (.ref (He.ga K "most_letters")) := by obtain ⟨h, X, G⟩ := C.h; exact He.glo_ok X G (C.c.fact 17 (f := .glo "most_letters") rfl)
theorem Ctx.g_arrangements (C : Ctx K mg) : mg "arrangements" = some (.ref (He.ga K "arrangements")) := by obtain ⟨h, X, G⟩ := C.h; exact He.glo_ok X G (C.c.fact 18 (f := .glo "arrangements") rfl)
theorem Ctx.g_instances_of (C : Ctx K mg) : mg "instances_of" = some (.ref (He.ga K "instances_of")) := by obtain ⟨h, X, G⟩ := C.h; exact He.glo_ok X G (C.c.fact 19 (f := .glo "instances_of") rfl)
theorem Ctx.g_left_of (C : Ctx K mg) : mg "left_of" = some (.ref (He.ga K "left_of")) := by obtain ⟨h, X, G⟩ := C.h; exact He.glo_ok X G (C.c.fact 20 (f := .glo "left_of") rfl)
theorem Ctx.g_equation_of (C : Ctx K mg) : mg "equation_of" = some (.ref (He.ga K "equation_of")) := by obtain ⟨h, X, G⟩ := C.h; exact He.glo_ok X G (C.c.fact 21 (f := .glo "equation_of") rfl)
theorem Ctx.g_are_names (C : Ctx K mg) : mg "are_names" = some (.ref (He.ga K "are_names")) := by obtain ⟨h, X, G⟩ := C.h; exact He.glo_ok X G (C.c.fact 22 (f := .glo "are_names") rfl)
theorem Ctx.g_are_numbers (C : Ctx K mg) : mg "are_numbers" = some (.ref (He.ga K "are_numbers")) := by obtain ⟨h, X, G⟩ := C.h; exact He.glo_ok X G (C.c.fact 23 (f := .glo "are_numbers") rfl)
theorem Ctx.g_comers (C : Ctx K mg) : mg "comers" = some (.ref (He.ga K "comers")) := by obtain ⟨h, X, G⟩ := C.h; exact He.glo_ok X G (C.c.fact 24 (f := .glo "comers") rfl)
theorem Ctx.g_places_of (C : Ctx K mg) : mg "places_of" = some (.ref (He.ga K "places_of")) := by obtain ⟨h, X, G⟩ := C.h; exact He.glo_ok X G (C.c.fact 25 (f := .glo "places_of") rfl)
theorem Ctx.g_all_folk (C : Ctx K mg) : mg "all_folk" = some (.ref (He.ga K "all_folk")) := by obtain ⟨h, X, G⟩ := C.h; exact He.glo_ok X G (C.c.fact 26 (f := .glo "all_folk") rfl)
theorem Ctx.g_bezout (C : Ctx K mg) : mg "bezout" = some (.ref (He.ga K "bezout")) := by obtain ⟨h, X, G⟩ := C.h; exact He.glo_ok X G (C.c.fact 27 (f := .glo "bezout") rfl)
theorem Ctx.g_opening_unit (C : Ctx K mg) : mg "opening_unit" = some (.ref (He.ga K "opening_unit")) := by obtain ⟨h, X, G⟩ := C.h; exact He.glo_ok X G (C.c.fact 28 (f := .glo "opening_unit") rfl)
theorem Ctx.g_scaled (C : Ctx K mg) : mg "scaled" = some (.ref (He.ga K "scaled")) := by obtain ⟨h, X, G⟩ := C.h; exact He.glo_ok X G (C.c.fact 29 (f := .glo "scaled") rfl)
theorem Ctx.g_items_scaled (C : Ctx K mg) : mg "items_scaled" = some (.ref (He.ga K "items_scaled")) := by obtain ⟨h, X, G⟩ := C.h; exact He.glo_ok X G (C.c.fact 30 (f := .glo "items_scaled") rfl)
theorem Ctx.g_items_added (C : Ctx K mg) : mg "items_added" = some (.ref (He.ga K "items_added")) := by obtain ⟨h, X, G⟩ := C.h; exact He.glo_ok X G (C.c.fact 31 (f := .glo "items_added") rfl)
theorem Ctx.g_mixed_clockrows (C : Ctx K mg) : mg "mixed_clockrows" = some (.ref (He.ga K "mixed_clockrows")) := by obtain ⟨h, X, G⟩ := C.h; exact He.glo_ok X G (C.c.fact 32 (f := .glo "mixed_clockrows") rfl)
theorem Ctx.g_clock_rows (C : Ctx K mg) : mg "clock_rows" = some (.ref (He.ga K "clock_rows")) := by obtain ⟨h, X, G⟩ := C.h; exact He.glo_ok X G (C.c.fact 33 (f := .glo "clock_rows") rfl)
theorem Ctx.g_numbered (C : Ctx K mg) : mg "numbered" = some (.ref (He.ga K "numbered")) := by obtain ⟨h, X, G⟩ := C.h; exact He.glo_ok X G (C.c.fact 34 (f := .glo "numbered") rfl)
theorem Ctx.g_named (C : Ctx K mg) : mg "named" = some (.ref (He.ga K "named")) := by obtain ⟨h, X, G⟩ := C.h; exact He.glo_ok X G (C.c.fact 35 (f := .glo "named") rfl)
theorem Ctx.g_weight_list (C : Ctx K mg) : mg "weight_list" = some (.ref (He.ga K "weight_list")) := by obtain ⟨h, X, G⟩ := C.h; exact He.glo_ok X G (C.c.fact 36 (f := .glo "weight_list") rfl)
theorem Ctx.g_clock_solved (C : Ctx K mg) : mg "clock_solved" = some (.ref (He.ga K "clock_solved")) := by obtain ⟨h, X, G⟩ := C.h; exact He.glo_ok X G (C.c.fact 37 (f := .glo "clock_solved") rfl)
theorem Ctx.g_solved (C : Ctx K mg) : mg "solved" = some (.ref (He.ga K "solved")) := by obtain ⟨h, X, G⟩ := C.h; exact He.glo_ok X G (C.c.fact 38 (f := .glo "solved") rfl)
theorem Ctx.g_opened (C : Ctx K mg) : mg "opened" = some (.ref (He.ga K "opened")) := by obtain ⟨h, X, G⟩ := C.h; exact He.glo_ok X G (C.c.fact 39 (f := .glo "opened") rfl)
theorem Ctx.g_open_equations (C : Ctx K mg) : mg "open_equations" = some (.ref (He.ga K "open_equations")) := by obtain ⟨h, X, G⟩ := C.h; exact He.glo_ok X G (C.c.fact 40 (f := .glo "open_equations") rfl)
theorem Ctx.g_unknowns_of (C : Ctx K mg) : mg "unknowns_of" = some (.ref (He.ga K "unknowns_of")) := by obtain ⟨h, X, G⟩ := C.h; exact He.glo_ok X G (C.c.fact 41 (f := .glo "unknowns_of") rfl)
theorem Ctx.g_told_for (C : Ctx K mg) : mg "told_for" = some (.ref (He.ga K "told_for")) := by obtain ⟨h, X, G⟩ := C.h; exact He.glo_ok X G (C.c.fact 42 (f := .glo "told_for") rfl)
theorem Ctx.g_filling (C : Ctx K mg) : mg "filling" = some (.ref (He.ga K "filling")) := by obtain ⟨h, X, G⟩ := C.h; exact He.glo_ok X G (C.c.fact 43 (f := .glo "filling") rfl)
theorem Ctx.g_refusal (C : Ctx K mg) : mg "refusal" = some (.ref (He.ga K "refusal")) := by obtain ⟨h, X, G⟩ := C.h; exact He.glo_ok X G (C.c.fact 44 (f := .glo "refusal") rfl)
theorem Ctx.g_ranked (C : Ctx K mg) : mg "ranked" = some (.ref (He.ga K "ranked")) := by obtain ⟨h, X, G⟩ := C.h; exact He.glo_ok X G (C.c.fact 45 (f := .glo "ranked") rfl)
theorem Ctx.g_place_form (C : Ctx K mg) : mg "place_form" = some (.ref (He.ga K "place_form")) := by obtain ⟨h, X, G⟩ := C.h; exact He.glo_ok X G (C.c.fact 46 (f := .glo "place_form") rfl)
theorem Ctx.g_forms_of (C : Ctx K mg) : mg "forms_of" = some (.ref (He.ga K "forms_of")) := by obtain ⟨h, X, G⟩ := C.h; exact He.glo_ok X G (C.c.fact 47 (f := .glo "forms_of") rfl)
theorem Ctx.g_forms (C : Ctx K mg) : mg "forms" = some (.ref (He.ga K "forms")) := by obtain ⟨h, X, G⟩ := C.h; exact He.glo_ok X G (C.c.fact 48 (f := .glo "forms") rfl)
theorem Ctx.g_formed (C : Ctx K mg) : mg "formed" = some (.ref (He.ga K "formed")) := by obtain ⟨h, X, G⟩ := C.h; exact He.glo_ok X G (C.c.fact 49 (f := .glo "formed") rfl)
theorem Ctx.g_rule_folk (C : Ctx K mg) : mg "rule_folk" = some (.ref (He.ga K "rule_folk")) := by obtain ⟨h, X, G⟩ := C.h; exact He.glo_ok X G (C.c.fact 50 (f := .glo "rule_folk") rfl)
theorem Ctx.g_form_equations (C : Ctx K mg) : mg "form_equations" = some (.ref (He.ga K "form_equations")) := by obtain ⟨h, X, G⟩ := C.h; exact He.glo_ok X G (C.c.fact 51 (f := .glo "form_equations") rfl)
theorem Ctx.g_rule_rows (C : Ctx K mg) : mg "rule_rows" = some (.ref (He.ga K "rule_rows")) := by obtain ⟨h, X, G⟩ := C.h; exact He.glo_ok X G (C.c.fact 52 (f := .glo "rule_rows") rfl)
theorem Ctx.g_rule (C : Ctx K mg) : mg "rule" = some (.ref (He.ga K "rule")) := by obtain ⟨h, X, G⟩ := C.h; exact He.glo_ok X G (C.c.fact 53 (f := .glo "rule") rfl)
theorem Ctx.g_served_so_far (C : Ctx K mg) : mg "served_so_far" = some (.ref (He.ga K "served_so_far")) := by obtain ⟨h, X, G⟩ := C.h; exact He.glo_ok X G (C.c.fact 54 (f := .glo "served_so_far") rfl)
theorem Ctx.g_served (C : Ctx K mg) : mg "served" = some (.ref (He.ga K "served")) := by obtain ⟨h, X, G⟩ := C.h; exact He.glo_ok X G (C.c.fact 55 (f := .glo "served") rfl)
theorem Ctx.g__law_feed (C : Ctx K mg) : mg "_law_feed" = some (.ref (He.ga K "_law_feed")) := by obtain ⟨h, X, G⟩ := C.h; exact He.glo_ok X G (C.c.fact 56 (f := .glo "_law_feed") rfl)
theorem Ctx.g__law_draw (C : Ctx K mg) : mg "_law_draw" = some (.ref (He.ga K "_law_draw")) := by obtain ⟨h, X, G⟩ := C.h; exact He.glo_ok X G (C.c.fact 57 (f := .glo "_law_draw") rfl)
theorem Ctx.g__law_words (C : Ctx K mg) : mg "_law_words" = some (.ref (He.ga K "_law_words")) := by obtain ⟨h, X, G⟩ := C.h; exact He.glo_ok X G (C.c.fact 58 (f := .glo "_law_words") rfl)
theorem Ctx.g__law_pick (C : Ctx K mg) : mg "_law_pick" = some (.ref (He.ga K "_law_pick")) := by obtain ⟨h, X, G⟩ := C.h; exact He.glo_ok X G (C.c.fact 59 (f := .glo "_law_pick") rfl)
theorem Ctx.g__law_rows (C : Ctx K mg) : mg "_law_rows" = some (.ref (He.ga K "_law_rows")) := by obtain ⟨h, X, G⟩ := C.h; exact He.glo_ok X G (C.c.fact 60 (f := .glo "_law_rows") rfl)
theorem Ctx.g__law_spots (C : Ctx K mg) : mg "_law_spots" = some (.ref (He.ga K "_law_spots")) := by obtain ⟨h, X, G⟩ := C.h; exact He.glo_ok X G (C.c.fact 61 (f := .glo "_law_spots") rfl)
theorem Ctx.g__law_letters (C : Ctx K mg) : mg "_law_letters" = some (.ref (He.ga K "_law_letters")) := by obtain ⟨h, X, G⟩ := C.h; exact He.glo_ok X G (C.c.fact 62 (f := .glo "_law_letters") rfl)
theorem Ctx.g__law_terms (C : Ctx K mg) : mg "_law_terms" = some (.ref (He.ga K "_law_terms")) := by obtain ⟨h, X, G⟩ := C.h; exact He.glo_ok X G (C.c.fact 63 (f := .glo "_law_terms") rfl)
theorem Ctx.g__law_total (C : Ctx K mg) : mg "_law_total" = some (.ref (He.ga K "_law_total")) := by obtain ⟨h, X, G⟩ := C.h; exact He.glo_ok X G (C.c.fact 64 (f := .glo "_law_total") rfl)
theorem Ctx.g__law_is_right (C : Ctx K mg) : mg "_law_is_right" = some (.ref (He.ga K "_law_is_right")) := by obtain ⟨h, X, G⟩ := C.h; exact He.glo_ok X G (C.c.fact 65 (f := .glo "_law_is_right") rfl)
theorem Ctx.g__law_form (C : Ctx K mg) : mg "_law_form" = some (.ref (He.ga K "_law_form")) := by obtain ⟨h, X, G⟩ := C.h; exact He.glo_ok X G (C.c.fact 66 (f := .glo "_law_form") rfl)
theorem Ctx.g__law_forms (C : Ctx K mg) : mg "_law_forms" = some (.ref (He.ga K "_law_forms")) := by obtain ⟨h, X, G⟩ := C.h; exact He.glo_ok X G (C.c.fact 67 (f := .glo "_law_forms") rfl)
theorem Ctx.g__law_most (C : Ctx K mg) : mg "_law_most" = some (.ref (He.ga K "_law_most")) := by obtain ⟨h, X, G⟩ := C.h; exact He.glo_ok X G (C.c.fact 68 (f := .glo "_law_most") rfl)
theorem Ctx.g__law_folk (C : Ctx K mg) : mg "_law_folk" = some (.ref (He.ga K "_law_folk")) := by obtain ⟨h, X, G⟩ := C.h; exact He.glo_ok X G (C.c.fact 69 (f := .glo "_law_folk") rfl)
theorem Ctx.g__law_equations (C : Ctx K mg) : mg "_law_equations" = some (.ref (He.ga K "_law_equations")) := by obtain ⟨h, X, G⟩ := C.h; exact He.glo_ok X G (C.c.fact 70 (f := .glo "_law_equations") rfl)
theorem Ctx.g__law_lines (C : Ctx K mg) : mg "_law_lines" = some (.ref (He.ga K "_law_lines")) := by obtain ⟨h, X, G⟩ := C.h; exact He.glo_ok X G (C.c.fact 71 (f := .glo "_law_lines") rfl)
theorem Ctx.g__law_meets (C : Ctx K mg) : mg "_law_meets" = some (.ref (He.ga K "_law_meets")) := by obtain ⟨h, X, G⟩ := C.h; exact He.glo_ok X G (C.c.fact 72 (f := .glo "_law_meets") rfl)
theorem Ctx.g__law_search (C : Ctx K mg) : mg "_law_search" = some (.ref (He.ga K "_law_search")) := by obtain ⟨h, X, G⟩ := C.h; exact He.glo_ok X G (C.c.fact 73 (f := .glo "_law_search") rfl)
theorem Ctx.g__law_one_demand (C : Ctx K mg) : mg "_law_one_demand" = some (.ref (He.ga K "_law_one_demand")) := by obtain ⟨h, X, G⟩ := C.h; exact He.glo_ok X G (C.c.fact 74 (f := .glo "_law_one_demand") rfl)
theorem Ctx.g__law_first_bad (C : Ctx K mg) : mg "_law_first_bad" = some (.ref (He.ga K "_law_first_bad")) := by obtain ⟨h, X, G⟩ := C.h; exact He.glo_ok X G (C.c.fact 75 (f := .glo "_law_first_bad") rfl)
theorem Ctx.g_law (C : Ctx K mg) : mg "law" = some (.ref (He.ga K "law")) := by obtain ⟨h, X, G⟩ := C.h; exact He.glo_ok X G (C.c.fact 76 (f := .glo "law") rfl)
theorem Ctx.g_Book (C : Ctx K mg) : mg "Book" = some (.ref (He.ga K "Book")) := by obtain ⟨h, X, G⟩ := C.h; exact He.glo_ok X G (C.c.fact 77 (f := .glo "Book") rfl)
theorem Ctx.g_Party (C : Ctx K mg) : mg "Party" = some (.ref (He.ga K "Party")) := by obtain ⟨h, X, G⟩ := C.h; exact He.glo_ok X G (C.c.fact 78 (f := .glo "Party") rfl)
theorem Ctx.g_ClockRows (C : Ctx K mg) : mg "ClockRows" = some (.ref (He.ga K "ClockRows")) := by obtain ⟨h, X, G⟩ := C.h; exact He.glo_ok X G (C.c.fact 79 (f := .glo "ClockRows") rfl)
theorem Ctx.f_int (C : Ctx K mg) : mg "int" = none := by obtain ⟨h, X, G⟩ := C.h; exact He.free_ok X G (C.c.fact 80 (f := .free "int") rfl)
theorem Ctx.f_bool (C : Ctx K mg) : mg "bool" = none := by obtain ⟨h, X, G⟩ := C.h; exact He.free_ok X G (C.c.fact 81 (f := .free "bool") rfl)
theorem Ctx.f_str (C : Ctx K mg) : mg "str" = none := by obtain ⟨h, X, G⟩ := C.h; exact He.free_ok X G (C.c.fact 82 (f := .free "str") rfl)
theorem Ctx.f_list (C : Ctx K mg) : mg "list" = none := by obtain ⟨h, X, G⟩ := C.h; exact He.free_ok X G (C.c.fact 83 (f := .free "list") rfl)
theorem Ctx.f_tuple (C : Ctx K mg) : mg "tuple" = none := by obtain ⟨h, X, G⟩ := C.h; exact He.free_ok X G (C.c.fact 84 (f := .free "tuple") rfl)
theorem Ctx.f_dict (C : Ctx K mg) : mg "dict" = none := by obtain ⟨h, X, G⟩ := C.h; exact He.free_ok X G (C.c.fact 85 (f := .free "dict") rfl)
theorem Ctx.f_len (C : Ctx K mg) : mg "len" = none := by obtain ⟨h, X, G⟩ := C.h; exact He.free_ok X G (C.c.fact 86 (f := .free "len") rfl)
theorem Ctx.f_isinstance (C : Ctx K mg) : mg "isinstance" = none := by obtain ⟨h, X, G⟩ := C.h; exact He.free_ok X G (C.c.fact 87 (f := .free "isinstance") rfl)
theorem Ctx.f_all (C : Ctx K mg) : mg "all" = none := by obtain ⟨h, X, G⟩ := C.h; exact He.free_ok X G (C.c.fact 88 (f := .free "all") rfl)
theorem Ctx.f_any (C : Ctx K mg) : mg "any" = none := by obtain ⟨h, X, G⟩ := C.h; exact He.free_ok X G (C.c.fact 89 (f := .free "any") rfl)
theorem Ctx.f_max (C : Ctx K mg) : mg "max" = none := by obtain ⟨h, X, G⟩ := C.h; exact He.free_ok X G (C.c.fact 90 (f := .free "max") rfl)
theorem Ctx.f_min (C : Ctx K mg) : mg "min" = none := by obtain ⟨h, X, G⟩ := C.h; exact He.free_ok X G (C.c.fact 91 (f := .free "min") rfl)
theorem Ctx.f_sorted (C : Ctx K mg) : mg "sorted" = none := by obtain ⟨h, X, G⟩ := C.h; exact He.free_ok X G (C.c.fact 92 (f := .free "sorted") rfl)
theorem Ctx.f_abs (C : Ctx K mg) : mg "abs" = none := by obtain ⟨h, X, G⟩ := C.h; exact He.free_ok X G (C.c.fact 93 (f := .free "abs") rfl)
theorem Ctx.f_range (C : Ctx K mg) : mg "range" = none := by obtain ⟨h, X, G⟩ := C.h; exact He.free_ok X G (C.c.fact 94 (f := .free "range") rfl)
theorem Ctx.f_enumerate (C : Ctx K mg) : mg "enumerate" = none := by obtain ⟨h, X, G⟩ := C.h; exact He.free_ok X G (C.c.fact 95 (f := .free "enumerate") rfl)
theorem Ctx.f_zip (C : Ctx K mg) : mg "zip" = none := by obtain ⟨h, X, G⟩ := C.h; exact He.free_ok X G (C.c.fact 96 (f := .free "zip") rfl)
theorem Ctx.i_MOST_SIGNS (C : Ctx K mg) : ∃ t, mg "MOST_SIGNS" = some (.int 8 t) := by obtain ⟨h, X, G⟩ := C.h; exact He.int_ok X G (C.c.fact 97 (f := .int "MOST_SIGNS" 8) rfl)
theorem Ctx.i_WHOLE (C : Ctx K mg) : ∃ t, mg "WHOLE" = some (.int 0 t) := by obtain ⟨h, X, G⟩ := C.h; exact He.int_ok X G (C.c.fact 98 (f := .int "WHOLE" 0) rfl)
theorem Ctx.i_FRACTIONS (C : Ctx K mg) : ∃ t, mg "FRACTIONS" = some (.int 1 t) := by obtain ⟨h, X, G⟩ := C.h; exact He.int_ok X G (C.c.fact 99 (f := .int "FRACTIONS" 1) rfl)
theorem Ctx.i_MOST_HOURS (C : Ctx K mg) : ∃ t, mg "MOST_HOURS" = some (.int 1000 t) := by obtain ⟨h, X, G⟩ := C.h; exact He.int_ok X G (C.c.fact 100 (f := .int "MOST_HOURS" 1000) rfl)
theorem Ctx.i_MOST_SIZE_books (C : Ctx K mg) : ∃ t, mg "MOST_SIZE_books" = some (.int 3 t) := by obtain ⟨h, X, G⟩ := C.h; exact He.int_ok X G (C.c.fact 101 (f := .int "MOST_SIZE_books" 3) rfl)
theorem Ctx.i_MOST_TABLES (C : Ctx K mg) : ∃ t, mg "MOST_TABLES" = some (.int 4 t) := by obtain ⟨h, X, G⟩ := C.h; exact He.int_ok X G (C.c.fact 102 (f := .int "MOST_TABLES" 4) rfl)
theorem Ctx.i_MOST_DEMANDS (C : Ctx K mg) : ∃ t, mg "MOST_DEMANDS" = some (.int 6 t) := by obtain ⟨h, X, G⟩ := C.h; exact He.int_ok X G (C.c.fact 103 (f := .int "MOST_DEMANDS" 6) rfl)
theorem Ctx.i_MOST_TERMS (C : Ctx K mg) : ∃ t, mg "MOST_TERMS" = some (.int 8 t) := by obtain ⟨h, X, G⟩ := C.h; exact He.int_ok X G (C.c.fact 104 (f := .int "MOST_TERMS" 8) rfl)
theorem Ctx.i_MOST_FACTOR (C : Ctx K mg) : ∃ t, mg "MOST_FACTOR" = some (.int 99 t) := by obtain ⟨h, X, G⟩ := C.h; exact He.int_ok X G (C.c.fact 105 (f := .int "MOST_FACTOR" 99) rfl)
theorem Ctx.i_MOST_RIGHT (C : Ctx K mg) : ∃ t, mg "MOST_RIGHT" = some (.int 999 t) := by obtain ⟨h, X, G⟩ := C.h; exact He.int_ok X G (C.c.fact 106 (f := .int "MOST_RIGHT" 999) rfl)
theorem Ctx.i_MOST_NAMES (C : Ctx K mg) : ∃ t, mg "MOST_NAMES" = some (.int 3 t) := by obtain ⟨h, X, G⟩ := C.h; exact He.int_ok X G (C.c.fact 107 (f := .int "MOST_NAMES" 3) rfl)
theorem Ctx.i_MOST_COMERS (C : Ctx K mg) : ∃ t, mg "MOST_COMERS" = some (.int 8 t) := by obtain ⟨h, X, G⟩ := C.h; exact He.int_ok X G (C.c.fact 108 (f := .int "MOST_COMERS" 8) rfl)
theorem Ctx.i_MOST_SIZE_rules (C : Ctx K mg) : ∃ t, mg "MOST_SIZE_rules" = some (.int 3 t) := by obtain ⟨h, X, G⟩ := C.h; exact He.int_ok X G (C.c.fact 109 (f := .int "MOST_SIZE_rules" 3) rfl)
theorem Ctx.st_SMALL (C : Ctx K mg) : ∃ t, mg "SMALL" = some (.str "abcdefghijklmnopqrstuvwxyz" t) := by obtain ⟨h, X, G⟩ := C.h; exact He.str_ok X G (C.c.fact 110 (f := .str "SMALL" "abcdefghijklmnopqrstuvwxyz") rfl)
theorem Ctx.st_FIGURES (C : Ctx K mg) : ∃ t, mg "FIGURES" = some (.str "0123456789" t) := by obtain ⟨h, X, G⟩ := C.h; exact He.str_ok X G (C.c.fact 111 (f := .str "FIGURES" "0123456789") rfl)
theorem Ctx.st_LETTERS (C : Ctx K mg) : ∃ t, mg "LETTERS" = some (.str "abcd" t) := by obtain ⟨h, X, G⟩ := C.h; exact He.str_ok X G (C.c.fact 112 (f := .str "LETTERS" "abcd") rfl)
theorem Ctx.c_Book (C : Ctx K mg) : Cls K (He.ga K "Book") := He.cls_ok (C.c.fact 113 (f := .cls "Book") rfl)
theorem Ctx.mk_Book (C : Ctx K mg) : Mk K (He.ga K "Book") (He.ma K (He.ga K "Book") "__init__") := He.mkr_ok (C.c.fact 114 (f := .mkr "Book") rfl)
theorem Ctx.n_Book_world (C : Ctx K mg) : NoAttr K (He.ga K "Book") "world" := He.noat_ok (C.c.fact 115 (f := .noat "Book" "world") rfl)
theorem Ctx.n_Book_tables (C : Ctx K mg) : NoAttr K (He.ga K "Book") "tables" := He.noat_ok (C.c.fact 116 (f := .noat "Book" "tables") rfl)
theorem Ctx.n_Book_demands (C : Ctx K mg) : NoAttr K (He.ga K "Book") "demands" := He.noat_ok (C.c.fact 117 (f := .noat "Book" "demands") rfl)
theorem Ctx.c_Party (C : Ctx K mg) : Cls K (He.ga K "Party") := He.cls_ok (C.c.fact 118 (f := .cls "Party") rfl)
theorem Ctx.mk_Party (C : Ctx K mg) : Mk K (He.ga K "Party") (He.ma K (He.ga K "Party") "__init__") := He.mkr_ok (C.c.fact 119 (f := .mkr "Party") rfl)
theorem Ctx.n_Party_book (C : Ctx K mg) : NoAttr K (He.ga K "Party") "book" := He.noat_ok (C.c.fact 120 (f := .noat "Party" "book") rfl)
theorem Ctx.n_Party_names (C : Ctx K mg) : NoAttr K (He.ga K "Party") "names" := He.noat_ok (C.c.fact 121 (f := .noat "Party" "names") rfl)
theorem Ctx.n_Party_kept (C : Ctx K mg) : NoAttr K (He.ga K "Party") "kept" := He.noat_ok (C.c.fact 122 (f := .noat "Party" "kept") rfl)
theorem Ctx.c_ClockRows (C : Ctx K mg) : Cls K (He.ga K "ClockRows") := He.cls_ok (C.c.fact 123 (f := .cls "ClockRows") rfl)
theorem Ctx.mk_ClockRows (C : Ctx K mg) : Mk K (He.ga K "ClockRows") (He.ma K (He.ga K "ClockRows") "__init__") := He.mkr_ok (C.c.fact 124 (f := .mkr "ClockRows") rfl)
theorem Ctx.n_ClockRows_hours (C : Ctx K mg) : NoAttr K (He.ga K "ClockRows") "hours" := He.noat_ok (C.c.fact 125 (f := .noat "ClockRows" "hours") rfl)
theorem Ctx.n_ClockRows_many (C : Ctx K mg) : NoAttr K (He.ga K "ClockRows") "many" := He.noat_ok (C.c.fact 126 (f := .noat "ClockRows" "many") rfl)
theorem Ctx.n_ClockRows_steps (C : Ctx K mg) : NoAttr K (He.ga K "ClockRows") "steps" := He.noat_ok (C.c.fact 127 (f := .noat "ClockRows" "steps") rfl)
theorem Ctx.n_ClockRows_refused (C : Ctx K mg) : NoAttr K (He.ga K "ClockRows") "refused" := He.noat_ok (C.c.fact 128 (f := .noat "ClockRows" "refused") rfl)
theorem Ctx.m_ClockRows_put (C : Ctx K mg) : Meth K (He.ga K "ClockRows") "put" (He.ma K (He.ga K "ClockRows") "put") := He.meth_ok (C.c.fact 129 (f := .meth "ClockRows" "put") rfl)
theorem Ctx.m_ClockRows_put_at (C : Ctx K mg) : Meth K (He.ga K "ClockRows") "put_at" (He.ma K (He.ga K "ClockRows") "put_at") := He.meth_ok (C.c.fact 130 (f := .meth "ClockRows" "put_at") rfl)
theorem Ctx.m_ClockRows_open_step (C : Ctx K mg) : Meth K (He.ga K "ClockRows") "open_step" (He.ma K (He.ga K "ClockRows") "open_step") := He.meth_ok (C.c.fact 131 (f := .meth "ClockRows" "open_step") rfl)
theorem Ctx.m_ClockRows_settle (C : Ctx K mg) : Meth K (He.ga K "ClockRows") "settle" (He.ma K (He.ga K "ClockRows") "settle") := He.meth_ok (C.c.fact 132 (f := .meth "ClockRows" "settle") rfl)
theorem Ctx.m_ClockRows_number_at (C : Ctx K mg) : Meth K (He.ga K "ClockRows") "number_at" (He.ma K (He.ga K "ClockRows") "number_at") := He.meth_ok (C.c.fact 133 (f := .meth "ClockRows" "number_at") rfl)
theorem Ctx.m_ClockRows_solution (C : Ctx K mg) : Meth K (He.ga K "ClockRows") "solution" (He.ma K (He.ga K "ClockRows") "solution") := He.meth_ok (C.c.fact 134 (f := .meth "ClockRows" "solution") rfl)
theorem Ctx.d_is_integer (C : Ctx K mg) : ∃ fd, FunD K "is_integer" "is_integer" (defArgs s_is_integer) (defBody s_is_integer) (defScope s_is_integer) [] [] (He.ga K "is_integer") fd := C.c.def_ 0 (d := Eld.d_is_integer) rfl
theorem Ctx.d_is_within (C : Ctx K mg) : ∃ fd, FunD K "is_within" "is_within" (defArgs s_is_within) (defBody s_is_within) (defScope s_is_within) [] [] (He.ga K "is_within") fd := C.c.def_ 1 (d := Eld.d_is_within) rfl
theorem Ctx.d_is_pair (C : Ctx K mg) : ∃ fd, FunD K "is_pair" "is_pair" (defArgs s_is_pair) (defBody s_is_pair) (defScope s_is_pair) [] [] (He.ga K "is_pair") fd := C.c.def_ 2 (d := Eld.d_is_pair) rfl
theorem Ctx.d_is_of (C : Ctx K mg) : ∃ fd, FunD K "is_of" "is_of" (defArgs s_is_of) (defBody s_is_of) (defScope s_is_of) [] [] (He.ga K "is_of") fd := C.c.def_ 3 (d := Eld.d_is_of) rfl
theorem Ctx.d_is_label (C : Ctx K mg) : ∃ fd, FunD K "is_label" "is_label" (defArgs s_is_label) (defBody s_is_label) (defScope s_is_label) [] [] (He.ga K "is_label") fd := C.c.def_ 4 (d := Eld.d_is_label) rfl
theorem Ctx.d_is_comer (C : Ctx K mg) : ∃ fd, FunD K "is_comer" "is_comer" (defArgs s_is_comer) (defBody s_is_comer) (defScope s_is_comer) [] [] (He.ga K "is_comer") fd := C.c.def_ 5 (d := Eld.d_is_comer) rfl
theorem Ctx.d_are_unlike (C : Ctx K mg) : ∃ fd, FunD K "are_unlike" "are_unlike" (defArgs s_are_unlike) (defBody s_are_unlike) (defScope s_are_unlike) [] [] (He.ga K "are_unlike") fd := C.c.def_ 6 (d := Eld.d_are_unlike) rfl
theorem Ctx.d_common_divisor (C : Ctx K mg) : ∃ fd, FunD K "common_divisor" "common_divisor" (defArgs s_common_divisor) (defBody s_common_divisor) (defScope s_common_divisor) [] [] (He.ga K "common_divisor") fd := C.c.def_ 7 (d := Eld.d_common_divisor) rfl
theorem Ctx.d_check_number (C : Ctx K mg) : ∃ fd, FunD K "check_number" "check_number" (defArgs s_check_number) (defBody s_check_number) (defScope s_check_number) [] [] (He.ga K "check_number") fd := C.c.def_ 8 (d := Eld.d_check_number) rfl
theorem Ctx.d_is_world (C : Ctx K mg) : ∃ fd, FunD K "is_world" "is_world" (defArgs s_is_world) (defBody s_is_world) (defScope s_is_world) [] [] (He.ga K "is_world") fd := C.c.def_ 9 (d := Eld.d_is_world) rfl
theorem Ctx.d_told_in (C : Ctx K mg) : ∃ fd, FunD K "told_in" "told_in" (defArgs s_told_in) (defBody s_told_in) (defScope s_told_in) [] [] (He.ga K "told_in") fd := C.c.def_ 10 (d := Eld.d_told_in) rfl
theorem Ctx.d_is_factor_nought (C : Ctx K mg) : ∃ fd, FunD K "is_factor_nought" "is_factor_nought" (defArgs s_is_factor_nought) (defBody s_is_factor_nought) (defScope s_is_factor_nought) [] [] (He.ga K "is_factor_nought") fd := C.c.def_ 11 (d := Eld.d_is_factor_nought) rfl
theorem Ctx.d_is_table (C : Ctx K mg) : ∃ fd, FunD K "is_table" "is_table" (defArgs s_is_table) (defBody s_is_table) (defScope s_is_table) [] [] (He.ga K "is_table") fd := C.c.def_ 12 (d := Eld.d_is_table) rfl
theorem Ctx.d_are_tables (C : Ctx K mg) : ∃ fd, FunD K "are_tables" "are_tables" (defArgs s_are_tables) (defBody s_are_tables) (defScope s_are_tables) [] [] (He.ga K "are_tables") fd := C.c.def_ 13 (d := Eld.d_are_tables) rfl
theorem Ctx.d_is_term (C : Ctx K mg) : ∃ fd, FunD K "is_term" "is_term" (defArgs s_is_term) (defBody s_is_term) (defScope s_is_term) [] [] (He.ga K "is_term") fd := C.c.def_ 14 (d := Eld.d_is_term) rfl
theorem Ctx.d_is_demand (C : Ctx K mg) : ∃ fd, FunD K "is_demand" "is_demand" (defArgs s_is_demand) (defBody s_is_demand) (defScope s_is_demand) [] [] (He.ga K "is_demand") fd := C.c.def_ 15 (d := Eld.d_is_demand) rfl
theorem Ctx.d_Book___init__ (C : Ctx K mg) : ∃ fd, FunD K "__init__" "Book.__init__" (defArgs s_Book___init__) (defBody s_Book___init__) (defScope s_Book___init__) [] [] (He.ma K (He.ga K "Book") "__init__") fd := C.c.def_ 16 (d := Eld.d_Book___init__) rfl
theorem Ctx.d_letters_in (C : Ctx K mg) : ∃ fd, FunD K "letters_in" "letters_in" (defArgs s_letters_in) (defBody s_letters_in) (defScope s_letters_in) [] [] (He.ga K "letters_in") fd := C.c.def_ 17 (d := Eld.d_letters_in) rfl
theorem Ctx.d_most_letters (C : Ctx K mg) : ∃ fd, FunD K "most_letters" "most_letters" (defArgs s_most_letters) (defBody s_most_letters) (defScope s_most_letters) [] [] (He.ga K "most_letters") fd := C.c.def_ 18 (d := Eld.d_most_letters) rfl
theorem Ctx.d_arrangements (C : Ctx K mg) : ∃ fd, FunD K "arrangements" "arrangements" (defArgs s_arrangements) (defBody s_arrangements) (defScope s_arrangements) [] [] (He.ga K "arrangements") fd := C.c.def_ 19 (d := Eld.d_arrangements) rfl
theorem Ctx.d_instances_of (C : Ctx K mg) : ∃ fd, FunD K "instances_of" "instances_of" (defArgs s_instances_of) (defBody s_instances_of) (defScope s_instances_of) [] [] (He.ga K "instances_of") fd := C.c.def_ 20 (d := Eld.d_instances_of) rfl
theorem Ctx.d_left_of (C : Ctx K mg) : ∃ fd, FunD K "left_of" "left_of" (defArgs s_left_of) (defBody s_left_of) (defScope s_left_of) [] [] (He.ga K "left_of") fd := C.c.def_ 21 (d := Eld.d_left_of) rfl
theorem Ctx.d_equation_of (C : Ctx K mg) : ∃ fd, FunD K "equation_of" "equation_of" (defArgs s_equation_of) (defBody s_equation_of) (defScope s_equation_of) [] [] (He.ga K "equation_of") fd := C.c.def_ 22 (d := Eld.d_equation_of) rfl
theorem Ctx.d_are_names (C : Ctx K mg) : ∃ fd, FunD K "are_names" "are_names" (defArgs s_are_names) (defBody s_are_names) (defScope s_are_names) [] [] (He.ga K "are_names") fd := C.c.def_ 23 (d := Eld.d_are_names) rfl
theorem Ctx.d_are_numbers (C : Ctx K mg) : ∃ fd, FunD K "are_numbers" "are_numbers" (defArgs s_are_numbers) (defBody s_are_numbers) (defScope s_are_numbers) [] [] (He.ga K "are_numbers") fd := C.c.def_ 24 (d := Eld.d_are_numbers) rfl
theorem Ctx.d_Party___init__ (C : Ctx K mg) : ∃ fd, FunD K "__init__" "Party.__init__" (defArgs s_Party___init__) (defBody s_Party___init__) (defScope s_Party___init__) [] [] (He.ma K (He.ga K "Party") "__init__") fd := C.c.def_ 25 (d := Eld.d_Party___init__) rfl
theorem Ctx.d_comers (C : Ctx K mg) : ∃ fd, FunD K "comers" "comers" (defArgs s_comers) (defBody s_comers) (defScope s_comers) [] [] (He.ga K "comers") fd := C.c.def_ 26 (d := Eld.d_comers) rfl
theorem Ctx.d_places_of (C : Ctx K mg) : ∃ fd, FunD K "places_of" "places_of" (defArgs s_places_of) (defBody s_places_of) (defScope s_places_of) [] [] (He.ga K "places_of") fd := C.c.def_ 27 (d := Eld.d_places_of) rfl
theorem Ctx.d_all_folk (C : Ctx K mg) : ∃ fd, FunD K "all_folk" "all_folk" (defArgs s_all_folk) (defBody s_all_folk) (defScope s_all_folk) [] [] (He.ga K "all_folk") fd := C.c.def_ 28 (d := Eld.d_all_folk) rfl
theorem Ctx.d_bezout (C : Ctx K mg) : ∃ fd, FunD K "bezout" "bezout" (defArgs s_bezout) (defBody s_bezout) (defScope s_bezout) [] [] (He.ga K "bezout") fd := C.c.def_ 29 (d := Eld.d_bezout) rfl
theorem Ctx.d_opening_unit (C : Ctx K mg) : ∃ fd, FunD K "opening_unit" "opening_unit" (defArgs s_opening_unit) (defBody s_opening_unit) (defScope s_opening_unit) [] [] (He.ga K "opening_unit") fd := C.c.def_ 30 (d := Eld.d_opening_unit) rfl
theorem Ctx.d_scaled (C : Ctx K mg) : ∃ fd, FunD K "scaled" "scaled" (defArgs s_scaled) (defBody s_scaled) (defScope s_scaled) [] [] (He.ga K "scaled") fd := C.c.def_ 31 (d := Eld.d_scaled) rfl
theorem Ctx.d_items_scaled (C : Ctx K mg) : ∃ fd, FunD K "items_scaled" "items_scaled" (defArgs s_items_scaled) (defBody s_items_scaled) (defScope s_items_scaled) [] [] (He.ga K "items_scaled") fd := C.c.def_ 32 (d := Eld.d_items_scaled) rfl
theorem Ctx.d_items_added (C : Ctx K mg) : ∃ fd, FunD K "items_added" "items_added" (defArgs s_items_added) (defBody s_items_added) (defScope s_items_added) [] [] (He.ga K "items_added") fd := C.c.def_ 33 (d := Eld.d_items_added) rfl
theorem Ctx.d_mixed_clockrows (C : Ctx K mg) : ∃ fd, FunD K "mixed" "mixed" (defArgs s_mixed_clockrows) (defBody s_mixed_clockrows) (defScope s_mixed_clockrows) [] [] (He.ga K "mixed_clockrows") fd := C.c.def_ 34 (d := Eld.d_mixed_clockrows) rfl
theorem Ctx.d_ClockRows___init__ (C : Ctx K mg) : ∃ fd, FunD K "__init__" "ClockRows.__init__" (defArgs s_ClockRows___init__) (defBody s_ClockRows___init__) (defScope s_ClockRows___init__) [] [] (He.ma K (He.ga K "ClockRows") "__init__") fd := C.c.def_ 35 (d := Eld.d_ClockRows___init__) rfl
theorem Ctx.d_ClockRows_put (C : Ctx K mg) : ∃ fd, FunD K "put" "ClockRows.put" (defArgs s_ClockRows_put) (defBody s_ClockRows_put) (defScope s_ClockRows_put) [] [] (He.ma K (He.ga K "ClockRows") "put") fd := C.c.def_ 36 (d := Eld.d_ClockRows_put) rfl
theorem Ctx.d_ClockRows_put_at (C : Ctx K mg) : ∃ fd, FunD K "put_at" "ClockRows.put_at" (defArgs s_ClockRows_put_at) (defBody s_ClockRows_put_at) (defScope s_ClockRows_put_at) [] [] (He.ma K (He.ga K "ClockRows") "put_at") fd := C.c.def_ 37 (d := Eld.d_ClockRows_put_at) rfl
theorem Ctx.d_ClockRows_open_step (C : Ctx K mg) : ∃ fd, FunD K "open_step" "ClockRows.open_step" (defArgs s_ClockRows_open_step) (defBody s_ClockRows_open_step) (defScope s_ClockRows_open_step) [] [] (He.ma K (He.ga K "ClockRows") "open_step") fd := C.c.def_ 38 (d := Eld.d_ClockRows_open_step) rfl
theorem Ctx.d_ClockRows_settle (C : Ctx K mg) : ∃ fd, FunD K "settle" "ClockRows.settle" (defArgs s_ClockRows_settle) (defBody s_ClockRows_settle) (defScope s_ClockRows_settle) [] [] (He.ma K (He.ga K "ClockRows") "settle") fd := C.c.def_ 39 (d := Eld.d_ClockRows_settle) rfl
theorem Ctx.d_ClockRows_number_at (C : Ctx K mg) : ∃ fd, FunD K "number_at" "ClockRows.number_at" (defArgs s_ClockRows_number_at) (defBody s_ClockRows_number_at) (defScope s_ClockRows_number_at) [] [] (He.ma K (He.ga K "ClockRows") "number_at") fd := C.c.def_ 40 (d := Eld.d_ClockRows_number_at) rfl
theorem Ctx.d_ClockRows_solution (C : Ctx K mg) : ∃ fd, FunD K "solution" "ClockRows.solution" (defArgs s_ClockRows_solution) (defBody s_ClockRows_solution) (defScope s_ClockRows_solution) [] [] (He.ma K (He.ga K "ClockRows") "solution") fd := C.c.def_ 41 (d := Eld.d_ClockRows_solution) rfl
theorem Ctx.d_clock_rows (C : Ctx K mg) : ∃ fd, FunD K "clock_rows" "clock_rows" (defArgs s_clock_rows) (defBody s_clock_rows) (defScope s_clock_rows) [] [] (He.ga K "clock_rows") fd := C.c.def_ 42 (d := Eld.d_clock_rows) rfl
theorem Ctx.d_numbered (C : Ctx K mg) : ∃ fd, FunD K "numbered" "numbered" (defArgs s_numbered) (defBody s_numbered) (defScope s_numbered) [] [] (He.ga K "numbered") fd := C.c.def_ 43 (d := Eld.d_numbered) rfl
theorem Ctx.d_named (C : Ctx K mg) : ∃ fd, FunD K "named" "named" (defArgs s_named) (defBody s_named) (defScope s_named) [] [] (He.ga K "named") fd := C.c.def_ 44 (d := Eld.d_named) rfl
theorem Ctx.d_weight_list (C : Ctx K mg) : ∃ fd, FunD K "weight_list" "weight_list" (defArgs s_weight_list) (defBody s_weight_list) (defScope s_weight_list) [] [] (He.ga K "weight_list") fd := C.c.def_ 45 (d := Eld.d_weight_list) rfl
theorem Ctx.d_clock_solved (C : Ctx K mg) : ∃ fd, FunD K "clock_solved" "clock_solved" (defArgs s_clock_solved) (defBody s_clock_solved) (defScope s_clock_solved) [] [] (He.ga K "clock_solved") fd := C.c.def_ 46 (d := Eld.d_clock_solved) rfl
theorem Ctx.d_solved (C : Ctx K mg) : ∃ fd, FunD K "solved" "solved" (defArgs s_solved) (defBody s_solved) (defScope s_solved) [] [] (He.ga K "solved") fd := C.c.def_ 47 (d := Eld.d_solved) rfl
theorem Ctx.d_opened (C : Ctx K mg) : ∃ fd, FunD K "opened" "opened" (defArgs s_opened) (defBody s_opened) (defScope s_opened) [] [] (He.ga K "opened") fd := C.c.def_ 48 (d := Eld.d_opened) rfl
theorem Ctx.d_open_equations (C : Ctx K mg) : ∃ fd, FunD K "open_equations" "open_equations" (defArgs s_open_equations) (defBody s_open_equations) (defScope s_open_equations) [] [] (He.ga K "open_equations") fd := C.c.def_ 49 (d := Eld.d_open_equations) rfl
theorem Ctx.d_unknowns_of (C : Ctx K mg) : ∃ fd, FunD K "unknowns_of" "unknowns_of" (defArgs s_unknowns_of) (defBody s_unknowns_of) (defScope s_unknowns_of) [] [] (He.ga K "unknowns_of") fd := C.c.def_ 50 (d := Eld.d_unknowns_of) rfl
theorem Ctx.d_told_for (C : Ctx K mg) : ∃ fd, FunD K "told_for" "told_for" (defArgs s_told_for) (defBody s_told_for) (defScope s_told_for) [] [] (He.ga K "told_for") fd := C.c.def_ 51 (d := Eld.d_told_for) rfl
theorem Ctx.d_filling (C : Ctx K mg) : ∃ fd, FunD K "filling" "filling" (defArgs s_filling) (defBody s_filling) (defScope s_filling) [] [] (He.ga K "filling") fd := C.c.def_ 52 (d := Eld.d_filling) rfl
theorem Ctx.d_refusal (C : Ctx K mg) : ∃ fd, FunD K "refusal" "refusal" (defArgs s_refusal) (defBody s_refusal) (defScope s_refusal) [] [] (He.ga K "refusal") fd := C.c.def_ 53 (d := Eld.d_refusal) rfl
theorem Ctx.d_ranked (C : Ctx K mg) : ∃ fd, FunD K "ranked" "ranked" (defArgs s_ranked) (defBody s_ranked) (defScope s_ranked) [] [] (He.ga K "ranked") fd := C.c.def_ 54 (d := Eld.d_ranked) rfl
theorem Ctx.d_place_form (C : Ctx K mg) : ∃ fd, FunD K "place_form" "place_form" (defArgs s_place_form) (defBody s_place_form) (defScope s_place_form) [] [] (He.ga K "place_form") fd := C.c.def_ 55 (d := Eld.d_place_form) rfl
theorem Ctx.d_forms_of (C : Ctx K mg) : ∃ fd, FunD K "forms_of" "forms_of" (defArgs s_forms_of) (defBody s_forms_of) (defScope s_forms_of) [] [] (He.ga K "forms_of") fd := C.c.def_ 56 (d := Eld.d_forms_of) rfl
theorem Ctx.d_forms (C : Ctx K mg) : ∃ fd, FunD K "forms" "forms" (defArgs s_forms) (defBody s_forms) (defScope s_forms) [] [] (He.ga K "forms") fd := C.c.def_ 57 (d := Eld.d_forms) rfl
theorem Ctx.d_formed (C : Ctx K mg) : ∃ fd, FunD K "formed" "formed" (defArgs s_formed) (defBody s_formed) (defScope s_formed) [] [] (He.ga K "formed") fd := C.c.def_ 58 (d := Eld.d_formed) rfl
theorem Ctx.d_rule_folk (C : Ctx K mg) : ∃ fd, FunD K "rule_folk" "rule_folk" (defArgs s_rule_folk) (defBody s_rule_folk) (defScope s_rule_folk) [] [] (He.ga K "rule_folk") fd := C.c.def_ 59 (d := Eld.d_rule_folk) rfl
theorem Ctx.d_form_equations (C : Ctx K mg) : ∃ fd, FunD K "form_equations" "form_equations" (defArgs s_form_equations) (defBody s_form_equations) (defScope s_form_equations) [] [] (He.ga K "form_equations") fd := C.c.def_ 60 (d := Eld.d_form_equations) rfl
theorem Ctx.d_rule_rows (C : Ctx K mg) : ∃ fd, FunD K "rule_rows" "rule_rows" (defArgs s_rule_rows) (defBody s_rule_rows) (defScope s_rule_rows) [] [] (He.ga K "rule_rows") fd := C.c.def_ 61 (d := Eld.d_rule_rows) rfl
theorem Ctx.d_rule (C : Ctx K mg) : ∃ fd, FunD K "rule" "rule" (defArgs s_rule) (defBody s_rule) (defScope s_rule) [] [] (He.ga K "rule") fd := C.c.def_ 62 (d := Eld.d_rule) rfl
theorem Ctx.d_served_so_far (C : Ctx K mg) : ∃ fd, FunD K "served_so_far" "served_so_far" (defArgs s_served_so_far) (defBody s_served_so_far) (defScope s_served_so_far) [] [] (He.ga K "served_so_far") fd := C.c.def_ 63 (d := Eld.d_served_so_far) rfl
theorem Ctx.d_served (C : Ctx K mg) : ∃ fd, FunD K "served" "served" (defArgs s_served) (defBody s_served) (defScope s_served) [] [] (He.ga K "served") fd := C.c.def_ 64 (d := Eld.d_served) rfl
theorem Ctx.d__law_feed (C : Ctx K mg) : ∃ fd, FunD K "_law_feed" "_law_feed" (defArgs s__law_feed) (defBody s__law_feed) (defScope s__law_feed) [] [] (He.ga K "_law_feed") fd := C.c.def_ 65 (d := Eld.d__law_feed) rfl
theorem Ctx.d__law_draw (C : Ctx K mg) : ∃ fd, FunD K "_law_draw" "_law_draw" (defArgs s__law_draw) (defBody s__law_draw) (defScope s__law_draw) [] [] (He.ga K "_law_draw") fd := C.c.def_ 66 (d := Eld.d__law_draw) rfl
theorem Ctx.d__law_words (C : Ctx K mg) : ∃ fd, FunD K "_law_words" "_law_words" (defArgs s__law_words) (defBody s__law_words) (defScope s__law_words) [] [] (He.ga K "_law_words") fd := C.c.def_ 67 (d := Eld.d__law_words) rfl
theorem Ctx.d__law_pick (C : Ctx K mg) : ∃ fd, FunD K "_law_pick" "_law_pick" (defArgs s__law_pick) (defBody s__law_pick) (defScope s__law_pick) [] [] (He.ga K "_law_pick") fd := C.c.def_ 68 (d := Eld.d__law_pick) rfl
theorem Ctx.d__law_rows (C : Ctx K mg) : ∃ fd, FunD K "_law_rows" "_law_rows" (defArgs s__law_rows) (defBody s__law_rows) (defScope s__law_rows) [] [] (He.ga K "_law_rows") fd := C.c.def_ 69 (d := Eld.d__law_rows) rfl
theorem Ctx.d__law_spots (C : Ctx K mg) : ∃ fd, FunD K "_law_spots" "_law_spots" (defArgs s__law_spots) (defBody s__law_spots) (defScope s__law_spots) [] [] (He.ga K "_law_spots") fd := C.c.def_ 70 (d := Eld.d__law_spots) rfl
theorem Ctx.d__law_letters (C : Ctx K mg) : ∃ fd, FunD K "_law_letters" "_law_letters" (defArgs s__law_letters) (defBody s__law_letters) (defScope s__law_letters) [] [] (He.ga K "_law_letters") fd := C.c.def_ 71 (d := Eld.d__law_letters) rfl
theorem Ctx.d__law_terms (C : Ctx K mg) : ∃ fd, FunD K "_law_terms" "_law_terms" (defArgs s__law_terms) (defBody s__law_terms) (defScope s__law_terms) [] [] (He.ga K "_law_terms") fd := C.c.def_ 72 (d := Eld.d__law_terms) rfl
theorem Ctx.d__law_total (C : Ctx K mg) : ∃ fd, FunD K "_law_total" "_law_total" (defArgs s__law_total) (defBody s__law_total) (defScope s__law_total) [] [] (He.ga K "_law_total") fd := C.c.def_ 73 (d := Eld.d__law_total) rfl
theorem Ctx.d__law_is_right (C : Ctx K mg) : ∃ fd, FunD K "_law_is_right" "_law_is_right" (defArgs s__law_is_right) (defBody s__law_is_right) (defScope s__law_is_right) [] [] (He.ga K "_law_is_right") fd := C.c.def_ 74 (d := Eld.d__law_is_right) rfl
theorem Ctx.d__law_form (C : Ctx K mg) : ∃ fd, FunD K "_law_form" "_law_form" (defArgs s__law_form) (defBody s__law_form) (defScope s__law_form) [] [] (He.ga K "_law_form") fd := C.c.def_ 75 (d := Eld.d__law_form) rfl
theorem Ctx.d__law_forms (C : Ctx K mg) : ∃ fd, FunD K "_law_forms" "_law_forms" (defArgs s__law_forms) (defBody s__law_forms) (defScope s__law_forms) [] [] (He.ga K "_law_forms") fd := C.c.def_ 76 (d := Eld.d__law_forms) rfl
theorem Ctx.d__law_most (C : Ctx K mg) : ∃ fd, FunD K "_law_most" "_law_most" (defArgs s__law_most) (defBody s__law_most) (defScope s__law_most) [] [] (He.ga K "_law_most") fd := C.c.def_ 77 (d := Eld.d__law_most) rfl
theorem Ctx.d__law_folk (C : Ctx K mg) : ∃ fd, FunD K "_law_folk" "_law_folk" (defArgs s__law_folk) (defBody s__law_folk) (defScope s__law_folk) [] [] (He.ga K "_law_folk") fd := C.c.def_ 78 (d := Eld.d__law_folk) rfl
theorem Ctx.d__law_equations (C : Ctx K mg) : ∃ fd, FunD K "_law_equations" "_law_equations" (defArgs s__law_equations) (defBody s__law_equations) (defScope s__law_equations) [] [] (He.ga K "_law_equations") fd := C.c.def_ 79 (d := Eld.d__law_equations) rfl
theorem Ctx.d__law_lines (C : Ctx K mg) : ∃ fd, FunD K "_law_lines" "_law_lines" (defArgs s__law_lines) (defBody s__law_lines) (defScope s__law_lines) [] [] (He.ga K "_law_lines") fd := C.c.def_ 80 (d := Eld.d__law_lines) rfl
theorem Ctx.d__law_meets (C : Ctx K mg) : ∃ fd, FunD K "_law_meets" "_law_meets" (defArgs s__law_meets) (defBody s__law_meets) (defScope s__law_meets) [] [] (He.ga K "_law_meets") fd := C.c.def_ 81 (d := Eld.d__law_meets) rfl
theorem Ctx.d__law_search (C : Ctx K mg) : ∃ fd, FunD K "_law_search" "_law_search" (defArgs s__law_search) (defBody s__law_search) (defScope s__law_search) [] [] (He.ga K "_law_search") fd := C.c.def_ 82 (d := Eld.d__law_search) rfl
theorem Ctx.d__law_one_demand (C : Ctx K mg) : ∃ fd, FunD K "_law_one_demand" "_law_one_demand" (defArgs s__law_one_demand) (defBody s__law_one_demand) (defScope s__law_one_demand) [] [] (He.ga K "_law_one_demand") fd := C.c.def_ 83 (d := Eld.d__law_one_demand) rfl
theorem Ctx.d__law_first_bad (C : Ctx K mg) : ∃ fd, FunD K "_law_first_bad" "_law_first_bad" (defArgs s__law_first_bad) (defBody s__law_first_bad) (defScope s__law_first_bad) [] [] (He.ga K "_law_first_bad") fd := C.c.def_ 84 (d := Eld.d__law_first_bad) rfl
theorem Ctx.d_law (C : Ctx K mg) : ∃ fd, FunD K "law" "law" (defArgs s_law) (defBody s_law) (defScope s_law) [] [] (He.ga K "law") fd := C.c.def_ 85 (d := Eld.d_law) rfl
end
end Eld
set_option maxRecDepth 100000
set_option maxHeartbeats 0
/-! The run of the top in the kernel. (Printed by genhead.py.) -/
namespace Eld
open PySem PySem.Spec PyProof.Rows L2
abbrev RR : PySem.W.OpenRow := PySem.W.OpenLaw.row PySem.Challenge.rw_elderalike_k40_whole_books_of_one_demand
/-- the addresses that the facts lean on: the module's dict, its classes with their dicts, methods and codes, its defs and their codes -/
def fnP (g : Addr → Option Obj) (a : Addr) : List Addr := match g a with
  | some ⟨_, _, .func fd, _⟩ => a :: He.refV fd.code
  | _ => []
def clP (g : Addr → Option Obj) (a : Addr) : List Addr := match g a with
  | some ⟨_, _, .cls cd, _⟩ => a :: cd.ns :: (match g cd.ns with
    | some ⟨_, _, .dict es _, _⟩ => es.toList.flatMap fun e => (He.refV e.val).flatMap (fnP g)
    | _ => [])
  | _ => []
def asP (g : Addr → Option Obj) : List Addr := mainGlobals :: (match g mainGlobals with
  | some ⟨_, _, .dict es _, _⟩ => (es.toList.flatMap fun e => (He.refV e.val).flatMap (clP g)) ++ es.toList.flatMap fun e => (He.refV e.val).flatMap (fnP g)
  | _ => [])
def obP (g : Addr → Option Obj) : He.AlD := He.obsD fa fn (He.frG g (asP g))
def hk : PySem.W.Hook where
  α := He.AlD
  obs := fun s => obP s.heap.get?
  val := fun _ => He.valD fn
  says := fun _ h => ∃ K : PySem.W.Frag, K.In h ∧ He.SaysD fa fn K
  of := fun _ _ e => ⟨_, He.frG_in, e⟩
  keeps := fun _ _ _ ⟨K, hK, c⟩ k => ⟨K, PySem.W.Frag.In.keeps hK k, c⟩
def ob (s : PySem.W.SharedT) : He.AlD := obP (HandSHeadRun.getT s)
theorem ob_eq (s : PySem.W.SharedT) : ob s = hk.obs s.abs := by
  have e : HandSHeadRun.getT s = s.abs.heap.get? := funext (HandSHeadRun.getT_eq s)
  show obP (HandSHeadRun.getT s) = obP s.abs.heap.get?
  rw [e]
def loose0 : List Str := ["_wall", "ElderError", "NoNumber", "BadBook", "BadParty", "SMALL", "GREAT", "FIGURES", "MOST_SIGNS", "is_integer", "is_within", "is_pair", "is_of", "is_label", "is_name", "is_comer"]
def loose1 : List Str := ["are_unlike", "common_divisor", "made", "is_fraction", "check_number", "WHOLE", "FRACTIONS", "MOST_HOURS", "is_world", "is_number_of", "told_in", "plus", "times_by", "is_factor_nought", "LETTERS", "MOST_SIZE_books"]
def loose2 : List Str := ["MOST_TABLES", "MOST_DEMANDS", "MOST_TERMS", "MOST_FACTOR", "MOST_RIGHT", "is_table", "are_tables", "is_term", "is_demand", "Book", "letters_in", "most_letters", "arrangements", "instances_of", "left_of", "equation_of"]
def loose3 : List Str := ["MOST_NAMES", "MOST_COMERS", "are_names", "is_place_of", "are_numbers", "Party", "comers", "places_of", "all_folk", "bezout", "opening_unit", "scaled", "items_scaled", "items_added", "mixed", "mixed_clockrows"]
def loose4 : List Str := ["ClockRows", "clock_rows", "slimmed", "items_divided", "items_mixed", "mixed_fractionrows", "FractionRows", "fraction_rows", "determinant", "worth", "CornerRows", "numbered", "named", "whole_rights", "weight_list", "clock_solved"]
def loose5 : List Str := ["fraction_solved", "whole_refusal", "whole_solved", "solved", "opened", "open_equations", "unknowns_of", "told_for", "filling", "refusal", "MOST_SIZE_rules", "ranked", "place_form", "forms_of", "forms", "formed"]
def loose6 : List Str := ["rule_folk", "form_equations", "rule_rows", "rule", "served_so_far", "served", "_law_feed", "_law_draw", "_law_words", "_law_pick", "_law_rows", "_law_spots", "_law_letters", "_law_terms", "_law_total", "_law_is_right"]
def loose7 : List Str := ["_law_form", "_law_forms", "_law_most", "_law_folk", "_law_equations", "_law_lines", "_law_meets", "_law_search", "_law_one_demand", "_law_first_bad"]
def loose : List Str := loose0 ++ loose1 ++ loose2 ++ loose3 ++ loose4 ++ loose5 ++ loose6 ++ loose7
theorem run (w : World) : HandSHeadRun.RunEq RR (PySem.W.view RR.prog [136]) hk ob 15000 loose w := by
  intro os
  kernel_rfl
end Eld
set_option maxRecDepth 100000
set_option maxHeartbeats 1000000
/-! What an expression yields, told over a known part G of the heap H: EvP, its rules; promises of pure defs: pSp, Has. -/
namespace Eld
open PySem PySem.Spec PyProof.Rows L2
abbrev St := L2.St
abbrev rI0 := @L2.rI0

/-! ### heaps: G is known, H is all -/
structure Ext (G H G' H' : Hp) : Prop where
  g : Same G G'
  h : Same H H'
  s : Same G' H'
  f : ∀ b, H b ≠ none → G b = none → G' b = none
theorem Ext.refl {G H : Hp} (s : Same G H) : Ext G H G H := ⟨Same.refl _, Same.refl _, s, fun _ _ h => h⟩
theorem some_of_ne {H : Hp} {b : Addr} (h : H b ≠ none) : ∃ o, H b = some o := by
  cases e : H b with
  | none => exact (h e).elim
  | some o => exact ⟨o, rfl⟩
theorem same_ne {H H' : Hp} (s : Same H H') {b : Addr} (h : H b ≠ none) : H' b ≠ none := by
  obtain ⟨o, e⟩ := some_of_ne h
  rw [s b o e]
  exact fun z => nomatch z
theorem Ext.trans {G H G1 H1 G2 H2 : Hp} (a : Ext G H G1 H1) (b : Ext G1 H1 G2 H2) : Ext G H G2 H2 :=
  ⟨a.g.trans b.g, a.h.trans b.h, b.s, fun x hx gx => b.f x (same_ne a.h hx) (a.f x hx gx)⟩
theorem Same.new {H : Hp} {p : Addr} {o : HO} (h : H p = none) : Same H (upd H p o) := fun b u e => by
  rw [upd_ne (ne_of_none e h)]
  exact e
/-- a new object, known -/
theorem Ext.new {G H : Hp} {p : Addr} {o : HO} (s : Same G H) (h : H p = none) : Ext G H (upd G p o) (upd H p o) := by
  refine ⟨Same.new (s.free h), Same.new h, fun b u e => ?_, fun b hb gb => ?_⟩
  · by_cases q : b = p
    · subst q; rw [upd_same] at e ⊢; exact e
    · rw [upd_ne q] at e ⊢; exact s b u e
  · have q : b ≠ p := fun z => by subst z; exact hb h
    rw [upd_ne q]; exact gb
/-- a new object, not told as known (it may change) -/
theorem Ext.newH {G H : Hp} {p : Addr} {o : HO} (s : Same G H) (h : H p = none) : Ext G H G (upd H p o) :=
  ⟨Same.refl _, Same.new h, s.trans (Same.new h), fun _ _ gb => gb⟩
/-- an object that is new and not known changes -/
theorem Ext.upd {G H G' H' : Hp} {p : Addr} {o : HO} (e : Ext G H G' H') (h : H p = none) (g : G' p = none) : Ext G H G' (upd H' p o) := by
  refine ⟨e.g, fun b u q => ?_, fun b u q => ?_, e.f⟩
  · rw [upd_ne (ne_of_none q h)]; exact e.h b u q
  · rw [upd_ne (ne_of_none q g)]; exact e.s b u q
/-- .. is known from now on -/
theorem Ext.know {G H G' H' : Hp} {p : Addr} {o : HO} (e : Ext G H G' H') (h : H p = none) (g : G' p = none) (hp : H' p = some o) : Ext G H (L2.upd G' p o) H' := by
  refine ⟨e.g.trans (Same.new g), e.h, fun b u q => ?_, fun b hb gb => ?_⟩
  · by_cases z : b = p
    · subst z; rw [upd_same] at q; rw [hp]; exact q
    · rw [upd_ne z] at q; exact e.s b u q
  · have z : b ≠ p := fun z => by subst z; exact hb h
    rw [upd_ne z]; exact e.f b hb gb
/-- both known parts -/
def uni (G G' : Hp) : Hp := fun b => match G b with
  | some o => some o
  | none => G' b
theorem uni_l {G G' : Hp} : Same G (uni G G') := fun b o e => by unfold uni; rw [e]
theorem uni_r {G G' H : Hp} (s : Same G H) (s' : Same G' H) : Same G' (uni G G') := fun b o e => by
  unfold uni
  cases q : G b with
  | none => exact e
  | some u =>
    have a := s b u q
    rw [s' b o e] at a
    exact a.symm
theorem uni_s {G G' H : Hp} (s : Same G H) (s' : Same G' H) : Same (uni G G') H := fun b o e => by
  unfold uni at e
  cases q : G b with
  | none => rw [q] at e; exact s' b o e
  | some u => rw [q] at e; exact s b o (q.trans e)
theorem Ext.lift {G G1 H G' H' : Hp} (sg : Same G G1) (s1 : Same G1 H) (e : Ext G H G' H') : Ext G1 H (uni G' G1) H' := by
  have s1' : Same G1 H' := s1.trans e.h
  refine ⟨uni_r e.s s1', e.h, uni_s e.s s1', fun b hb gb => ?_⟩
  unfold uni
  rw [e.f b hb (sg.free gb)]
  exact gb

/-! ### what is told of a value: predicates that stay -/
class MnP (P : V → Hp → Prop) : Prop where
  mono : ∀ {v : V} {G G' : Hp}, Same G G' → P v G → P v G'
theorem mn {P : V → Hp → Prop} [MnP P] {v : V} {G G' : Hp} (s : Same G G') (h : P v G) : P v G' := MnP.mono s h
def rI (n : Int) : V → Hp → Prop := fun v _ => v = .int n
def rS (x : Str) : V → Hp → Prop := fun v _ => v = .str x
def rB (b : Bool) : V → Hp → Prop := fun v _ => v = .bl b
def rN : V → Hp → Prop := fun v _ => v = .non
def rV (u : V) : V → Hp → Prop := fun v _ => v = u
def rAny : V → Hp → Prop := fun _ _ => True
instance {n : Int} : MnP (rI n) := ⟨fun _ h => h⟩
instance {x : Str} : MnP (rS x) := ⟨fun _ h => h⟩
instance {b : Bool} : MnP (rB b) := ⟨fun _ h => h⟩
instance : MnP rN := ⟨fun _ h => h⟩
instance {u : V} : MnP (rV u) := ⟨fun _ h => h⟩
instance : MnP rAny := ⟨fun _ h => h⟩
theorem Same.seqT {K : PySem.W.Frag} {H H' : Hp} {a : Addr} {xs : List V} (e : Same H H') (h : SqT K H a xs) : SqT K H' a xs := by
  rcases h with (h | ⟨o, h⟩) | h
  · exact .inl (.inl (e _ _ h))
  · exact .inl (.inr ⟨o, e _ _ h⟩)
  · exact .inr h
section
variable {α β γ δ : Type}
def All2 (R : δ → V → Hp → Prop) (G : Hp) : List V → List δ → Prop := Paired fun x d => R d x G
/-- a list, a tuple of things -/
def rL (R : δ → V → Hp → Prop) (ds : List δ) : V → Hp → Prop := fun v G => ∃ a xs, v = .ref a ∧ G a = some (.lst xs) ∧ All2 R G xs ds
def rT (R : δ → V → Hp → Prop) (ds : List δ) : V → Hp → Prop := fun v G => ∃ a xs, v = .ref a ∧ G a = some (.tup xs) ∧ All2 R G xs ds
def r2 (R : α → V → Hp → Prop) (S : β → V → Hp → Prop) (p : α × β) : V → Hp → Prop := fun v G => ∃ a x y, v = .ref a ∧ G a = some (.tup [x, y]) ∧ R p.1 x G ∧ S p.2 y G
def r3 (R : α → V → Hp → Prop) (S : β → V → Hp → Prop) (U : γ → V → Hp → Prop) (p : α × β × γ) : V → Hp → Prop := fun v G => ∃ a x y z, v = .ref a ∧ G a = some (.tup [x, y, z]) ∧ R p.1 x G ∧ S p.2.1 y G ∧ U p.2.2 z G
end
section
variable {K : PySem.W.Frag} {α β γ δ : Type} {R : δ → V → Hp → Prop}
theorem All2.mono [∀ d, MnP (R d)] {G G' : Hp} (s : Same G G') {xs : List V} {ds : List δ} (h : All2 R G xs ds) : All2 R G' xs ds := Paired.mapP h fun _ _ q => mn s q
theorem All2.length {G : Hp} {xs : List V} {ds : List δ} (h : All2 R G xs ds) : xs.length = ds.length := Paired.length h
theorem All2.get {G : Hp} : ∀ {xs : List V} {ds : List δ} {i : Nat} {d : δ}, All2 R G xs ds → ds[i]? = some d → ∃ x, xs[i]? = some x ∧ R d x G
  | _, _, _, _, .nil, e => by simp at e
  | _, _, 0, _, .cons r _, e => by simp at e; subst e; exact ⟨_, rfl, r⟩
  | _, _, i + 1, d, .cons _ t, e => by
    obtain ⟨u, h1, h2⟩ := All2.get (i := i) (d := d) t (by simpa using e)
    exact ⟨u, by simpa using h1, h2⟩
theorem All2.get' {G : Hp} : ∀ {xs : List V} {ds : List δ} {i : Nat} {x : V}, All2 R G xs ds → xs[i]? = some x → ∃ d, ds[i]? = some d ∧ R d x G
  | _, _, _, _, .nil, e => by simp at e
  | _, _, 0, _, .cons r _, e => by simp at e; subst e; exact ⟨_, rfl, r⟩
  | _, _, i + 1, d, .cons _ t, e => by
    obtain ⟨u, h1, h2⟩ := All2.get' (i := i) (x := d) t (by simpa using e)
    exact ⟨u, by simpa using h1, h2⟩
theorem All2.append {G : Hp} : ∀ {xs ys : List V} {ds es : List δ}, All2 R G xs ds → All2 R G ys es → All2 R G (xs ++ ys) (ds ++ es)
  | _, _, _, _, .nil, s => s
  | _, _, _, _, .cons r t, s => .cons r (All2.append t s)
theorem All2.snoc {G : Hp} {xs : List V} {ds : List δ} {x : V} {d : δ} (h : All2 R G xs ds) (r : R d x G) : All2 R G (xs ++ [x]) (ds ++ [d]) := h.append (.cons r .nil)
instance [∀ d, MnP (R d)] {ds : List δ} : MnP (rL R ds) := ⟨fun s ⟨a, xs, e, h, p⟩ => ⟨a, xs, e, s _ _ h, p.mono s⟩⟩
instance [∀ d, MnP (R d)] {ds : List δ} : MnP (rT R ds) := ⟨fun s ⟨a, xs, e, h, p⟩ => ⟨a, xs, e, s _ _ h, p.mono s⟩⟩
instance {R : α → V → Hp → Prop} {S : β → V → Hp → Prop} [∀ d, MnP (R d)] [∀ d, MnP (S d)] {p : α × β} : MnP (r2 R S p) := ⟨fun s ⟨a, x, y, e, h, p, q⟩ => ⟨a, x, y, e, s _ _ h, mn s p, mn s q⟩⟩
instance {R : α → V → Hp → Prop} {S : β → V → Hp → Prop} {U : γ → V → Hp → Prop} [∀ d, MnP (R d)] [∀ d, MnP (S d)] [∀ d, MnP (U d)] {p : α × β × γ} : MnP (r3 R S U p) :=
  ⟨fun s ⟨a, x, y, z, e, h, p, q, r⟩ => ⟨a, x, y, z, e, s _ _ h, mn s p, mn s q, mn s r⟩⟩
theorem all2_map {α : Type} {G : Hp} {S : α → V → Hp → Prop} (g : δ → α) {xs : List V} {ds : List δ} (h : All2 R G xs ds) (hs : ∀ d x, d ∈ ds → R d x G → S (g d) x G) : All2 S G xs (ds.map g) := by
  induction h with
  | nil => exact .nil
  | @cons x d xs ds r t ih => exact .cons (hs d x (List.mem_cons_self ..) r) (ih fun e y m => hs e y (List.mem_cons_of_mem _ m))
theorem all2_ints {G : Hp} {ns : List Int} : ∀ {xs : List V}, All2 rI G xs ns ↔ xs = ns.map V.int := by
  intro xs
  constructor
  · intro h
    induction h with
    | nil => rfl
    | cons r t ih => rw [List.map_cons, ← ih]; exact congrArg (· :: _) r
  · rintro rfl
    induction ns with
    | nil => exact .nil
    | cons n ns ih => exact .cons rfl ih
theorem all2_strs {G : Hp} {ns : List Str} : ∀ {xs : List V}, All2 rS G xs ns ↔ xs = ns.map V.str := by
  intro xs
  constructor
  · intro h
    induction h with
    | nil => rfl
    | cons r t ih => rw [List.map_cons, ← ih]; exact congrArg (· :: _) r
  · rintro rfl
    induction ns with
    | nil => exact .nil
    | cons n ns ih => exact .cons rfl ih
theorem all2_bls {G : Hp} {ns : List Bool} : ∀ {xs : List V}, All2 rB G xs ns ↔ xs = ns.map V.bl := by
  intro xs
  constructor
  · intro h
    induction h with
    | nil => rfl
    | cons r t ih => rw [List.map_cons, ← ih]; exact congrArg (· :: _) r
  · rintro rfl
    induction ns with
    | nil => exact .nil
    | cons n ns ih => exact .cons rfl ih
end

/-! ### what evaluates to what -/
def EvP (te : TE) (σ : St) (G : Hp) (P : V → Hp → Prop) : Prop := ∀ H, Same G H → ∀ Q : VK, (∀ v G' H', Ext G H G' H' → P v G' → Q v H') → te σ H Q
def EvT (tt : TT) (σ : St) (G : Hp) (b : Bool) : Prop := ∀ H, Same G H → ∀ Q : Bool → Hp → Prop, (∀ G' H', Ext G H G' H' → Q b H') → tt σ H Q
def EvA (ta : TA) (σ : St) (G : Hp) (PP : List V → Hp → Prop) : Prop := ∀ H, Same G H → ∀ Q : List V → Hp → Prop, (∀ vs G' H', Ext G H G' H' → PP vs G' → Q vs H') → ta σ H Q
def EvR (r : VK → Hp → Prop) (G : Hp) (P : V → Hp → Prop) : Prop := ∀ H, Same G H → ∀ Q : VK, (∀ v G' H', Ext G H G' H' → P v G' → Q v H') → r Q H
/-- a target takes a value: the slots behind -/
def EvG (g : TG) (v : V) (σ : St) (G : Hp) (σ' : St) : Prop := ∀ H, Same G H → ∀ Q : St → Hp → Prop, Q σ' H → g v σ H Q
section
variable {K : PySem.W.Frag} {σ : St} {G G1 H : Hp} {ta tb te tc : TE} {tt tu : TT} {P P1 P2 P3 : V → Hp → Prop} {α β γ δ ε : Type}
theorem EvP.mono [MnP P] (s : Same G G1) (h : EvP te σ G P) : EvP te σ G1 P := fun H sH Q q =>
  h H (s.trans sH) Q fun v G' H' e p => q v (uni G' G1) H' (e.lift s sH) (mn uni_l p)
theorem EvT.mono {b : Bool} (s : Same G G1) (h : EvT tt σ G b) : EvT tt σ G1 b := fun H sH Q q =>
  h H (s.trans sH) Q fun G' H' e => q (uni G' G1) H' (e.lift s sH)
theorem EvP.imp (h : EvP te σ G P) (i : ∀ v G', Same G G' → P v G' → P1 v G') : EvP te σ G P1 := fun H s Q q => h H s Q fun v G' H' e p => q v G' H' e (i v G' e.g p)
theorem EvP.congr {te' : TE} (h : EvP te σ G P) (e : te' = te) : EvP te' σ G P := by rw [e]; exact h
theorem EvT.to {b b' : Bool} (h : EvT tt σ G b) (e : b = b') : EvT tt σ G b' := e ▸ h
theorem ev_var {i : Nat} {v : V} (h : σ[i]? = some (some v)) (p : P v G) : EvP (tVar i) σ G P := fun H s Q q => ⟨v, h, q v G H (Ext.refl s) p⟩
theorem ev_c {v : V} (p : P v G) : EvP (tC v) σ G P := fun H s Q q => q v G H (Ext.refl s) p
theorem ev_int {n : Int} : EvP (tC (.int n)) σ G (rI n) := ev_c rfl
theorem ev_str {n : Str} : EvP (tC (.str n)) σ G (rS n) := ev_c rfl
theorem ev_bl {n : Bool} : EvP (tC (.bl n)) σ G (rB n) := ev_c rfl
theorem ev_non : EvP (tC .non) σ G rN := ev_c rfl
theorem ev_vi {i : Nat} {n : Int} (h : σ[i]? = some (some (.int n))) : EvP (tVar i) σ G (rI n) := ev_var h rfl
theorem ev_vs {i : Nat} {n : Str} (h : σ[i]? = some (some (.str n))) : EvP (tVar i) σ G (rS n) := ev_var h rfl
theorem ev_vb {i : Nat} {n : Bool} (h : σ[i]? = some (some (.bl n))) : EvP (tVar i) σ G (rB n) := ev_var h rfl
/-- two operands, then the operation -/
theorem ev_op {r : R2} [MnP P1] (ha : EvP ta σ G P1) (hb : ∀ G', Same G G' → EvP tb σ G' P2) (hr : ∀ x y G', Same G G' → P1 x G' → P2 y G' → EvR (fun Q H => r x y H Q) G' P) : EvP (tOp r ta tb) σ G P := fun H s Q q =>
  ha H s _ fun x G' H' e p => hb G' e.g H' e.s _ fun y G'' H'' e' p' => hr x y G'' (e.g.trans e'.g) (mn e'.g p) p' H'' e'.s Q fun v G3 H3 e3 p3 => q v G3 H3 ((e.trans e').trans e3) p3
theorem ev_opI {C : Int → Int → Prop} {g : Int → Int → V} {i j : Int} (ha : EvP ta σ G (rI i)) (hb : EvP tb σ G (rI j)) (hc : C i j) (hp : ∀ G, P (g i j) G) : EvP (tOp (L2.rI C g) ta tb) σ G P :=
  ev_op ha (fun _ s => hb.mono s) fun x y G' _ p p' H s Q q => ⟨i, j, p, p', hc, q _ _ _ (Ext.refl s) (hp _)⟩
theorem ev_opI0 {g : Int → Int → V} {i j : Int} (ha : EvP ta σ G (rI i)) (hb : EvP tb σ G (rI j)) (hp : ∀ G, P (g i j) G) : EvP (tOp (rI0 g) ta tb) σ G P :=
  ev_op ha (fun _ s => hb.mono s) fun x y G' _ p p' H s Q q => ⟨i, j, p, p', q _ _ _ (Ext.refl s) (hp _)⟩
theorem ev_add {i j : Int} (ha : EvP ta σ G (rI i)) (hb : EvP tb σ G (rI j)) : EvP (tOp (rI0 fun i j => .int (i + j)) ta tb) σ G (rI (i + j)) := ev_opI0 ha hb fun _ => rfl
theorem ev_sub {i j : Int} (ha : EvP ta σ G (rI i)) (hb : EvP tb σ G (rI j)) : EvP (tOp (rI0 fun i j => .int (i - j)) ta tb) σ G (rI (i - j)) := ev_opI0 ha hb fun _ => rfl
theorem ev_mul {C : Int → Int → Prop} {i j : Int} (ha : EvP ta σ G (rI i)) (hb : EvP tb σ G (rI j)) (hc : C i j) : EvP (tOp (L2.rI C fun i j => .int (i * j)) ta tb) σ G (rI (i * j)) := ev_opI ha hb hc fun _ => rfl
theorem ev_mod {C : Int → Int → Prop} {i j : Int} (ha : EvP ta σ G (rI i)) (hb : EvP tb σ G (rI j)) (hc : C i j) : EvP (tOp (L2.rI C fun i j => .int (i.fmod j)) ta tb) σ G (rI (i.fmod j)) := ev_opI ha hb hc fun _ => rfl
theorem ev_div {C : Int → Int → Prop} {i j : Int} (ha : EvP ta σ G (rI i)) (hb : EvP tb σ G (rI j)) (hc : C i j) : EvP (tOp (L2.rI C fun i j => .int (i.fdiv j)) ta tb) σ G (rI (i.fdiv j)) := ev_opI ha hb hc fun _ => rfl
theorem ev_neg {i : Int} (ha : EvP ta σ G (rI i)) : EvP (tUn (L2.rU fun i => .int (-i)) ta) σ G (rI (-i)) := fun H s Q q => ha H s _ fun x G' H' e p => ⟨i, p, q _ G' H' e rfl⟩
theorem ev_lt {i j : Int} (ha : EvP ta σ G (rI i)) (hb : EvP tb σ G (rI j)) : EvP (tOp (rI0 fun i j => .bl (decide (i < j))) ta tb) σ G (rB (decide (i < j))) := ev_opI0 ha hb fun _ => rfl
theorem ev_le {i j : Int} (ha : EvP ta σ G (rI i)) (hb : EvP tb σ G (rI j)) : EvP (tOp (rI0 fun i j => .bl (decide (i ≤ j))) ta tb) σ G (rB (decide (i ≤ j))) := ev_opI0 ha hb fun _ => rfl
theorem ev_gt {i j : Int} (ha : EvP ta σ G (rI i)) (hb : EvP tb σ G (rI j)) : EvP (tOp (rI0 fun i j => .bl (decide (j < i))) ta tb) σ G (rB (decide (j < i))) := ev_opI0 ha hb fun _ => rfl
theorem ev_ge {i j : Int} (ha : EvP ta σ G (rI i)) (hb : EvP tb σ G (rI j)) : EvP (tOp (rI0 fun i j => .bl (decide (j ≤ i))) ta tb) σ G (rB (decide (j ≤ i))) := ev_opI0 ha hb fun _ => rfl
theorem ev_eqV {x y : V} (ha : EvP ta σ G (rV x)) (hb : EvP tb σ G (rV y)) (hs : scal x y = true) : EvP (tOp rEq ta tb) σ G (rB (decide (x = y))) :=
  ev_op ha (fun _ s => hb.mono s) fun x' y' G' _ p p' H s Q q => by
    have p : x' = x := p
    have p' : y' = y := p'
    subst p p'
    exact ⟨hs, q _ _ _ (Ext.refl s) rfl⟩
theorem ev_neV {x y : V} (ha : EvP ta σ G (rV x)) (hb : EvP tb σ G (rV y)) (hs : scal x y = true) : EvP (tOp rNe ta tb) σ G (rB (!decide (x = y))) :=
  ev_op ha (fun _ s => hb.mono s) fun x' y' G' _ p p' H s Q q => by
    have p : x' = x := p
    have p' : y' = y := p'
    subst p p'
    exact ⟨hs, q _ _ _ (Ext.refl s) rfl⟩
theorem dec_intV {i j : Int} : decide (V.int i = V.int j) = decide (i = j) := by
  by_cases e : i = j
  · subst e; simp
  · rw [decide_eq_false e, decide_eq_false (fun z => e (V.int.inj z))]
theorem dec_strV {i j : Str} : decide (V.str i = V.str j) = decide (i = j) := by
  by_cases e : i = j
  · subst e; simp
  · rw [decide_eq_false e, decide_eq_false (fun z => e (V.str.inj z))]
theorem dec_blV {i j : Bool} : decide (V.bl i = V.bl j) = decide (i = j) := by
  by_cases e : i = j
  · subst e; simp
  · rw [decide_eq_false e, decide_eq_false (fun z => e (V.bl.inj z))]
theorem ev_eq {i j : Int} (ha : EvP ta σ G (rI i)) (hb : EvP tb σ G (rI j)) : EvP (tOp rEq ta tb) σ G (rB (decide (i = j))) := by
  rw [← dec_intV]; exact ev_eqV ha hb rfl
theorem ev_ne {i j : Int} (ha : EvP ta σ G (rI i)) (hb : EvP tb σ G (rI j)) : EvP (tOp rNe ta tb) σ G (rB (!decide (i = j))) := by
  rw [← dec_intV]; exact ev_neV ha hb rfl
theorem ev_eqS {i j : Str} (ha : EvP ta σ G (rS i)) (hb : EvP tb σ G (rS j)) : EvP (tOp rEq ta tb) σ G (rB (decide (i = j))) := by
  rw [← dec_strV]; exact ev_eqV ha hb rfl
theorem ev_neS {i j : Str} (ha : EvP ta σ G (rS i)) (hb : EvP tb σ G (rS j)) : EvP (tOp rNe ta tb) σ G (rB (!decide (i = j))) := by
  rw [← dec_strV]; exact ev_neV ha hb rfl
theorem ev_eqB {i j : Bool} (ha : EvP ta σ G (rB i)) (hb : EvP tb σ G (rB j)) : EvP (tOp rEq ta tb) σ G (rB (decide (i = j))) := by
  rw [← dec_blV]; exact ev_eqV ha hb rfl
theorem ev_neB {i j : Bool} (ha : EvP ta σ G (rB i)) (hb : EvP tb σ G (rB j)) : EvP (tOp rNe ta tb) σ G (rB (!decide (i = j))) := by
  rw [← dec_blV]; exact ev_neV ha hb rfl
theorem ev_isN {x : V} (ha : EvP ta σ G (rV x)) (hb : EvP tb σ G rN) : EvP (tOp (fun x y H Q => y = .non ∧ Q (.bl (decide (x = .non))) H) ta tb) σ G (rB (decide (x = .non))) :=
  ev_op ha (fun _ s => hb.mono s) fun x' y' G' _ p p' H s Q q => by
    have p : x' = x := p
    subst p
    exact ⟨p', q _ _ _ (Ext.refl s) rfl⟩
theorem ev_notN {x : V} (ha : EvP ta σ G (rV x)) (hb : EvP tb σ G rN) : EvP (tOp (fun x y H Q => y = .non ∧ Q (.bl (!decide (x = .non))) H) ta tb) σ G (rB (!decide (x = .non))) :=
  ev_op ha (fun _ s => hb.mono s) fun x' y' G' _ p p' H s Q q => by
    have p : x' = x := p
    subst p
    exact ⟨p', q _ _ _ (Ext.refl s) rfl⟩
theorem ev_addS {x y : Str} (ha : EvP ta σ G (rS x)) (hb : EvP tb σ G (rS y)) (hl : x.length + y.length ≤ sizeLine) : EvP (tOp (fun x y H Q => ∃ i j, x = .str i ∧ y = .str j ∧ i.length + j.length ≤ sizeLine ∧ Q (.str (i ++ j)) H) ta tb) σ G (rS (x ++ y)) :=
  ev_op ha (fun _ s => hb.mono s) fun x' y' G' _ p p' H s Q q => ⟨x, y, p, p', hl, q _ _ _ (Ext.refl s) rfl⟩
/-- comparisons in a chain -/
theorem ev_chain {g g' : Int → Int → V} {i j k : Int} {c d : Bool} (ha : EvP ta σ G (rI i)) (hb : EvP tb σ G (rI j)) (hc : EvP tc σ G (rI k)) (hg : g i j = .bl c) (hg' : c = true → g' j k = .bl d) :
    EvP (tChain (rI0 g) (rI0 g') ta tb tc) σ G (rB (c && d)) := fun H s Q q =>
  ha H s _ fun x G' H' e p => hb.mono e.g H' e.s _ fun y G2 H2 e2 p2 => by
    have p : x = .int i := p
    have p2 : y = .int j := p2
    subst p p2
    refine ⟨i, j, rfl, rfl, c, hg, ?_⟩
    cases c with
    | false => exact q _ G2 H2 (e.trans e2) rfl
    | true =>
      refine hc.mono (e.g.trans e2.g) H2 e2.s _ fun z G3 H3 e3 p3 => ?_
      have p3 : z = .int k := p3
      subst p3
      refine ⟨j, k, rfl, rfl, ?_⟩
      rw [hg' rfl]
      exact q _ G3 H3 ((e.trans e2).trans e3) rfl
theorem ev_le_le {i j k : Int} (ha : EvP ta σ G (rI i)) (hb : EvP tb σ G (rI j)) (hc : EvP tc σ G (rI k)) :
    EvP (tChain (rI0 fun i j => .bl (decide (i ≤ j))) (rI0 fun i j => .bl (decide (i ≤ j))) ta tb tc) σ G (rB (decide (i ≤ j) && decide (j ≤ k))) := ev_chain ha hb hc rfl fun _ => rfl

/-! tests -/
theorem et_val {b : Bool} (h : EvP te σ G (rB b)) : EvT (tTest te) σ G b := fun H s Q q => h H s _ fun v G' H' e p => ⟨b, p, q G' H' e⟩
theorem et_B {b : Bool} (h : EvP te σ G (rB b)) : EvT (tB te) σ G b := fun H s Q q => h H s _ fun v G' H' e p => ⟨b, p, q G' H' e⟩
theorem et_yes : EvT tYes σ G true := fun H s Q q => q G H (Ext.refl s)
theorem et_not {b : Bool} (h : EvT tt σ G b) : EvT (tNot tt) σ G (!b) := fun H s Q q => h H s _ q
theorem et_and {a b : Bool} (h1 : EvT tt σ G a) (h2 : a = true → EvT tu σ G b) : EvT (tAnd tt tu) σ G (a && b) := fun H s Q q => h1 H s _ fun G' H' e => by
  cases a with
  | true =>
    show tu σ H' Q
    exact (h2 rfl).mono e.g H' e.s Q fun G2 H2 e2 => q G2 H2 (e.trans e2)
  | false =>
    show Q false H'
    exact q G' H' e
theorem et_or {a b : Bool} (h1 : EvT tt σ G a) (h2 : a = false → EvT tu σ G b) : EvT (tOr tt tu) σ G (a || b) := fun H s Q q => h1 H s _ fun G' H' e => by
  cases a with
  | true =>
    show Q true H'
    exact q G' H' e
  | false =>
    show tu σ H' Q
    exact (h2 rfl).mono e.g H' e.s Q fun G2 H2 e2 => q G2 H2 (e.trans e2)
theorem ev_andV {a b : Bool} (h1 : EvP ta σ G (rB a)) (h2 : a = true → EvP tb σ G (rB b)) : EvP (tAndV ta tb) σ G (rB (a && b)) := fun H s Q q => h1 H s _ fun v G' H' e p => ⟨a, p, by
  cases a with
  | true =>
    show tb σ H' Q
    exact (h2 rfl).mono e.g H' e.s Q fun v G2 H2 e2 p2 => q v G2 H2 (e.trans e2) p2
  | false =>
    show Q (.bl false) H'
    exact q _ G' H' e rfl⟩
theorem ev_orV {a b : Bool} (h1 : EvP ta σ G (rB a)) (h2 : a = false → EvP tb σ G (rB b)) : EvP (tOrV ta tb) σ G (rB (a || b)) := fun H s Q q => h1 H s _ fun v G' H' e p => ⟨a, p, by
  cases a with
  | true =>
    show Q (.bl true) H'
    exact q _ G' H' e rfl
  | false =>
    show tb σ H' Q
    exact (h2 rfl).mono e.g H' e.s Q fun v G2 H2 e2 p2 => q v G2 H2 (e.trans e2) p2⟩
theorem ev_notV {a : Bool} (h1 : EvP ta σ G (rB a)) : EvP (tNotV ta) σ G (rB (!a)) := fun H s Q q => h1 H s _ fun v G' H' e p => ⟨a, p, q _ G' H' e rfl⟩
theorem ev_if {b : Bool} [MnP P] (h : EvT tt σ G b) (h1 : b = true → EvP ta σ G P) (h2 : b = false → EvP tb σ G P) : EvP (tIf tt ta tb) σ G P := fun H s Q q => h H s _ fun G' H' e => by
  cases b with
  | true =>
    show ta σ H' Q
    exact (h1 rfl).mono e.g H' e.s Q fun v G2 H2 e2 p2 => q v G2 H2 (e.trans e2) p2
  | false =>
    show tb σ H' Q
    exact (h2 rfl).mono e.g H' e.s Q fun v G2 H2 e2 p2 => q v G2 H2 (e.trans e2) p2

/-! arguments -/
def pNil : List V → Hp → Prop := fun vs _ => vs = []
def pCons (P : V → Hp → Prop) (PP : List V → Hp → Prop) : List V → Hp → Prop := fun vs G => ∃ v ws, vs = v :: ws ∧ P v G ∧ PP ws G
theorem ea_nil : EvA tNil σ G pNil := fun H s Q q => q [] G H (Ext.refl s) rfl
theorem ea_cons {tr : TA} {PP : List V → Hp → Prop} [MnP P] (h : EvP te σ G P) (hr : ∀ G', Same G G' → EvA tr σ G' PP) : EvA (tCons te tr) σ G (pCons P PP) := fun H s Q q =>
  h H s _ fun v G' H' e p => hr G' e.g H' e.s _ fun ws G2 H2 e2 p2 => q _ G2 H2 (e.trans e2) ⟨v, ws, rfl, mn e2.g p, p2⟩
theorem ea_1 [MnP P] (h : EvP te σ G P) : EvA (tCons te tNil) σ G (pCons P pNil) := ea_cons h fun _ _ => ea_nil
theorem ea_2 [MnP P] [MnP P1] (h : EvP te σ G P) (h1 : EvP ta σ G P1) : EvA (tCons te (tCons ta tNil)) σ G (pCons P (pCons P1 pNil)) := ea_cons h fun _ s => ea_1 (h1.mono s)
theorem ea_3 [MnP P] [MnP P1] [MnP P2] (h : EvP te σ G P) (h1 : EvP ta σ G P1) (h2 : EvP tb σ G P2) : EvA (tCons te (tCons ta (tCons tb tNil))) σ G (pCons P (pCons P1 (pCons P2 pNil))) := ea_cons h fun _ s => ea_2 (h1.mono s) (h2.mono s)
theorem ea_4 [MnP P] [MnP P1] [MnP P2] [MnP P3] (h : EvP te σ G P) (h1 : EvP ta σ G P1) (h2 : EvP tb σ G P2) (h3 : EvP tc σ G P3) : EvA (tCons te (tCons ta (tCons tb (tCons tc tNil)))) σ G (pCons P (pCons P1 (pCons P2 (pCons P3 pNil)))) := ea_cons h fun _ s => ea_3 (h1.mono s) (h2.mono s) (h3.mono s)
theorem ea_5 {td : TE} {P4 : V → Hp → Prop} [MnP P] [MnP P1] [MnP P2] [MnP P3] [MnP P4] (h : EvP te σ G P) (h1 : EvP ta σ G P1) (h2 : EvP tb σ G P2) (h3 : EvP tc σ G P3) (h4 : EvP td σ G P4) : EvA (tCons te (tCons ta (tCons tb (tCons tc (tCons td tNil))))) σ G (pCons P (pCons P1 (pCons P2 (pCons P3 (pCons P4 pNil))))) := ea_cons h fun _ s => ea_4 (h1.mono s) (h2.mono s) (h3.mono s) (h4.mono s)
theorem ev_cb {r : List V → Hp → VK → Prop} {tr : TA} {PP : List V → Hp → Prop} (h : EvA tr σ G PP) (hr : ∀ vs G', Same G G' → PP vs G' → EvR (fun Q H => r vs H Q) G' P) : EvP (tCB r tr) σ G P := fun H s Q q =>
  h H s _ fun vs G' H' e p => hr vs G' e.g p H' e.s Q fun v G2 H2 e2 p2 => q v G2 H2 (e.trans e2) p2
theorem ev_cb1 {r : List V → Hp → VK → Prop} [MnP P1] (h : EvP te σ G P1) (hr : ∀ v G', Same G G' → P1 v G' → EvR (fun Q H => r [v] H Q) G' P) : EvP (tCB r (tCons te tNil)) σ G P :=
  ev_cb (ea_1 h) fun vs G' s p => by
    obtain ⟨v, ws, rfl, p, rfl⟩ := p
    exact hr v G' s p
/-- displays -/
theorem ev_tupA {tr : TA} {PP : List V → Hp → Prop} (h : EvA tr σ G PP) (hn : ∀ vs G', PP vs G' → vs.length ≤ sizeLine) (hp : ∀ vs a G', Same G G' → PP vs G' → G' a = none → P (.ref a) (upd G' a (.tup vs))) : EvP (tTup tr) σ G P := fun H s Q q =>
  h H s _ fun vs G' H' e p => ⟨hn vs G' p, fun a ha => q _ _ _ (e.trans (Ext.new e.s ha)) (hp vs a G' e.g p (e.s.free ha))⟩
theorem ev_lstA {tr : TA} {PP : List V → Hp → Prop} (h : EvA tr σ G PP) (hn : ∀ vs G', PP vs G' → vs.length ≤ sizeLine) (hp : ∀ vs a G', Same G G' → PP vs G' → G' a = none → P (.ref a) (upd G' a (.lst vs))) : EvP (tLst tr) σ G P := fun H s Q q =>
  h H s _ fun vs G' H' e p => ⟨hn vs G' p, fun a ha => q _ _ _ (e.trans (Ext.new e.s ha)) (hp vs a G' e.g p (e.s.free ha))⟩
theorem ev_t2 {R : α → V → Hp → Prop} {S : β → V → Hp → Prop} {x : α} {y : β} [∀ d, MnP (R d)] [∀ d, MnP (S d)] (ha : EvP ta σ G (R x)) (hb : EvP tb σ G (S y)) : EvP (tTup (tCons ta (tCons tb tNil))) σ G (r2 R S (x, y)) :=
  ev_tupA (ea_2 ha hb) (fun vs _ p => by obtain ⟨v, _, rfl, _, w, _, rfl, _, rfl⟩ := p; show 2 ≤ sizeLine; decide) fun vs a G' s p n => by
    obtain ⟨v, _, rfl, p1, w, _, rfl, p2, rfl⟩ := p
    exact ⟨a, v, w, rfl, upd_same, mn (Same.new n) p1, mn (Same.new n) p2⟩
theorem ev_t3 {R : α → V → Hp → Prop} {S : β → V → Hp → Prop} {U : γ → V → Hp → Prop} {x : α} {y : β} {z : γ} [∀ d, MnP (R d)] [∀ d, MnP (S d)] [∀ d, MnP (U d)] (ha : EvP ta σ G (R x)) (hb : EvP tb σ G (S y)) (hc : EvP tc σ G (U z)) :
    EvP (tTup (tCons ta (tCons tb (tCons tc tNil)))) σ G (r3 R S U (x, y, z)) :=
  ev_tupA (ea_3 ha hb hc) (fun vs _ p => by obtain ⟨v, _, rfl, _, w, _, rfl, _, u, _, rfl, _, rfl⟩ := p; show 3 ≤ sizeLine; decide) fun vs a G' s p n => by
    obtain ⟨v, _, rfl, p1, w, _, rfl, p2, u, _, rfl, p3, rfl⟩ := p
    exact ⟨a, v, w, u, rfl, upd_same, mn (Same.new n) p1, mn (Same.new n) p2, mn (Same.new n) p3⟩
theorem ev_tT0 {R : δ → V → Hp → Prop} : EvP (tTup tNil) σ G (rT R []) :=
  ev_tupA ea_nil (fun vs _ p => by cases (show vs = [] from p); exact Nat.zero_le _) fun vs a G' s p n => by
    cases (show vs = [] from p)
    exact ⟨a, [], rfl, upd_same, .nil⟩
theorem ev_tT1 {R : δ → V → Hp → Prop} {x : δ} [∀ d, MnP (R d)] (ha : EvP ta σ G (R x)) : EvP (tTup (tCons ta tNil)) σ G (rT R [x]) :=
  ev_tupA (ea_1 ha) (fun vs _ p => by obtain ⟨v, _, rfl, _, rfl⟩ := p; show 1 ≤ sizeLine; decide) fun vs a G' s p n => by
    obtain ⟨v, _, rfl, p1, rfl⟩ := p
    exact ⟨a, [v], rfl, upd_same, .cons (mn (Same.new n) p1) .nil⟩
theorem ev_tT2 {R : δ → V → Hp → Prop} {x y : δ} [∀ d, MnP (R d)] (ha : EvP ta σ G (R x)) (hb : EvP tb σ G (R y)) : EvP (tTup (tCons ta (tCons tb tNil))) σ G (rT R [x, y]) :=
  ev_tupA (ea_2 ha hb) (fun vs _ p => by obtain ⟨v, _, rfl, _, w, _, rfl, _, rfl⟩ := p; show 2 ≤ sizeLine; decide) fun vs a G' s p n => by
    obtain ⟨v, _, rfl, p1, w, _, rfl, p2, rfl⟩ := p
    exact ⟨a, [v, w], rfl, upd_same, .cons (mn (Same.new n) p1) (.cons (mn (Same.new n) p2) .nil)⟩
theorem ev_l0 {R : δ → V → Hp → Prop} : EvP (tLst tNil) σ G (rL R []) :=
  ev_lstA ea_nil (fun vs _ p => by cases (show vs = [] from p); exact Nat.zero_le _) fun vs a G' s p n => by
    cases (show vs = [] from p)
    exact ⟨a, [], rfl, upd_same, .nil⟩
theorem ev_l1 {R : δ → V → Hp → Prop} {x : δ} [∀ d, MnP (R d)] (ha : EvP ta σ G (R x)) : EvP (tLst (tCons ta tNil)) σ G (rL R [x]) :=
  ev_lstA (ea_1 ha) (fun vs _ p => by obtain ⟨v, _, rfl, _, rfl⟩ := p; show 1 ≤ sizeLine; decide) fun vs a G' s p n => by
    obtain ⟨v, _, rfl, p1, rfl⟩ := p
    exact ⟨a, [v], rfl, upd_same, .cons (mn (Same.new n) p1) .nil⟩
/-- items -/
theorem ev_ixL {R : δ → V → Hp → Prop} {ds : List δ} {i : Int} {j : Nat} {d : δ} [∀ d, MnP (R d)] (ha : EvP ta σ G (rL R ds)) (hb : EvP tb σ G (rI i)) (hi : i = (j : Int)) (hd : ds[j]? = some d) : EvP (tOp (rIxL K) ta tb) σ G (R d) :=
  ev_op ha (fun _ s => hb.mono s) fun x y G' _ p p' H s Q q => by
    obtain ⟨a, xs, rfl, h, al⟩ := p
    obtain ⟨v, hv, rv⟩ := al.get hd
    exact ⟨a, xs, i, v, rfl, p', SqL.of (s _ _ h), at_of hi hv, q v _ _ (Ext.refl s) rv⟩
theorem ev_ixT {R : δ → V → Hp → Prop} {ds : List δ} {i : Int} {j : Nat} {d : δ} [∀ d, MnP (R d)] (ha : EvP ta σ G (rT R ds)) (hb : EvP tb σ G (rI i)) (hi : i = (j : Int)) (hd : ds[j]? = some d) : EvP (tOp (rIxT K) ta tb) σ G (R d) :=
  ev_op ha (fun _ s => hb.mono s) fun x y G' _ p p' H s Q q => by
    obtain ⟨a, xs, rfl, h, al⟩ := p
    obtain ⟨v, hv, rv⟩ := al.get hd
    exact ⟨a, xs, i, v, rfl, p', SqT.of (s _ _ h), at_of hi hv, q v _ _ (Ext.refl s) rv⟩
theorem ev_fst {R : α → V → Hp → Prop} {S : β → V → Hp → Prop} {p : α × β} [∀ d, MnP (R d)] [∀ d, MnP (S d)] (ha : EvP ta σ G (r2 R S p)) : EvP (tOp (rIxT K) ta (tC (.int 0))) σ G (R p.1) :=
  ev_op ha (fun _ s => ev_int) fun x y G' _ p p' H s Q q => by
    obtain ⟨a, v, w, rfl, h, r1, r2⟩ := p
    exact ⟨a, _, 0, v, rfl, p', SqT.of (s _ _ h), at_of (j := 0) rfl rfl, q v _ _ (Ext.refl s) r1⟩
theorem ev_snd {R : α → V → Hp → Prop} {S : β → V → Hp → Prop} {p : α × β} [∀ d, MnP (R d)] [∀ d, MnP (S d)] (ha : EvP ta σ G (r2 R S p)) : EvP (tOp (rIxT K) ta (tC (.int 1))) σ G (S p.2) :=
  ev_op ha (fun _ s => ev_int) fun x y G' _ p p' H s Q q => by
    obtain ⟨a, v, w, rfl, h, r1, r2⟩ := p
    exact ⟨a, _, 1, w, rfl, p', SqT.of (s _ _ h), at_of (j := 1) rfl rfl, q w _ _ (Ext.refl s) r2⟩
theorem ev_31 {R : α → V → Hp → Prop} {S : β → V → Hp → Prop} {U : γ → V → Hp → Prop} {p : α × β × γ} [∀ d, MnP (R d)] [∀ d, MnP (S d)] [∀ d, MnP (U d)] (ha : EvP ta σ G (r3 R S U p)) : EvP (tOp (rIxT K) ta (tC (.int 0))) σ G (R p.1) :=
  ev_op ha (fun _ s => ev_int) fun x y G' _ p p' H s Q q => by
    obtain ⟨a, v, w, u, rfl, h, r1, r2, r3⟩ := p
    exact ⟨a, _, 0, v, rfl, p', SqT.of (s _ _ h), at_of (j := 0) rfl rfl, q v _ _ (Ext.refl s) r1⟩
theorem ev_32 {R : α → V → Hp → Prop} {S : β → V → Hp → Prop} {U : γ → V → Hp → Prop} {p : α × β × γ} [∀ d, MnP (R d)] [∀ d, MnP (S d)] [∀ d, MnP (U d)] (ha : EvP ta σ G (r3 R S U p)) : EvP (tOp (rIxT K) ta (tC (.int 1))) σ G (S p.2.1) :=
  ev_op ha (fun _ s => ev_int) fun x y G' _ p p' H s Q q => by
    obtain ⟨a, v, w, u, rfl, h, r1, r2, r3⟩ := p
    exact ⟨a, _, 1, w, rfl, p', SqT.of (s _ _ h), at_of (j := 1) rfl rfl, q w _ _ (Ext.refl s) r2⟩
theorem ev_33 {R : α → V → Hp → Prop} {S : β → V → Hp → Prop} {U : γ → V → Hp → Prop} {p : α × β × γ} [∀ d, MnP (R d)] [∀ d, MnP (S d)] [∀ d, MnP (U d)] (ha : EvP ta σ G (r3 R S U p)) : EvP (tOp (rIxT K) ta (tC (.int 2))) σ G (U p.2.2) :=
  ev_op ha (fun _ s => ev_int) fun x y G' _ p p' H s Q q => by
    obtain ⟨a, v, w, u, rfl, h, r1, r2, r3⟩ := p
    exact ⟨a, _, 2, u, rfl, p', SqT.of (s _ _ h), at_of (j := 2) rfl rfl, q u _ _ (Ext.refl s) r3⟩
/-- len -/
theorem ev_lenL {R : δ → V → Hp → Prop} {ds : List δ} [∀ d, MnP (R d)] (ha : EvP ta σ G (rL R ds)) : EvP (tCB (fun xs H Q => ∃ p ys, xs = [.ref p] ∧ (SqL K H p ys ∨ SqT K H p ys) ∧ Q (.int ys.length) H) (tCons ta tNil)) σ G (rI (ds.length : Int)) :=
  ev_cb1 ha fun v G' _ p H s Q q => by
    obtain ⟨a, xs, rfl, h, al⟩ := p
    refine ⟨a, xs, rfl, .inl (SqL.of (s _ _ h)), q _ _ _ (Ext.refl s) ?_⟩
    rw [al.length]; rfl
theorem ev_lenT {R : δ → V → Hp → Prop} {ds : List δ} [∀ d, MnP (R d)] (ha : EvP ta σ G (rT R ds)) : EvP (tCB (fun xs H Q => ∃ p ys, xs = [.ref p] ∧ (SqL K H p ys ∨ SqT K H p ys) ∧ Q (.int ys.length) H) (tCons ta tNil)) σ G (rI (ds.length : Int)) :=
  ev_cb1 ha fun v G' _ p H s Q q => by
    obtain ⟨a, xs, rfl, h, al⟩ := p
    refine ⟨a, xs, rfl, .inr (SqT.of (s _ _ h)), q _ _ _ (Ext.refl s) ?_⟩
    rw [al.length]; rfl
theorem ev_len2 {R : α → V → Hp → Prop} {S : β → V → Hp → Prop} {p : α × β} [∀ d, MnP (R d)] [∀ d, MnP (S d)] (ha : EvP ta σ G (r2 R S p)) : EvP (tCB (fun xs H Q => ∃ p ys, xs = [.ref p] ∧ (SqL K H p ys ∨ SqT K H p ys) ∧ Q (.int ys.length) H) (tCons ta tNil)) σ G (rI 2) :=
  ev_cb1 ha fun v G' _ p H s Q q => by
    obtain ⟨a, x, y, rfl, h, _⟩ := p
    exact ⟨a, _, rfl, .inr (SqT.of (s _ _ h)), q _ _ _ (Ext.refl s) rfl⟩
theorem ev_len3 {R : α → V → Hp → Prop} {S : β → V → Hp → Prop} {U : γ → V → Hp → Prop} {p : α × β × γ} [∀ d, MnP (R d)] [∀ d, MnP (S d)] [∀ d, MnP (U d)] (ha : EvP ta σ G (r3 R S U p)) : EvP (tCB (fun xs H Q => ∃ p ys, xs = [.ref p] ∧ (SqL K H p ys ∨ SqT K H p ys) ∧ Q (.int ys.length) H) (tCons ta tNil)) σ G (rI 3) :=
  ev_cb1 ha fun v G' _ p H s Q q => by
    obtain ⟨a, x, y, z, rfl, h, _⟩ := p
    exact ⟨a, _, rfl, .inr (SqT.of (s _ _ h)), q _ _ _ (Ext.refl s) rfl⟩
theorem ev_lenS {x : Str} (ha : EvP ta σ G (rS x)) (hl : x.length ≤ sizeLine) : EvP (tCB (fun xs H Q => ∃ z : Str, xs = [.str z] ∧ z.length ≤ sizeLine ∧ Q (.int z.length) H) (tCons ta tNil)) σ G (rI (x.length : Int)) :=
  ev_cb1 ha fun v G' _ p H s Q q => by
    have p : v = .str x := p
    subst p
    exact ⟨x, rfl, hl, q _ _ _ (Ext.refl s) rfl⟩

/-! calls of pure defs -/
/-- a pure def's promise: pre of the arguments over a known heap, post of what comes -/
def pSp {α : Type} (pre : α → List V → Hp → Prop) (post : α → V → Hp → Prop) : Sp := fun vs H Q _ => ∃ (a : α) (G : Hp), Same G H ∧ pre a vs G ∧ ∀ v G' H', Ext G H G' H' → post a v G' → Q v H'
theorem ev_call {α : Type} {pre : α → List V → Hp → Prop} {post : α → V → Hp → Prop} {tr : TA} {PP : List V → Hp → Prop} {E : XK} (a : α) (h : EvA tr σ G PP) (hp : ∀ vs G', Same G G' → PP vs G' → pre a vs G') : EvP (tCall (pSp pre post) [] E tr) σ G (post a) := fun H s Q q =>
  h H s _ fun vs G' H' e p => ⟨a, G', e.s, by rw [List.append_nil]; exact hp vs G' e.g p, fun v G2 H2 e2 p2 => q v G2 H2 (e.trans e2) p2⟩
theorem ev_call1 {α : Type} {pre : α → List V → Hp → Prop} {post : α → V → Hp → Prop} {E : XK} [MnP P] (a : α) (h : EvP te σ G P) (hp : ∀ v G', Same G G' → P v G' → pre a [v] G') : EvP (tCall (pSp pre post) [] E (tCons te tNil)) σ G (post a) :=
  ev_call a (ea_1 h) fun vs G' s p => by
    obtain ⟨v, _, rfl, p1, rfl⟩ := p
    exact hp v G' s p1
theorem ev_call2 {α : Type} {pre : α → List V → Hp → Prop} {post : α → V → Hp → Prop} {E : XK} [MnP P] [MnP P1] (a : α) (h : EvP te σ G P) (h1 : EvP ta σ G P1) (hp : ∀ v w G', Same G G' → P v G' → P1 w G' → pre a [v, w] G') : EvP (tCall (pSp pre post) [] E (tCons te (tCons ta tNil))) σ G (post a) :=
  ev_call a (ea_2 h h1) fun vs G' s p => by
    obtain ⟨v, _, rfl, p1, w, _, rfl, p2, rfl⟩ := p
    exact hp v w G' s p1 p2
theorem ev_call3 {α : Type} {pre : α → List V → Hp → Prop} {post : α → V → Hp → Prop} {E : XK} [MnP P] [MnP P1] [MnP P2] (a : α) (h : EvP te σ G P) (h1 : EvP ta σ G P1) (h2 : EvP tb σ G P2) (hp : ∀ v w u G', Same G G' → P v G' → P1 w G' → P2 u G' → pre a [v, w, u] G') :
    EvP (tCall (pSp pre post) [] E (tCons te (tCons ta (tCons tb tNil)))) σ G (post a) :=
  ev_call a (ea_3 h h1 h2) fun vs G' s p => by
    obtain ⟨v, _, rfl, p1, w, _, rfl, p2, u, _, rfl, p3, rfl⟩ := p
    exact hp v w u G' s p1 p2 p3
theorem ev_call4 {α : Type} {pre : α → List V → Hp → Prop} {post : α → V → Hp → Prop} {E : XK} [MnP P] [MnP P1] [MnP P2] [MnP P3] (a : α) (h : EvP te σ G P) (h1 : EvP ta σ G P1) (h2 : EvP tb σ G P2) (h3 : EvP tc σ G P3) (hp : ∀ v w u z G', Same G G' → P v G' → P1 w G' → P2 u G' → P3 z G' → pre a [v, w, u, z] G') :
    EvP (tCall (pSp pre post) [] E (tCons te (tCons ta (tCons tb (tCons tc tNil))))) σ G (post a) :=
  ev_call a (ea_4 h h1 h2 h3) fun vs G' s p => by
    obtain ⟨v, _, rfl, p1, w, _, rfl, p2, u, _, rfl, p3, z, _, rfl, p4, rfl⟩ := p
    exact hp v w u z G' s p1 p2 p3 p4

/-! ### what is walked -/
structure WalkE (J : It) (G : Hp) (R : δ → V → Hp → Prop) (ds : List δ) : Prop where
  go : ∀ i H, i < ds.length → Same G H → J.go i H
  stop : ∀ H, Same G H → J.stop ds.length H
  yld : ∀ i d G' H' x H'', ds[i]? = some d → Same G G' → Same G' H' → J.yld i H' x H'' → ∃ G'', Ext G' H' G'' H'' ∧ R d x G''
def EvI (wi : TI) (σ : St) (G : Hp) (R : δ → V → Hp → Prop) (ds : List δ) : Prop := ∀ H, Same G H → ∀ Rr : It → Hp → Prop, (∀ J G1 H1, Ext G H G1 H1 → WalkE J G1 R ds → Rr J H1) → wi σ H Rr
theorem ei_list {R : δ → V → Hp → Prop} {ds : List δ} [∀ d, MnP (R d)] (h : EvP te σ G (rL R ds)) : EvI (iList K te) σ G R ds := fun H s Rr k =>
  h H s _ fun v G1 H1 e p => by
    obtain ⟨a, xs, rfl, hx, al⟩ := p
    refine ⟨a, rfl, ⟨xs, SqL.of (e.s _ _ hx)⟩, k _ G1 H1 e ⟨fun i H hi s => ?_, fun H s => ?_, fun i d G' H' x H'' hd s s' y => ?_⟩⟩
    · have hi' : i < xs.length := by rw [al.length]; exact hi
      exact ⟨xs, xs[i], SqL.of (s _ _ hx), by simp [hi']⟩
    · exact ⟨xs, SqL.of (s _ _ hx), by rw [al.length]; exact Nat.le_refl _⟩
    · obtain ⟨rfl, y⟩ := y
      obtain ⟨u, hu, ru⟩ := al.get hd
      have eu : xs[i]? = some x := y xs (SqL.of ((s.trans s') _ _ hx))
      rw [hu] at eu
      cases eu
      exact ⟨G', Ext.refl s', mn s ru⟩
theorem ei_tup {R : δ → V → Hp → Prop} {ds : List δ} [∀ d, MnP (R d)] (h : EvP te σ G (rT R ds)) : EvI (iTup K te) σ G R ds := fun H s Rr k =>
  h H s _ fun v G1 H1 e p => by
    obtain ⟨a, xs, rfl, hx, al⟩ := p
    refine ⟨a, rfl, ⟨xs, SqT.of (e.s _ _ hx)⟩, k _ G1 H1 e ⟨fun i H hi s => ?_, fun H s => ?_, fun i d G' H' x H'' hd s s' y => ?_⟩⟩
    · have hi' : i < xs.length := by rw [al.length]; exact hi
      exact ⟨xs, xs[i], SqT.of (s _ _ hx), by simp [hi']⟩
    · exact ⟨xs, SqT.of (s _ _ hx), by rw [al.length]; exact Nat.le_refl _⟩
    · obtain ⟨rfl, y⟩ := y
      obtain ⟨u, hu, ru⟩ := al.get hd
      have eu : xs[i]? = some x := y xs (SqT.of ((s.trans s') _ _ hx))
      rw [hu] at eu
      cases eu
      exact ⟨G', Ext.refl s', mn s ru⟩
def upTo (lo : Int) (n : Nat) : List Int := (List.range n).map fun i => lo + (i : Nat)
theorem upTo_len (lo : Int) (n : Nat) : (upTo lo n).length = n := by unfold upTo; rw [List.length_map, List.length_range]
theorem upTo_get {lo : Int} {n i : Nat} {d : Int} (h : (upTo lo n)[i]? = some d) : i < n ∧ d = lo + (i : Nat) := by
  have hi : i < n := by
    have := (List.getElem?_eq_some_iff.mp h).1
    rw [upTo_len] at this
    exact this
  unfold upTo at h
  rw [List.getElem?_map, List.getElem?_range hi] at h
  exact ⟨hi, (Option.some.inj h).symm⟩
theorem ei_rng {lo : Int} {n : Nat} (s : Same G H) : WalkE (Itr lo n) G rI (upTo lo n) := by
  refine ⟨fun i H hi s => ?_, fun H s => ?_, fun i d G' H' x H'' hd s s' y => ?_⟩
  · rw [upTo_len] at hi; exact hi
  · rw [upTo_len]; exact Nat.le_refl _
  · obtain ⟨rfl, rfl⟩ := y
    exact ⟨G', Ext.refl s', by rw [(upTo_get hd).2]; rfl⟩
theorem ei_range1 {n : Int} (h : EvP te σ G (rI n)) (h0 : -(2 ^ 62) ≤ n) (h1 : n < 2 ^ 62) : EvI (iRng1 (tCons te tNil)) σ G rI (upTo 0 n.toNat) := fun H s Rr k =>
  ea_1 h H s _ fun vs G1 H1 e p => by
    obtain ⟨v, _, rfl, p, rfl⟩ := p
    cases (show v = .int n from p)
    exact ⟨n, rfl, h0, h1, k _ G1 H1 e (ei_rng e.s)⟩
/-- enumerate(list) -/
theorem ei_enum {R : δ → V → Hp → Prop} {ds : List δ} [∀ d, MnP (R d)] (h : EvP te σ G (rL R ds)) : EvI (iEnum K (tCons te tNil)) σ G (r2 rI R) ((upTo 0 ds.length).zip ds) := fun H s Rr k =>
  ea_1 h H s _ fun vs G1 H1 e p => by
    obtain ⟨v, _, rfl, p, rfl⟩ := p
    obtain ⟨a, xs, rfl, hx, al⟩ := p
    have hl : ((upTo 0 ds.length).zip ds).length = ds.length := by rw [List.length_zip, upTo_len, Nat.min_self]
    refine ⟨a, xs, rfl, SqL.of (e.s _ _ hx), k _ G1 H1 e ⟨fun i H hi s => ?_, fun H s => ?_, fun i d G' H' x H'' hd s s' y => ?_⟩⟩
    · rw [hl] at hi
      have hi' : i < xs.length := by rw [al.length]; exact hi
      exact ⟨xs, xs[i], SqL.of (s _ _ hx), by simp [hi']⟩
    · exact ⟨xs, SqL.of (s _ _ hx), by rw [hl, al.length]; exact Nat.le_refl _⟩
    · obtain ⟨T, u, rfl, hT, rfl, y⟩ := y
      obtain ⟨j, d⟩ := d
      rw [List.getElem?_zip_eq_some] at hd
      obtain ⟨h1, h2⟩ := hd
      obtain ⟨w, hw, rw'⟩ := al.get h2
      have eu : xs[i]? = some u := y xs (SqL.of ((s.trans s') _ _ hx))
      rw [hw] at eu
      cases eu
      have hT' : G' T = none := s'.free hT
      refine ⟨upd G' T (.tup [.int (i : Nat), u]), Ext.new s' hT, T, _, _, rfl, upd_same, ?_, mn (s.trans (Same.new hT')) rw'⟩
      have this : j = 0 + (i : Nat) := (upTo_get h1).2
      show V.int (i : Nat) = V.int j
      rw [this, Int.zero_add]
/-- a text, sign by sign -/
def signs (x : Str) : List Str := x.cps.toList.map fun c => (⟨#[c]⟩ : Str)
theorem ei_str {x : Str} (h : EvP te σ G (rS x)) : EvI (iStr te) σ G rS (signs x) := fun H s Rr k =>
  h H s _ fun v G1 H1 e p => by
    have hl : (signs x).length = x.cps.size := by unfold signs; rw [List.length_map, Array.length_toList]
    refine ⟨x, p, k _ G1 H1 e ⟨fun i H hi s => ?_, fun H s => ?_, fun i d G' H' u H'' hd s s' y => ?_⟩⟩
    · rw [hl] at hi; exact hi
    · rw [hl]; exact Nat.le_refl _
    · obtain ⟨rfl, c, hc, rfl⟩ := y
      refine ⟨G', Ext.refl s', ?_⟩
      unfold signs at hd
      rw [List.getElem?_map, Array.getElem?_toList, hc] at hd
      rw [← Option.some.inj hd]
      rfl

/-! ### targets -/
theorem eg_name {i : Nat} {v : V} : EvG (gName i) v σ G (σ.set i (some v)) := fun H s Q q => q
theorem eg_2 {R : α → V → Hp → Prop} {S : β → V → Hp → Prop} {p : α × β} {i j : Nat} {v : V} (h : r2 R S p v G) :
    ∃ x y, R p.1 x G ∧ S p.2 y G ∧ EvG (gTup K 2 (gCons (gName i) (gCons (gName j) gNil))) v σ G ((σ.set i (some x)).set j (some y)) := by
  obtain ⟨a, x, y, rfl, hs, r, r'⟩ := h
  exact ⟨x, y, r, r', fun H s Q q => ⟨a, _, rfl, SqT.of (s _ _ hs), rfl, x, [y], rfl, y, [], rfl, rfl, q⟩⟩
theorem eg_3 {R : α → V → Hp → Prop} {S : β → V → Hp → Prop} {U : γ → V → Hp → Prop} {p : α × β × γ} {i j k : Nat} {v : V} (h : r3 R S U p v G) :
    ∃ x y z, R p.1 x G ∧ S p.2.1 y G ∧ U p.2.2 z G ∧ EvG (gTup K 3 (gCons (gName i) (gCons (gName j) (gCons (gName k) gNil)))) v σ G (((σ.set i (some x)).set j (some y)).set k (some z)) := by
  obtain ⟨a, x, y, z, rfl, hs, r, r', r''⟩ := h
  exact ⟨x, y, z, r, r', r'', fun H s Q q => ⟨a, _, rfl, SqT.of (s _ _ hs), rfl, x, [y, z], rfl, y, [z], rfl, z, [], rfl, rfl, q⟩⟩
end
end Eld
set_option maxRecDepth 100000
set_option maxHeartbeats 1000000
/-! Statements, loops and comprehensions over what is known; promises of defs by names. -/
namespace Eld
open PySem PySem.Spec PyProof.Rows L2

section
variable {K : PySem.W.Frag} {σ : St} {G G1 H : Hp} {ta tb te tc : TE} {tt tu : TT} {P P1 P2 P3 : V → Hp → Prop} {α β γ δ ε : Type} {D : Ends} {t1 t2 tz : TS} {wi : TI} {g : TG}

/-! ### statements -/
theorem q_seq (h : t1 { D with nx := tz D } σ H) : tSeq t1 tz D σ H := h
theorem s_asg {i : Nat} (h : EvP te σ G P) (s : Same G H) (k : ∀ v G' H', Ext G H G' H' → P v G' → D.nx (σ.set i (some v)) H') : tAsg te (gName i) D σ H := h H s _ k
theorem q_asg {i : Nat} (h : EvP te σ G P) (s : Same G H) (k : ∀ v G' H', Ext G H G' H' → P v G' → tz D (σ.set i (some v)) H') : tSeq (tAsg te (gName i)) tz D σ H := h H s _ k
theorem s_asgG (h : EvP te σ G P) (s : Same G H) (k : ∀ v G' H', Ext G H G' H' → P v G' → ∃ σ', EvG g v σ G' σ' ∧ D.nx σ' H') : tAsg te g D σ H := h H s _ fun v G' H' e p => by
  obtain ⟨σ', eg, q⟩ := k v G' H' e p
  exact eg H' e.s _ q
theorem q_asgG (h : EvP te σ G P) (s : Same G H) (k : ∀ v G' H', Ext G H G' H' → P v G' → ∃ σ', EvG g v σ G' σ' ∧ tz D σ' H') : tSeq (tAsg te g) tz D σ H := s_asgG (D := { D with nx := tz D }) h s k
theorem s_ret (h : EvP te σ G P) (s : Same G H) (k : ∀ v G' H', Ext G H G' H' → P v G' → D.rt v H') : tRet te D σ H := h H s _ k
theorem s_drop (h : EvP te σ G P) (s : Same G H) (k : ∀ v G' H', Ext G H G' H' → P v G' → D.nx σ H') : tDrop te D σ H := h H s _ k
theorem s_if {b : Bool} (h : EvT tt σ G b) (s : Same G H) (h1 : b = true → ∀ G' H', Ext G H G' H' → t1 D σ H') (h2 : b = false → ∀ G' H', Ext G H G' H' → t2 D σ H') : tIfS tt t1 t2 D σ H := h H s _ fun G' H' e => by
  cases b with
  | true =>
    show t1 D σ H'
    exact h1 rfl G' H' e
  | false =>
    show t2 D σ H'
    exact h2 rfl G' H' e
theorem q_if {b : Bool} (h : EvT tt σ G b) (s : Same G H) (h1 : b = true → ∀ G' H', Ext G H G' H' → t1 { D with nx := tz D } σ H') (h2 : b = false → ∀ G' H', Ext G H G' H' → t2 { D with nx := tz D } σ H') : tSeq (tIfS tt t1 t2) tz D σ H := s_if (D := { D with nx := tz D }) h s h1 h2
/-- an if whose test is known: the one way -/
theorem q_yes (h : EvT tt σ G true) (s : Same G H) (h1 : ∀ G' H', Ext G H G' H' → t1 { D with nx := tz D } σ H') : tSeq (tIfS tt t1 t2) tz D σ H := q_if h s (fun _ => h1) (fun e => nomatch e)
theorem q_no (h : EvT tt σ G false) (s : Same G H) (h2 : ∀ G' H', Ext G H G' H' → t2 { D with nx := tz D } σ H') : tSeq (tIfS tt t1 t2) tz D σ H := q_if h s (fun e => nomatch e) (fun _ => h2)
/-- if test: .. without else, the test false -/
theorem q_skip (h : EvT tt σ G false) (s : Same G H) (h2 : ∀ G' H', Ext G H G' H' → tz D σ H') : tSeq (tIfS tt t1 tNext) tz D σ H := q_no h s h2
theorem s_yes (h : EvT tt σ G true) (s : Same G H) (h1 : ∀ G' H', Ext G H G' H' → t1 D σ H') : tIfS tt t1 t2 D σ H := s_if h s (fun _ => h1) (fun e => nomatch e)
theorem s_no (h : EvT tt σ G false) (s : Same G H) (h2 : ∀ G' H', Ext G H G' H' → t2 D σ H') : tIfS tt t1 t2 D σ H := s_if h s (fun e => nomatch e) (fun _ => h2)
theorem s_aug {i : Nat} {f : Int → Int → Int} {a b : Int} (hx : σ[i]? = some (some (.int a))) (h : EvP te σ G (rI b)) (s : Same G H) (k : ∀ G' H', Ext G H G' H' → D.nx (σ.set i (some (.int (f a b)))) H') : tAug i te (ipI f) D σ H :=
  ⟨.int a, hx, h H s _ fun v G' H' e p => ⟨a, b, rfl, p, k G' H' e⟩⟩
theorem q_aug {i : Nat} {f : Int → Int → Int} {a b : Int} (hx : σ[i]? = some (some (.int a))) (h : EvP te σ G (rI b)) (s : Same G H) (k : ∀ G' H', Ext G H G' H' → tz D (σ.set i (some (.int (f a b)))) H') : tSeq (tAug i te (ipI f)) tz D σ H := s_aug (D := { D with nx := tz D }) hx h s k
theorem s_par {i j : Nat} [MnP P] [MnP P1] (h1 : EvP ta σ G P) (h2 : EvP tb σ G P1) (s : Same G H) (k : ∀ v w G' H', Ext G H G' H' → P v G' → P1 w G' → D.nx ((σ.set i (some v)).set j (some w)) H') : tPar i j (tCons ta (tCons tb tNil)) D σ H :=
  ea_2 h1 h2 H s _ fun vs G' H' e p => by
    obtain ⟨v, _, rfl, p1, w, _, rfl, p2, rfl⟩ := p
    exact ⟨v, w, rfl, k v w G' H' e p1 p2⟩
theorem q_par {i j : Nat} [MnP P] [MnP P1] (h1 : EvP ta σ G P) (h2 : EvP tb σ G P1) (s : Same G H) (k : ∀ v w G' H', Ext G H G' H' → P v G' → P1 w G' → tz D ((σ.set i (some v)).set j (some w)) H') : tSeq (tPar i j (tCons ta (tCons tb tNil))) tz D σ H := s_par (D := { D with nx := tz D }) h1 h2 s k

/-! ### new objects that may change -/
/-- a new object comes, not told as known -/
def EvN (te : TE) (σ : St) (G : Hp) (O : Addr → HO → Hp → Prop) : Prop := ∀ H, Same G H → ∀ Q : VK, (∀ p o G' H', Ext G H G' H' → H p = none → G' p = none → H' p = some o → O p o G' → Q (.ref p) H') → te σ H Q
/-- .. known from now on -/
theorem EvN.know {O : Addr → HO → Hp → Prop} (h : EvN te σ G O) (hp : ∀ p o G', Same G G' → G' p = none → O p o G' → P (.ref p) (upd G' p o)) : EvP te σ G P := fun H s Q q =>
  h H s Q fun p o G' H' e hn gn ho oo => q _ _ _ (e.know hn gn ho) (hp p o G' e.g gn oo)
theorem q_asgN {i : Nat} {O : Addr → HO → Hp → Prop} (h : EvN te σ G O) (s : Same G H) (k : ∀ p o G' H', Ext G H G' H' → H p = none → G' p = none → H' p = some o → O p o G' → tz D (σ.set i (some (.ref p))) H') : tSeq (tAsg te (gName i)) tz D σ H := h H s _ k
def oL (R : δ → V → Hp → Prop) (ds : List δ) : Addr → HO → Hp → Prop := fun _ o G => ∃ xs, o = .lst xs ∧ All2 R G xs ds
theorem en_l0 {R : δ → V → Hp → Prop} : EvN (tLst tNil) σ G (oL R []) := fun H s Q q => ⟨Nat.zero_le _, fun p hp => q p _ G _ (Ext.newH s hp) hp (s.free hp) upd_same ⟨[], rfl, .nil⟩⟩
theorem en_l1 {R : δ → V → Hp → Prop} {x : δ} [∀ d, MnP (R d)] (ha : EvP ta σ G (R x)) : EvN (tLst (tCons ta tNil)) σ G (oL R [x]) := fun H s Q q =>
  ea_1 ha H s _ fun vs G' H' e p => by
    obtain ⟨v, _, rfl, p1, rfl⟩ := p
    exact ⟨by show 1 ≤ sizeLine; decide, fun a hn => q a _ G' _ (e.trans (Ext.newH e.s hn)) (e.h.free hn) (e.s.free hn) upd_same ⟨_, rfl, .cons p1 .nil⟩⟩
theorem en_dK : EvN tDNewK σ G (fun _ o _ => o = .dK []) := fun H s Q q p hp => q p _ G _ (Ext.newH s hp) hp (s.free hp) upd_same rfl
theorem EvN.list {R : δ → V → Hp → Prop} {ds : List δ} [∀ d, MnP (R d)] (h : EvN te σ G (oL R ds)) : EvP te σ G (rL R ds) :=
  h.know fun p o G' s gn oo => by
    obtain ⟨xs, rfl, al⟩ := oo
    exact ⟨p, xs, rfl, upd_same, al.mono (Same.new gn)⟩
/-- xs.append(e), xs new and not known -/
theorem s_app {l : Addr} {xs : List V} (hl : H l = some (.lst xs)) (hv : EvP ta σ G (rV (.ref l))) (h : EvP te σ G P) (s : Same G H) (hz : xs.length < sizeLine)
    (k : ∀ v G' H', Ext G H G' H' → P v G' → H' l = some (.lst xs) → D.nx σ (upd H' l (.lst (xs ++ [v])))) : tDrop (tBM K "list" rAppend ta (tCons te tNil)) D σ H :=
  hv H s _ fun v G1 H1 e1 p1 => by
    cases (show v = .ref l from p1)
    refine ⟨Or.inl ⟨rfl, xs, SqL.of (e1.h l _ hl)⟩, ?_⟩
    refine h H1 (fun b o q => e1.s b o (e1.g b o q)) _ fun v G2 H2 e2 p2 => ?_
    have hl2 : H2 l = some (.lst xs) := e2.h l _ (e1.h l _ hl)
    refine ⟨l, xs, v, rfl, rfl, hl2, hz, k v G2 H2 ⟨e2.g, fun b o q => e2.h b o (e1.h b o q), e2.s, fun b hb gb => e2.f b (same_ne e1.h hb) gb⟩ p2 hl2⟩
theorem q_app {l : Addr} {xs : List V} (hl : H l = some (.lst xs)) (hv : EvP ta σ G (rV (.ref l))) (h : EvP te σ G P) (s : Same G H) (hz : xs.length < sizeLine)
    (k : ∀ v G' H', Ext G H G' H' → P v G' → H' l = some (.lst xs) → tz D σ (upd H' l (.lst (xs ++ [v])))) : tSeq (tDrop (tBM K "list" rAppend ta (tCons te tNil))) tz D σ H := s_app (D := { D with nx := tz D }) hl hv h s hz k
/-- xs.extend(ys), xs new and not known -/
theorem s_ext {l : Addr} {xs : List V} {R : δ → V → Hp → Prop} {ds : List δ} (hl : H l = some (.lst xs)) (hv : EvP ta σ G (rV (.ref l))) (h : EvP te σ G (rL R ds)) (s : Same G H) (hz : xs.length + ds.length ≤ sizeLine)
    (k : ∀ ys G' H', Ext G H G' H' → All2 R G' ys ds → H' l = some (.lst xs) → D.nx σ (upd H' l (.lst (xs ++ ys)))) : tDrop (tBM K "list" rExtend ta (tCons te tNil)) D σ H :=
  hv H s _ fun v G1 H1 e1 p1 => by
    cases (show v = .ref l from p1)
    refine ⟨Or.inl ⟨rfl, xs, SqL.of (e1.h l _ hl)⟩, ?_⟩
    refine h H1 (fun b o q => e1.s b o (e1.g b o q)) _ fun v G2 H2 e2 p2 => ?_
    obtain ⟨b, ys, rfl, hb, al⟩ := p2
    have hl2 : H2 l = some (.lst xs) := e2.h l _ (e1.h l _ hl)
    exact ⟨l, b, xs, ys, rfl, rfl, hl2, e2.s _ _ hb, by rw [al.length]; exact hz, k ys G2 H2 ⟨e2.g, fun b o q => e2.h b o (e1.h b o q), e2.s, fun b hb gb => e2.f b (same_ne e1.h hb) gb⟩ al hl2⟩

/-! ### loops -/
/-- where a loop stands: known G', all H', over the def's entry Gb, Hb and what was known as the loop began -/
def LI (Gb Hb G1 : Hp) (J : St → Hp → Hp → Prop) : St → Hp → Prop := fun σ' H' => ∃ G', Same G1 G' ∧ Ext Gb Hb G' H' ∧ J σ' G' H'
theorem s_for {R : δ → V → Hp → Prop} {ds : List δ} {Gb Hb : Hp} {tb : TS} (eb : Ext Gb Hb G H) (hi : EvI wi σ G R ds) (J : Nat → St → Hp → Hp → Prop) (h0 : ∀ G1 H1, Ext G H G1 H1 → J 0 σ G1 H1)
    (hs : ∀ G1, Same G G1 → ∀ i d v σ' G0 H0 G' H', ds[i]? = some d → Same G1 G0 → Ext Gb Hb G0 H0 → J i σ' G0 H0 → Ext G0 H0 G' H' → R d v G' →
      g v σ' H' fun σ2 H2 => tb { D with nx := LI Gb Hb G1 (J (i + 1)), ct := LI Gb Hb G1 (J (i + 1)), bk := D.nx } σ2 H2)
    (hd : ∀ G1 σ' G' H', Same G G1 → Same G1 G' → Ext Gb Hb G' H' → J ds.length σ' G' H' → D.nx σ' H') : tFor wi g tb D σ H :=
  hi H eb.s _ fun Jt G1 H1 e1 w => by
    refine ⟨fun i m σ' H' => m = ds.length - i ∧ i ≤ ds.length ∧ LI Gb Hb G1 (J i) σ' H', ⟨ds.length, by simp, Nat.zero_le _, G1, Same.refl _, eb.trans e1, h0 G1 H1 e1⟩, ?_⟩
    rintro i m σ' H' ⟨rfl, hi, G0, s0, e0, j⟩
    by_cases hlt : i < ds.length
    · refine .inr ⟨w.go i H' hlt (s0.trans e0.s), LI Gb Hb G1 (J (i + 1)), fun σ2 H2 l => ⟨ds.length - (i + 1), by omega, rfl, hlt, l⟩, fun x H2 y => ?_⟩
      obtain ⟨G2, e2, r⟩ := w.yld i ds[i] G0 H' x H2 (List.getElem?_eq_getElem hlt) s0 e0.s y
      exact hs G1 e1.g i ds[i] x σ' G0 H' G2 H2 (List.getElem?_eq_getElem hlt) s0 e0 j e2 r
    · have e : i = ds.length := by omega
      subst e
      exact .inl ⟨w.stop H' (s0.trans e0.s), hd G1 σ' G0 H' e1.g s0 e0 j⟩
theorem q_for {R : δ → V → Hp → Prop} {ds : List δ} {Gb Hb : Hp} {tb : TS} (eb : Ext Gb Hb G H) (hi : EvI wi σ G R ds) (J : Nat → St → Hp → Hp → Prop) (h0 : ∀ G1 H1, Ext G H G1 H1 → J 0 σ G1 H1)
    (hs : ∀ G1, Same G G1 → ∀ i d v σ' G0 H0 G' H', ds[i]? = some d → Same G1 G0 → Ext Gb Hb G0 H0 → J i σ' G0 H0 → Ext G0 H0 G' H' → R d v G' →
      g v σ' H' fun σ2 H2 => tb { D with nx := LI Gb Hb G1 (J (i + 1)), ct := LI Gb Hb G1 (J (i + 1)), bk := tz D } σ2 H2)
    (hd : ∀ G1 σ' G' H', Same G G1 → Same G1 G' → Ext Gb Hb G' H' → J ds.length σ' G' H' → tz D σ' H') : tSeq (tFor wi g tb) tz D σ H := s_for (D := { D with nx := tz D }) eb hi J h0 hs hd
/-- where a while stands, its measure fallen -/
def LW (Gb Hb : Hp) (J : Nat → St → Hp → Hp → Prop) (m : Nat) : St → Hp → Prop := fun σ' H' => ∃ m' G', m' < m ∧ Ext Gb Hb G' H' ∧ J m' σ' G' H'
theorem s_while {Gb Hb : Hp} {tb : TS} (eb : Ext Gb Hb G H) (J : Nat → St → Hp → Hp → Prop) (m0 : Nat) (h0 : J m0 σ G H)
    (hs : ∀ m σ' G' H', Ext Gb Hb G' H' → J m σ' G' H' → ∃ b, EvT tt σ' G' b ∧ (b = true → ∀ G2 H2, Ext G' H' G2 H2 → tb { D with nx := LW Gb Hb J m, ct := LW Gb Hb J m, bk := D.nx } σ' H2) ∧ (b = false → ∀ G2 H2, Ext G' H' G2 H2 → D.nx σ' H2)) :
    tWhile tt tb D σ H :=
  ⟨fun m σ' H' => ∃ G', Ext Gb Hb G' H' ∧ J m σ' G' H', ⟨m0, G, eb, h0⟩, fun m σ' H' ⟨G', e', j⟩ => by
    obtain ⟨b, ht, h1, h2⟩ := hs m σ' G' H' e' j
    refine ht H' e'.s _ fun G2 H2 e2 => ?_
    cases b with
    | true => exact ⟨LW Gb Hb J m, fun σ3 H3 ⟨m', G3, hm, e3, j3⟩ => ⟨m', hm, G3, e3, j3⟩, h1 rfl G2 H2 e2⟩
    | false => exact h2 rfl G2 H2 e2⟩
theorem q_while {Gb Hb : Hp} {tb : TS} (eb : Ext Gb Hb G H) (J : Nat → St → Hp → Hp → Prop) (m0 : Nat) (h0 : J m0 σ G H)
    (hs : ∀ m σ' G' H', Ext Gb Hb G' H' → J m σ' G' H' → ∃ b, EvT tt σ' G' b ∧ (b = true → ∀ G2 H2, Ext G' H' G2 H2 → tb { D with nx := LW Gb Hb J m, ct := LW Gb Hb J m, bk := tz D } σ' H2) ∧ (b = false → ∀ G2 H2, Ext G' H' G2 H2 → tz D σ' H2)) :
    tSeq (tWhile tt tb) tz D σ H := s_while (D := { D with nx := tz D }) eb J m0 h0 hs

/-! ### comprehensions -/
theorem take_snoc {l : List δ} {i : Nat} (h : i < l.length) : l.take (i + 1) = l.take i ++ [l[i]] := by
  rw [List.take_add_one, List.getElem?_eq_getElem h]; rfl
/-- where a comprehension stands: its new list at Dl -/
def LC (S : ε → V → Hp → Prop) (G1 H1 : Hp) (Dl : Addr) (es : List ε) : Hp → Prop := fun H' => ∃ G' acc, Same G1 G' ∧ Same H1 H' ∧ Same G' H' ∧ (∀ b, H1 b ≠ none → G1 b = none → G' b = none) ∧ G' Dl = none ∧ H' Dl = some (.lst acc) ∧ All2 S G' acc es
theorem LC.add {S : ε → V → Hp → Prop} [∀ e, MnP (S e)] {G1 H1 G' H' G2 H2 : Hp} {Dl : Addr} {acc : List V} {es : List ε} {v : V} {y : ε} (hn : H1 Dl = none) (a : Same G1 G') (b : Same H1 H') (c : ∀ b, H1 b ≠ none → G1 b = none → G' b = none) (gn : G' Dl = none) (hD : H' Dl = some (.lst acc)) (al : All2 S G' acc es)
    (e : Ext G' H' G2 H2) (p : S y v G2) : H2 Dl = some (.lst acc) ∧ LC S G1 H1 Dl (es ++ [y]) (upd H2 Dl (.lst (acc ++ [v]))) := by
  have gn2 : G2 Dl = none := e.f Dl (by rw [hD]; exact fun z => nomatch z) gn
  refine ⟨e.h _ _ hD, G2, acc ++ [v], a.trans e.g, fun b' o q => ?_, fun b' o q => ?_, fun b' hb gb => e.f b' (same_ne b hb) (c b' hb gb), gn2, upd_same, (al.mono e.g).snoc p⟩
  · rw [upd_ne (ne_of_none q hn)]; exact e.h _ _ (b _ _ q)
  · rw [upd_ne (ne_of_none q gn2)]; exact e.s _ _ q
theorem LC.keep {S : ε → V → Hp → Prop} [∀ e, MnP (S e)] {G1 H1 G' H' G2 H2 : Hp} {Dl : Addr} {acc : List V} {es : List ε} (a : Same G1 G') (b : Same H1 H') (c : ∀ b, H1 b ≠ none → G1 b = none → G' b = none) (gn : G' Dl = none) (hD : H' Dl = some (.lst acc)) (al : All2 S G' acc es)
    (e : Ext G' H' G2 H2) : LC S G1 H1 Dl es H2 :=
  ⟨G2, acc, a.trans e.g, fun b' o q => e.h _ _ (b _ _ q), e.s, fun b' hb gb => e.f b' (same_ne b hb) (c b' hb gb), e.f Dl (by rw [hD]; exact fun z => nomatch z) gn, e.h _ _ hD, al.mono e.g⟩
theorem en_lc {R : δ → V → Hp → Prop} {S : ε → V → Hp → Prop} [∀ e, MnP (S e)] {ds : List δ} {vs : List Nat} (b : δ → Bool) (f : δ → ε) (hi : EvI wi σ G R ds) (hz : ds.length < sizeLine)
    (hs : ∀ d v G', d ∈ ds → Same G G' → R d v G' → ∃ σ', EvG g v (wipe σ vs) G' σ' ∧ wipe σ' vs = wipe σ vs ∧ EvT tt σ' G' (b d) ∧ (b d = true → EvP te σ' G' (S (f d)))) :
    EvN (tLc wi g tt te vs) σ G (oL S ((ds.filter b).map f)) := fun H s Q q =>
  hi H s _ fun Jt G1 H1 e1 w Dl hD => by
    have gD : G1 Dl = none := e1.s.free hD
    have key : ∀ i, LC S G1 H1 Dl (((ds.take i).filter b).map f) = LC S G1 H1 Dl (((ds.take i).filter b).map f) := fun _ => rfl
    refine ⟨fun i m H' => m = ds.length - i ∧ i ≤ ds.length ∧ LC S G1 H1 Dl (((ds.take i).filter b).map f) H',
      ⟨ds.length, by simp, Nat.zero_le _, G1, [], Same.refl _, Same.new hD, e1.s.trans (Same.new hD), fun _ _ gb => gb, gD, upd_same, .nil⟩, ?_⟩
    rintro i m H' ⟨rfl, hi, G', acc, a1, a2, a3, a4, a5, a6, a7⟩
    by_cases hlt : i < ds.length
    · refine .inr ⟨w.go i H' hlt (a1.trans a3), LC S G1 H1 Dl (((ds.take (i + 1)).filter b).map f), fun H2 l => ⟨ds.length - (i + 1), by omega, rfl, hlt, l⟩, fun x H2 y => ?_⟩
      obtain ⟨G2, e2, r⟩ := w.yld i ds[i] G' H' x H2 (List.getElem?_eq_getElem hlt) a1 a3 y
      obtain ⟨σ2, eg, hw, ht, he⟩ := hs ds[i] x G2 (List.getElem_mem hlt) (e1.g.trans (a1.trans e2.g)) r
      refine eg H2 e2.s _ ⟨hw, ht H2 e2.s _ fun G3 H3 e3 => ?_⟩
      have e23 := e2.trans e3
      have acl : acc.length < sizeLine := by
        have h1 := a7.length
        rw [List.length_map] at h1
        have h2 := List.length_filter_le b (ds.take i)
        rw [List.length_take] at h2
        omega
      cases hb : b ds[i] with
      | true =>
        rw [if_pos rfl]
        refine (he hb).mono e3.g H3 e3.s _ fun v G4 H4 e4 p4 => ?_
        obtain ⟨z1, z2⟩ := LC.add hD a1 a2 a4 a5 a6 a7 (e23.trans e4) p4
        refine ⟨acc, z1, acl, ?_⟩
        rw [take_snoc hlt, List.filter_append, List.map_append, List.filter_cons, if_pos hb]
        exact z2
      | false =>
        rw [if_neg Bool.false_ne_true, take_snoc hlt, List.filter_append, List.map_append, List.filter_cons, if_neg (by rw [hb]; exact Bool.false_ne_true)]
        show LC S G1 H1 Dl (_ ++ []) H3
        rw [List.append_nil]
        exact LC.keep a1 a2 a4 a5 a6 a7 e23
    · have e : i = ds.length := by omega
      subst e
      rw [List.take_length] at a7
      exact .inl ⟨w.stop H' (a1.trans a3), q Dl (.lst acc) G' H' ⟨e1.g.trans a1, e1.h.trans a2, a3, fun b hb gb => a4 b (same_ne e1.h hb) (e1.f b hb gb)⟩ (e1.h.free hD) a5 a6 ⟨acc, rfl, a7⟩⟩
theorem ev_lc {R : δ → V → Hp → Prop} {S : ε → V → Hp → Prop} [∀ e, MnP (S e)] {ds : List δ} {vs : List Nat} (b : δ → Bool) (f : δ → ε) (hi : EvI wi σ G R ds) (hz : ds.length < sizeLine)
    (hs : ∀ d v G', d ∈ ds → Same G G' → R d v G' → ∃ σ', EvG g v (wipe σ vs) G' σ' ∧ wipe σ' vs = wipe σ vs ∧ EvT tt σ' G' (b d) ∧ (b d = true → EvP te σ' G' (S (f d)))) :
    EvP (tLc wi g tt te vs) σ G (rL S ((ds.filter b).map f)) := (en_lc b f hi hz hs).list
/-- without an if -/
theorem ev_lcm {R : δ → V → Hp → Prop} {S : ε → V → Hp → Prop} [∀ e, MnP (S e)] {ds : List δ} {vs : List Nat} (f : δ → ε) (hi : EvI wi σ G R ds) (hz : ds.length < sizeLine)
    (hs : ∀ d v G', d ∈ ds → Same G G' → R d v G' → ∃ σ', EvG g v (wipe σ vs) G' σ' ∧ wipe σ' vs = wipe σ vs ∧ EvP te σ' G' (S (f d))) :
    EvP (tLc wi g tYes te vs) σ G (rL S (ds.map f)) := by
  have h := ev_lc (tt := tYes) (fun _ => true) f hi hz fun d v G' hd s r => by
    obtain ⟨σ', a, b, c⟩ := hs d v G' hd s r
    exact ⟨σ', a, b, et_yes, fun _ => c⟩
  rw [List.filter_eq_self.mpr (fun _ _ => rfl)] at h
  exact h
/-- two fors, the first one without an if -/
theorem en_lc2 {R : δ → V → Hp → Prop} {R1 : γ → V → Hp → Prop} {S : ε → V → Hp → Prop} [∀ e, MnP (S e)] {ds : List δ} {vs vs1 : List Nat} {wi1 : TI} {g1 : TG} {tt1 : TT} (ds1 : δ → List γ) (b : δ → γ → Bool) (f : δ → γ → ε) (hi : EvI wi σ G R ds)
    (hz : (ds.flatMap ds1).length < sizeLine)
    (hs : ∀ d v G', d ∈ ds → Same G G' → R d v G' → ∃ σ', EvG g v (wipe σ vs) G' σ' ∧ wipe σ' vs = wipe σ vs ∧ EvI wi1 σ' G' R1 (ds1 d) ∧
      ∀ d1 v1 G2, d1 ∈ ds1 d → Same G' G2 → R1 d1 v1 G2 → ∃ σ2, EvG g1 v1 (wipe σ' vs1) G2 σ2 ∧ wipe σ2 vs1 = wipe σ' vs1 ∧ EvT tt1 σ2 G2 (b d d1) ∧ (b d d1 = true → EvP te σ2 G2 (S (f d d1)))) :
    EvN (tLc2 wi g tYes wi1 g1 tt1 te vs vs1) σ G (oL S (ds.flatMap fun d => ((ds1 d).filter (b d)).map (f d))) := fun H s Q q =>
  hi H s _ fun Jt G1 H1 e1 w Dl hD => by
    have gD : G1 Dl = none := e1.s.free hD
    generalize hF : (fun d => ((ds1 d).filter (b d)).map (f d)) = F
    have hlen : ∀ i, ((ds.take i).flatMap F).length ≤ ((ds.take i).flatMap ds1).length := fun i => by
      induction ds.take i with
      | nil => exact Nat.le_refl _
      | cons d l ih =>
        rw [List.flatMap_cons, List.flatMap_cons, List.length_append, List.length_append]
        have : (F d).length ≤ (ds1 d).length := by
          rw [← hF, List.length_map]
          exact List.length_filter_le _ _
        omega
    have hlen2 : ∀ i (h : i < ds.length), ((ds.take i).flatMap ds1).length + (ds1 ds[i]).length ≤ (ds.flatMap ds1).length := fun i h => by
      have h1 : (ds.take (i + 1)).flatMap ds1 = (ds.take i).flatMap ds1 ++ ds1 ds[i] := by
        rw [take_snoc h, List.flatMap_append, List.flatMap_cons, List.flatMap_nil, List.append_nil]
      have h2 : ds.flatMap ds1 = (ds.take (i + 1)).flatMap ds1 ++ (ds.drop (i + 1)).flatMap ds1 := by
        rw [← List.flatMap_append, List.take_append_drop]
      rw [h2, h1, List.length_append, List.length_append]
      omega
    refine ⟨fun i m H' => m = ds.length - i ∧ i ≤ ds.length ∧ LC S G1 H1 Dl ((ds.take i).flatMap F) H',
      ⟨ds.length, by simp, Nat.zero_le _, G1, [], Same.refl _, Same.new hD, e1.s.trans (Same.new hD), fun _ _ gb => gb, gD, upd_same, .nil⟩, ?_⟩
    rintro i m H' ⟨rfl, hi, G', acc, a1, a2, a3, a4, a5, a6, a7⟩
    by_cases hlt : i < ds.length
    · refine .inr ⟨w.go i H' hlt (a1.trans a3), LC S G1 H1 Dl ((ds.take (i + 1)).flatMap F), fun H2 l => ⟨ds.length - (i + 1), by omega, rfl, hlt, l⟩, fun x H2 y => ?_⟩
      obtain ⟨G2, e2, r⟩ := w.yld i ds[i] G' H' x H2 (List.getElem?_eq_getElem hlt) a1 a3 y
      obtain ⟨σ2, eg, hw, hi1, hs1⟩ := hs ds[i] x G2 (List.getElem_mem hlt) (e1.g.trans (a1.trans e2.g)) r
      refine eg H2 e2.s _ ⟨hw, ?_⟩
      unfold tYes
      dsimp only
      rw [if_pos rfl]
      refine hi1 H2 e2.s _ fun Jt1 G3 H3 e3 w1 => ?_
      have e23 := e2.trans e3
      have big := hlen i
      have big2 := hlen2 i hlt
      have hF' : F ds[i] = ((ds1 ds[i]).filter (b ds[i])).map (f ds[i]) := by rw [← hF]
      have fin : (ds.take (i + 1)).flatMap F = (ds.take i).flatMap F ++ F ds[i] := by
        rw [take_snoc hlt, List.flatMap_append, List.flatMap_cons, List.flatMap_nil, List.append_nil]
      refine ⟨fun j k H4 => k = (ds1 ds[i]).length - j ∧ j ≤ (ds1 ds[i]).length ∧ ∃ G4 acc4, Same G3 G4 ∧ Same G1 G4 ∧ Same H1 H4 ∧ Same G4 H4 ∧ (∀ b, H1 b ≠ none → G1 b = none → G4 b = none) ∧ G4 Dl = none ∧ H4 Dl = some (.lst acc4) ∧
          All2 S G4 acc4 ((ds.take i).flatMap F ++ (((ds1 ds[i]).take j).filter (b ds[i])).map (f ds[i])),
        ⟨(ds1 ds[i]).length, by simp, Nat.zero_le _, G3, acc, Same.refl _, a1.trans e23.g, fun b' o q => e23.h _ _ (a2 _ _ q), e23.s, fun b' hb gb => e23.f b' (same_ne a2 hb) (a4 b' hb gb), e23.f Dl (by rw [a6]; exact fun z => nomatch z) a5, e23.h _ _ a6, by
          rw [List.take_zero]
          show All2 S G3 acc (_ ++ [])
          rw [List.append_nil]
          exact a7.mono e23.g⟩, ?_⟩
      rintro j k H4 ⟨rfl, hj, G4, acc4, c0, c1, c2, c3, c4, c5, c6, c7⟩
      by_cases hjl : j < (ds1 ds[i]).length
      · refine .inr ⟨w1.go j H4 hjl (c0.trans c3), fun H5 => ∃ G5 acc5, Same G3 G5 ∧ Same G1 G5 ∧ Same H1 H5 ∧ Same G5 H5 ∧ (∀ b, H1 b ≠ none → G1 b = none → G5 b = none) ∧ G5 Dl = none ∧ H5 Dl = some (.lst acc5) ∧
          All2 S G5 acc5 ((ds.take i).flatMap F ++ (((ds1 ds[i]).take (j + 1)).filter (b ds[i])).map (f ds[i])), fun H5 l => ⟨(ds1 ds[i]).length - (j + 1), by omega, rfl, hjl, l⟩, fun x1 H5 y1 => ?_⟩
        obtain ⟨G5, e5, r1⟩ := w1.yld j _ G4 H4 x1 H5 (List.getElem?_eq_getElem hjl) c0 c3 y1
        obtain ⟨σ3, eg1, hw1, ht1, he1⟩ := hs1 _ x1 G5 (List.getElem_mem hjl) (e3.g.trans (c0.trans e5.g)) r1
        refine eg1 H5 e5.s _ ⟨hw1, ht1 H5 e5.s _ fun G6 H6 e6 => ?_⟩
        have e56 := e5.trans e6
        have acl : acc4.length < sizeLine := by
          have h1 := c7.length
          rw [List.length_append, List.length_map] at h1
          have h2 := List.length_filter_le (b ds[i]) ((ds1 ds[i]).take j)
          rw [List.length_take] at h2
          omega
        cases hb : b ds[i] (ds1 ds[i])[j] with
        | true =>
          rw [if_pos rfl]
          refine (he1 hb).mono e6.g H6 e6.s _ fun v G7 H7 e7 p7 => ?_
          have e57 := e56.trans e7
          have gn7 : G7 Dl = none := e57.f Dl (by rw [c6]; exact fun z => nomatch z) c5
          refine ⟨acc4, e57.h _ _ c6, acl, G7, acc4 ++ [v], c0.trans e57.g, c1.trans e57.g, fun b' o q => ?_, fun b' o q => ?_, fun b' hb gb => e57.f b' (same_ne c2 hb) (c4 b' hb gb), gn7, upd_same, ?_⟩
          · rw [upd_ne (ne_of_none q hD)]; exact e57.h _ _ (c2 _ _ q)
          · rw [upd_ne (ne_of_none q gn7)]; exact e57.s _ _ q
          · rw [take_snoc hjl, List.filter_append, List.map_append, List.filter_cons, if_pos hb, ← List.append_assoc]
            exact (c7.mono e57.g).snoc p7
        | false =>
          rw [if_neg Bool.false_ne_true]
          refine ⟨G6, acc4, c0.trans e56.g, c1.trans e56.g, fun b' o q => e56.h _ _ (c2 _ _ q), e56.s, fun b' hb gb => e56.f b' (same_ne c2 hb) (c4 b' hb gb), e56.f Dl (by rw [c6]; exact fun z => nomatch z) c5, e56.h _ _ c6, ?_⟩
          rw [take_snoc hjl, List.filter_append, List.map_append, List.filter_cons, if_neg (by rw [hb]; exact Bool.false_ne_true)]
          show All2 S G6 acc4 (_ ++ (_ ++ []))
          rw [List.append_nil]
          exact c7.mono e56.g
      · have e : j = (ds1 ds[i]).length := by omega
        subst e
        rw [List.take_length, ← hF', ← fin] at c7
        exact .inl ⟨w1.stop H4 (c0.trans c3), G4, acc4, c1, c2, c3, c4, c5, c6, c7⟩
    · have e : i = ds.length := by omega
      subst e
      rw [List.take_length] at a7
      exact .inl ⟨w.stop H' (a1.trans a3), q Dl (.lst acc) G' H' ⟨e1.g.trans a1, e1.h.trans a2, a3, fun b hb gb => a4 b (same_ne e1.h hb) (e1.f b hb gb)⟩ (e1.h.free hD) a5 a6 ⟨acc, rfl, by rw [hF]; exact a7⟩⟩
end

/-! ### promises by names -/
section
variable {P : Program} {w : World} {K : PySem.W.Frag} {mg : Str → Option Value} {base : Heap}
/-- the module's name x is a def of the parameters ps that keeps the promise sp, by at most level k -/
structure Has (P : Program) (w : World) (K : PySem.W.Frag) (mg : Str → Option Value) (base : Heap) (x : Str) (ps : List Str) (k : Nat) (sp : Sp) : Prop where
  ex : ∃ f fd, mg x = some (.ref f) ∧ PySem.W.keepIn K (.ref f) = true ∧ Binds K fd ps [] ∧ FnOk P w K mg base CX0 k f fd ps sp
theorem has_mk {x nm qual : Str} {params : Arguments} {body : List Stmt} {scope : Scope} {f : Addr} {fd : FuncData} {N ps : List Str} {k : Nat} {sp : Sp} (F : FunD K nm qual params body scope [] [] f fd) (gl : mg x = some (.ref f)) (S : FnScope N ps scope)
    (bnd : ∀ (kV doc pm : Value) (an : Option Addr) (cdv ct : Value) (us : List Value), us.length = ps.length → bindArgs (PySem.W.fnOf nm qual params body scope .none kV doc pm an cdv ct) ⟨us, []⟩ = pure (ps.zip us))
    (len : ∀ vs H Q E, sp vs H Q E → vs.length = ps.length)
    (hbody : ∀ (cdv : Value) (A : Around) (outer : List Env) (s : Shared) (H : Hp) (vs : List V) (Q : VK) (E : XK), Room k (A.deeper (envOfC qual scope s.heap.objs.size f cdv)) → sp vs H Q E →
      ∃ t, PSs (cxOf CX0 P w K mg base N qual scope f cdv A outer s H E).nox body t ∧ t { nx := fun _ H' => Q .non H', rt := Q } (start N vs) H) : Has P w K mg base x ps (k + 1) sp :=
  ⟨f, fd, gl, F.kp, F.bindsN bnd, F.ok S len fun cdv A outer s H vs Q E hr hsp => by
    obtain ⟨t, h, q⟩ := hbody cdv A outer s H vs Q E hr hsp
    exact ⟨t, h.nox, q⟩⟩
theorem has_pure {α : Type} {pre : α → List V → Hp → Prop} {post : α → V → Hp → Prop} {x nm qual : Str} {params : Arguments} {body : List Stmt} {scope : Scope} {f : Addr} {fd : FuncData} {N ps : List Str} {k : Nat} (F : FunD K nm qual params body scope [] [] f fd) (gl : mg x = some (.ref f)) (S : FnScope N ps scope)
    (bnd : ∀ (kV doc pm : Value) (an : Option Addr) (cdv ct : Value) (us : List Value), us.length = ps.length → bindArgs (PySem.W.fnOf nm qual params body scope .none kV doc pm an cdv ct) ⟨us, []⟩ = pure (ps.zip us))
    (len : ∀ a vs G, pre a vs G → vs.length = ps.length)
    (hbody : ∀ (cdv : Value) (A : Around) (outer : List Env) (s : Shared) (H : Hp) (vs : List V) (Q : VK) (E : XK), Room k (A.deeper (envOfC qual scope s.heap.objs.size f cdv)) →
      ∀ (a : α) (G : Hp), Same G H → pre a vs G → (∀ v G' H', Ext G H G' H' → post a v G' → Q v H') →
      ∃ t, PSs (cxOf CX0 P w K mg base N qual scope f cdv A outer s H E).nox body t ∧ t { nx := fun _ H' => Q .non H', rt := Q } (start N vs) H) : Has P w K mg base x ps (k + 1) (pSp pre post) :=
  has_mk F gl S bnd (fun vs H Q E ⟨a, G, _, h, _⟩ => len a vs G h) fun cdv A outer s H vs Q E hr ⟨a, G, sG, hp, kk⟩ => hbody cdv A outer s H vs Q E hr a G sG hp kk
end
section
variable {X : Cx} {j k : Nat} {x : Str} {ps : List Str} {sp : Sp} {p pos : Pos} {e : Expr} {es : List Expr} {t : TA}
theorem pe_callH (h : Has X.prog X.w X.K X.mg X.base x ps k sp) (hr : Room j X.A) (hk : k ≤ j) (hg : Gl X x) (ha : PA X (e :: es) t) (hdb : (x == ("__debug__" : Str)) = false := by decide)
    (he : starEach (e :: es) X.env = (false, eval e X.env) :: starEach es X.env := by rfl) (hpl : (backTo pos (starEach es X.env)).any (·.1) = false := by rfl) : PE X (.Call (.Name x p) (e :: es) [] pos) (tCall sp [] E0 t) := by
  obtain ⟨f, fd, hm, kp, b, F⟩ := h.ex
  exact pe_call F (hr.mono hk) hg hm kp b .nil pass0 ha hdb he hpl
theorem pe_never {e : Expr} : PE X e (fun _ _ _ => False) := ⟨fun _ _ _ _ _ _ h => h.elim⟩
theorem pe_gi {i : Int} (h : ∃ t, X.mg x = some (.int i t)) (hg : Gl X x) (hd : (x == ("__debug__" : Str)) = false := by decide) : PE X (.Name x p) (tC (.int i)) := by
  obtain ⟨t, h⟩ := h
  exact pe_glob hg h ⟨t, rfl⟩ hd
theorem pe_gs {i : Str} (h : ∃ t, X.mg x = some (.str i t)) (hg : Gl X x) (hd : (x == ("__debug__" : Str)) = false := by decide) : PE X (.Name x p) (tC (.str i)) := by
  obtain ⟨t, h⟩ := h
  exact pe_glob hg h ⟨t, rfl⟩ hd
end
end Eld
set_option maxRecDepth 100000
set_option maxHeartbeats 1000000
/-! What built-ins yield. -/
namespace Eld
open PySem PySem.Spec PyProof.Rows L2
section
variable {K : PySem.W.Frag} {σ : St} {G G1 H : Hp} {ta tb te tc : TE} {tt tu : TT} {P P1 P2 P3 : V → Hp → Prop} {α β γ δ ε : Type} {D : Ends}
theorem ev_isi {t : Value} {n : String} {b : Bool} [MnP P] (h : EvP te σ G P) (hT : ∀ v G', P v G' → ∀ H, Same G' H → TyX K H v t) (hk : PySem.W.kitOne K t (.type n) = some b) : EvP (tCB (rIsi K) (tCons te (tCons (tC (.ty n)) tNil))) σ G (rB b) :=
  ev_cb (ea_2 h (ev_c (P := rV (.ty n)) rfl)) fun vs G' s p H s' Q q => by
    obtain ⟨v, _, rfl, p1, w, _, rfl, p2, rfl⟩ := p
    have p2 : w = .ty n := p2
    subst p2
    exact ⟨v, .ty n, t, .type n, b, rfl, .ty n, hT v G' p1 H s', hk, q _ G' H (Ext.refl s') rfl⟩
theorem ev_isi_int {n : Int} {c : String} {b : Bool} (h : EvP te σ G (rI n)) (hk : kitB "int" c = some b) : EvP (tCB (rIsi K) (tCons te (tCons (tC (.ty c)) tNil))) σ G (rB b) :=
  ev_isi h (fun v G' p H s => by cases (show v = .int n from p); exact .base (.int n)) (kit_ty hk)
theorem ev_isi_str {n : Str} {c : String} {b : Bool} (h : EvP te σ G (rS n)) (hk : kitB "str" c = some b) : EvP (tCB (rIsi K) (tCons te (tCons (tC (.ty c)) tNil))) σ G (rB b) :=
  ev_isi h (fun v G' p H s => by cases (show v = .str n from p); exact .base (.str n)) (kit_ty hk)
/-- a tuple of so many items, whatever they are -/
def rTn (n : Nat) : V → Hp → Prop := fun v G => ∃ a xs, v = .ref a ∧ G a = some (.tup xs) ∧ xs.length = n
instance {n : Nat} : MnP (rTn n) := ⟨fun s ⟨a, xs, e, h, l⟩ => ⟨a, xs, e, s _ _ h, l⟩⟩
theorem ev_isi_tup {n : Nat} {c : String} {b : Bool} (h : EvP te σ G (rTn n)) (hk : kitB "tuple" c = some b) : EvP (tCB (rIsi K) (tCons te (tCons (tC (.ty c)) tNil))) σ G (rB b) :=
  ev_isi h (fun v G' p H s => by obtain ⟨a, xs, rfl, ha, _⟩ := p; exact .base (.tup (s _ _ ha))) (kit_ty hk)
theorem ev_lenTn {n : Nat} (ha : EvP ta σ G (rTn n)) : EvP (tCB (fun xs H Q => ∃ p ys, xs = [.ref p] ∧ (SqL K H p ys ∨ SqT K H p ys) ∧ Q (.int ys.length) H) (tCons ta tNil)) σ G (rI (n : Int)) :=
  ev_cb1 ha fun v G' _ p H s Q q => by
    obtain ⟨a, xs, rfl, h, l⟩ := p
    exact ⟨a, xs, rfl, .inr (SqT.of (s _ _ h)), q _ _ _ (Ext.refl s) (by rw [l]; rfl)⟩
theorem rT.tn {R : δ → V → Hp → Prop} {ds : List δ} {v : V} {G : Hp} (h : rT R ds v G) : rTn ds.length v G := by
  obtain ⟨a, xs, rfl, h, al⟩ := h
  exact ⟨a, xs, rfl, h, al.length⟩
theorem r2.tn {R : α → V → Hp → Prop} {S : β → V → Hp → Prop} {p : α × β} {v : V} {G : Hp} (h : r2 R S p v G) : rTn 2 v G := by
  obtain ⟨a, x, y, rfl, h, _⟩ := h
  exact ⟨a, _, rfl, h, rfl⟩
theorem r3.tn {R : α → V → Hp → Prop} {S : β → V → Hp → Prop} {U : γ → V → Hp → Prop} {p : α × β × γ} {v : V} {G : Hp} (h : r3 R S U p v G) : rTn 3 v G := by
  obtain ⟨a, x, y, z, rfl, h, _⟩ := h
  exact ⟨a, _, rfl, h, rfl⟩
theorem ev_all {bs : List Bool} (h : EvP te σ G (rL rB bs)) : EvP (tCB (rAll K) (tCons te tNil)) σ G (rB (bs.all id)) :=
  ev_cb1 h fun v G' _ p H s Q q => by
    obtain ⟨a, xs, rfl, h, al⟩ := p
    rw [all2_bls.mp al] at h
    exact ⟨a, bs, rfl, SqL.of (s _ _ h), q _ _ _ (Ext.refl s) rfl⟩
theorem ev_any {bs : List Bool} (h : EvP te σ G (rL rB bs)) : EvP (tCB (L2.rAny K) (tCons te tNil)) σ G (rB (bs.any id)) :=
  ev_cb1 h fun v G' _ p H s Q q => by
    obtain ⟨a, xs, rfl, h, al⟩ := p
    rw [all2_bls.mp al] at h
    exact ⟨a, bs, rfl, SqL.of (s _ _ h), q _ _ _ (Ext.refl s) rfl⟩
/-- one sign in a text -/
theorem ev_inSign {c : Nat} {z : Str} (ha : EvP ta σ G (rS ⟨#[c]⟩)) (hb : EvP tb σ G (rS z)) :
    EvP (tOp (fun x y H Q => ∃ (c : Nat) (z : Str), x = .str ⟨#[c]⟩ ∧ y = .str z ∧ Q (.bl (decide (c ∈ z.cps.toList))) H) ta tb) σ G (rB (decide (c ∈ z.cps.toList))) :=
  ev_op ha (fun _ s => hb.mono s) fun x y G' _ p p' H s Q q => ⟨c, z, p, p', q _ _ _ (Ext.refl s) rfl⟩
theorem signs_mem {x y : Str} (h : y ∈ signs x) : ∃ c, c ∈ x.cps.toList ∧ y = ⟨#[c]⟩ := by
  unfold signs at h
  obtain ⟨c, hc, e⟩ := List.mem_map.mp h
  exact ⟨c, hc, e.symm⟩
/-- x in a list or a tuple of flat things, told as the values ys -/
theorem ev_inSq {x : V} {R : δ → V → Hp → Prop} {ds : List δ} {ys : List V} {neg : Bool} [∀ d, MnP (R d)] (ha : EvP ta σ G (rV x)) (hb : EvP tb σ G (rL R ds) ∨ EvP tb σ G (rT R ds)) (hy : ∀ xs G', All2 R G' xs ds → xs = ys) (fx : flatV x = true) (fy : ys.all flatV = true) :
    EvP (tOp (rIn K neg) ta tb) σ G (rB (if neg then !inV x ys else inV x ys)) := by
  rcases hb with hb | hb
  · refine ev_op ha (fun _ s => hb.mono s) fun x' y G' _ p p' H s Q q => ?_
    cases (show x' = x from p)
    obtain ⟨a, xs, rfl, h, al⟩ := p'
    cases hy _ _ al
    exact ⟨a, _, rfl, .inl (SqL.of (s _ _ h)), fx, fy, q _ _ _ (Ext.refl s) rfl⟩
  · refine ev_op ha (fun _ s => hb.mono s) fun x' y G' _ p p' H s Q q => ?_
    cases (show x' = x from p)
    obtain ⟨a, xs, rfl, h, al⟩ := p'
    cases hy _ _ al
    exact ⟨a, _, rfl, .inr (SqT.of (s _ _ h)), fx, fy, q _ _ _ (Ext.refl s) rfl⟩
theorem signs_len (x : Str) : (signs x).length = x.length := by unfold signs; rw [List.length_map, Array.length_toList]; rfl
end
section
variable {X : Cx} {tg e : Expr}
/-- what is walked may be of two kinds -/
def iOr (a b : TI) : TI := fun σ H R => a σ H R ∨ b σ H R
theorem pi_or {a b : TI} (h : PI X tg e a) (h' : PI X tg e b) : PI X tg e (iOr a b) := ⟨fun pins s σ H R I w => w.elim (h.run pins s σ H R I) (h'.run pins s σ H R I)⟩
def cOr (a b : List V → Hp → VK → Prop) : List V → Hp → VK → Prop := fun vs H Q => a vs H Q ∨ b vs H Q
theorem call_or {f : Value} {a b : List V → Hp → VK → Prop} (h : CallR X f a) (h' : CallR X f b) : CallR X f (cOr a b) := fun pins s σ H xs us Q I r w => w.elim (h pins s σ H xs us Q I r) (h' pins s σ H xs us Q I r)
def eOr (a b : TE) : TE := fun σ H Q => a σ H Q ∨ b σ H Q
theorem pe_or2 {a b : TE} (h : PE X e a) (h' : PE X e b) : PE X e (eOr a b) := ⟨fun pins s σ H Q I w => w.elim (h.run pins s σ H Q I) (h'.run pins s σ H Q I)⟩
end
section
variable {σ : St} {G : Hp} {P : V → Hp → Prop} {δ : Type} {R : δ → V → Hp → Prop} {ds : List δ} {a b : TI} {ta tb : TE}
theorem EvI.l (h : EvI a σ G R ds) : EvI (iOr a b) σ G R ds := fun H s Rr k => .inl (h H s Rr k)
theorem EvI.r (h : EvI b σ G R ds) : EvI (iOr a b) σ G R ds := fun H s Rr k => .inr (h H s Rr k)
theorem EvP.l (h : EvP ta σ G P) : EvP (eOr ta tb) σ G P := fun H s Q q => .inl (h H s Q q)
theorem EvP.r (h : EvP tb σ G P) : EvP (eOr ta tb) σ G P := fun H s Q q => .inr (h H s Q q)
end
end Eld
set_option maxRecDepth 100000
set_option maxHeartbeats 1000000
/-! Dicts with int and text keys. -/
namespace Eld
open PySem PySem.Spec PyProof.Rows L2
section
variable {K : PySem.W.Frag} {σ : St} {G G1 H : Hp} {ta tb te tc td tk tv : TE} {tt tu : TT} {P P1 P2 P3 : V → Hp → Prop} {α β γ δ ε : Type} {D : Ends} {wi : TI} {g : TG}
def AllK (kf : δ → Key) (R : δ → V → Hp → Prop) (G : Hp) : List (Key × V) → List δ → Prop := Paired fun kv d => kv.1 = kf d ∧ R d kv.2 G
def oD (kf : δ → Key) (R : δ → V → Hp → Prop) (ds : List δ) : Addr → HO → Hp → Prop := fun _ o G => ∃ kvs, o = .dK kvs ∧ AllK kf R G kvs ds
def rD (kf : δ → Key) (R : δ → V → Hp → Prop) (ds : List δ) : V → Hp → Prop := fun v G => ∃ a kvs, v = .ref a ∧ G a = some (.dK kvs) ∧ AllK kf R G kvs ds
theorem AllK.mono {kf : δ → Key} {R : δ → V → Hp → Prop} [∀ d, MnP (R d)] {G G' : Hp} (s : Same G G') {kvs : List (Key × V)} {ds : List δ} (h : AllK kf R G kvs ds) : AllK kf R G' kvs ds := Paired.mapP h fun _ _ q => ⟨q.1, mn s q.2⟩
theorem AllK.length {kf : δ → Key} {R : δ → V → Hp → Prop} {G : Hp} {kvs : List (Key × V)} {ds : List δ} (h : AllK kf R G kvs ds) : kvs.length = ds.length := Paired.length h
theorem AllK.keys {kf : δ → Key} {R : δ → V → Hp → Prop} {G : Hp} {kvs : List (Key × V)} {ds : List δ} (h : AllK kf R G kvs ds) : kvs.map (·.1) = ds.map kf := by
  induction h with
  | nil => rfl
  | cons r t ih => rw [List.map_cons, List.map_cons, ih, r.1]
instance {kf : δ → Key} {R : δ → V → Hp → Prop} [∀ d, MnP (R d)] {ds : List δ} : MnP (rD kf R ds) := ⟨fun s ⟨a, kvs, e, h, p⟩ => ⟨a, kvs, e, s _ _ h, p.mono s⟩⟩
theorem EvN.dict {kf : δ → Key} {R : δ → V → Hp → Prop} {ds : List δ} [∀ d, MnP (R d)] (h : EvN te σ G (oD kf R ds)) : EvP te σ G (rD kf R ds) :=
  h.know fun p o G' s gn oo => by
    obtain ⟨kvs, rfl, al⟩ := oo
    exact ⟨p, kvs, rfl, upd_same, al.mono (Same.new gn)⟩
theorem valV_none {kvs : List (Key × V)} {k : Key} (h : k ∉ kvs.map (·.1)) : valV kvs k = none := by
  cases e : valV kvs k with
  | none => rfl
  | some v => exact (h (valV_in e)).elim
/-- {k: v for ..}, no key twice -/
theorem en_dc {R : δ → V → Hp → Prop} {S : δ → V → Hp → Prop} [∀ e, MnP (S e)] {ds : List δ} {vs : List Nat} (b : δ → Bool) (kf : δ → Key) (hi : EvI wi σ G R ds) (hz : ds.length < sizeLine) (nd : (ds.map kf).Nodup)
    (hs : ∀ d v G', d ∈ ds → Same G G' → R d v G' → ∃ σ', EvG g v (wipe σ vs) G' σ' ∧ wipe σ' vs = wipe σ vs ∧ EvT tt σ' G' (b d) ∧ (b d = true → EvP tk σ' G' (rV (kV (kf d))) ∧ EvP tv σ' G' (S d))) :
    EvN (tDc wi g tt tk tv vs) σ G (oD kf S (ds.filter b)) := fun H s Q q =>
  hi H s _ fun Jt G1 H1 e1 w Dl hD => by
    have gD : G1 Dl = none := e1.s.free hD
    refine ⟨fun i m H' => m = ds.length - i ∧ i ≤ ds.length ∧ ∃ G' kvs, Same G1 G' ∧ Same H1 H' ∧ Same G' H' ∧ (∀ b, H1 b ≠ none → G1 b = none → G' b = none) ∧ G' Dl = none ∧ H' Dl = some (.dK kvs) ∧ AllK kf S G' kvs ((ds.take i).filter b),
      ⟨ds.length, by simp, Nat.zero_le _, G1, [], Same.refl _, Same.new hD, e1.s.trans (Same.new hD), fun _ _ gb => gb, gD, upd_same, .nil⟩, ?_⟩
    rintro i m H' ⟨rfl, hi, G', kvs, a1, a2, a3, a4, a5, a6, a7⟩
    by_cases hlt : i < ds.length
    · refine .inr ⟨w.go i H' hlt (a1.trans a3), fun H' => ∃ G' kvs, Same G1 G' ∧ Same H1 H' ∧ Same G' H' ∧ (∀ b, H1 b ≠ none → G1 b = none → G' b = none) ∧ G' Dl = none ∧ H' Dl = some (.dK kvs) ∧ AllK kf S G' kvs ((ds.take (i + 1)).filter b),
        fun H2 l => ⟨ds.length - (i + 1), by omega, rfl, hlt, l⟩, fun x H2 y => ?_⟩
      obtain ⟨G2, e2, r⟩ := w.yld i ds[i] G' H' x H2 (List.getElem?_eq_getElem hlt) a1 a3 y
      obtain ⟨σ2, eg, hw, ht, he⟩ := hs ds[i] x G2 (List.getElem_mem hlt) (e1.g.trans (a1.trans e2.g)) r
      refine eg H2 e2.s _ ⟨hw, ht H2 e2.s _ fun G3 H3 e3 => ?_⟩
      have e23 := e2.trans e3
      cases hb : b ds[i] with
      | true =>
        rw [if_pos rfl]
        obtain ⟨hk, hv⟩ := he hb
        refine hk.mono e3.g H3 e3.s _ fun kk G4 H4 e4 p4 => ?_
        refine hv.mono (e3.g.trans e4.g) H4 e4.s _ fun v G5 H5 e5 p5 => ?_
        have e25 := (e23.trans e4).trans e5
        have gn5 : G5 Dl = none := e25.f Dl (by rw [a6]; exact fun z => nomatch z) a5
        have kl : kvs.length < sizeLine := by
          have h1 := a7.length
          have h2 := List.length_filter_le b (ds.take i)
          rw [List.length_take] at h2
          omega
        have kn : valV kvs (kf ds[i]) = none := by
          refine valV_none ?_
          rw [a7.keys]
          intro m
          obtain ⟨d, hd, ed⟩ := List.mem_map.mp m
          have hd' := (List.mem_filter.mp hd).1
          obtain ⟨j, hj, ej⟩ := List.getElem_of_mem hd'
          have hj2 : j < i := by rw [List.length_take] at hj; omega
          rw [List.getElem_take] at ej
          have : (ds.map kf)[j]'(by rw [List.length_map]; omega) = (ds.map kf)[i]'(by rw [List.length_map]; exact hlt) := by
            rw [List.getElem_map, List.getElem_map, ej, ed]
          have := (List.getElem_inj nd).mp this
          omega
        refine ⟨kvs, kf ds[i], p4, e25.h _ _ a6, kl, G5, putK kvs (kf ds[i]) v, a1.trans e25.g, fun b' o q => ?_, fun b' o q => ?_, fun b' hb gb => e25.f b' (same_ne a2 hb) (a4 b' hb gb), gn5, upd_same, ?_⟩
        · rw [upd_ne (ne_of_none q hD)]; exact e25.h _ _ (a2 _ _ q)
        · rw [upd_ne (ne_of_none q gn5)]; exact e25.s _ _ q
        · rw [putK_new v kn, take_snoc hlt, List.filter_append, List.filter_cons, if_pos hb]
          exact Paired.snoc (a7.mono e25.g) ⟨rfl, p5⟩
      | false =>
        rw [if_neg Bool.false_ne_true]
        refine ⟨G3, kvs, a1.trans e23.g, fun b' o q => e23.h _ _ (a2 _ _ q), e23.s, fun b' hb gb => e23.f b' (same_ne a2 hb) (a4 b' hb gb), e23.f Dl (by rw [a6]; exact fun z => nomatch z) a5, e23.h _ _ a6, ?_⟩
        rw [take_snoc hlt, List.filter_append, List.filter_cons, if_neg (by rw [hb]; exact Bool.false_ne_true)]
        show AllK kf S G3 kvs (_ ++ [])
        rw [List.append_nil]
        exact a7.mono e23.g
    · have e : i = ds.length := by omega
      subst e
      rw [List.take_length] at a7
      exact .inl ⟨w.stop H' (a1.trans a3), q Dl (.dK kvs) G' H' ⟨e1.g.trans a1, e1.h.trans a2, a3, fun b hb gb => a4 b (same_ne e1.h hb) (e1.f b hb gb)⟩ (e1.h.free hD) a5 a6 ⟨kvs, rfl, a7⟩⟩
theorem ev_lenD {kf : δ → Key} {R : δ → V → Hp → Prop} {ds : List δ} [∀ d, MnP (R d)] (h : EvP te σ G (rD kf R ds)) : EvP (tCB (fun xs H Q => ∃ a kvs, xs = [V.ref a] ∧ H a = some (.dK kvs) ∧ Q (.int kvs.length) H) (tCons te tNil)) σ G (rI (ds.length : Int)) :=
  ev_cb1 h fun v G' _ p H s Q q => by
    obtain ⟨a, kvs, rfl, h, al⟩ := p
    refine ⟨a, kvs, rfl, s _ _ h, q _ _ _ (Ext.refl s) ?_⟩
    rw [al.length]; rfl
end
end Eld
set_option maxRecDepth 100000
set_option maxHeartbeats 1000000
/-! The checks. -/
namespace Eld
open PySem PySem.Spec PyProof.Rows L2
section
variable {P : Program} {w : World} {K : PySem.W.Frag} {mg : Str → Option Value} {base : Heap}
/-! is_integer, of an int -/
abbrev N_is_integer : List Str := ["thing"]
theorem sc_is_integer : FnScope N_is_integer ["thing"] (defScope s_is_integer) := ⟨rfl, rfl, rfl, by decide +kernel, rfl, by decide +kernel, by decide +kernel⟩
abbrev sp_is_integer : Sp := pSp (fun (n : Int) vs _ => vs = [.int n]) (fun _ => rB true)
theorem has_is_integer (C : Ctx K mg) : Has P w K mg base "is_integer" ["thing"] 1 sp_is_integer := by
  obtain ⟨fd, F⟩ := C.d_is_integer
  refine has_pure F C.g_is_integer sc_is_integer (fun _ _ _ _ _ _ us hl => match us, hl with | [_], _ => rfl) (fun a vs G h => by rw [h]; rfl) (fun cdv A outer s H vs Q E hr a G sG hp k => ?_)
  refine ⟨_, (pss_one (ps_ret (pe_and (pe_callB call_isi (by rfl) C.f_isinstance (by decide +kernel) (pa_cons (pv 0) (pa_cons (pe_bltn (v := .ty "int") rfl C.f_int (by decide +kernel) rfl) pa_nil))) (pe_one (pe_not (pe_callB call_isi (by rfl) C.f_isinstance (by decide +kernel) (pa_cons (pv 0) (pa_cons (pe_bltn (v := .ty "bool") rfl C.f_bool (by decide +kernel) rfl) pa_nil)))))))), ?_⟩
  subst hp
  exact s_ret (ev_andV (ev_isi_int (ev_vi rfl) (b := true) (by decide +kernel)) fun _ => ev_notV (ev_isi_int (ev_vi rfl) (b := false) (by decide +kernel))) sG k
/-! is_within -/
abbrev N_is_within : List Str := ["thing", "least", "most"]
theorem sc_is_within : FnScope N_is_within ["thing", "least", "most"] (defScope s_is_within) := ⟨rfl, rfl, rfl, by decide +kernel, rfl, by decide +kernel, by decide +kernel⟩
abbrev sp_is_within : Sp := pSp (fun (a : Int × Int × Int) vs _ => vs = [.int a.1, .int a.2.1, .int a.2.2]) (fun a => rB (decide (a.2.1 ≤ a.1) && decide (a.1 ≤ a.2.2)))
theorem has_is_within (C : Ctx K mg) : Has P w K mg base "is_within" ["thing", "least", "most"] 2 sp_is_within := by
  obtain ⟨fd, F⟩ := C.d_is_within
  refine has_pure F C.g_is_within sc_is_within (fun _ _ _ _ _ _ us hl => match us, hl with | [_, _, _], _ => rfl) (fun a vs G h => by rw [h]; rfl) (fun cdv A outer s H vs Q E hr a G sG hp k => ?_)
  refine ⟨_, (pss_one (ps_ret (pe_and (pe_callH (has_is_integer C) hr (by decide) rfl (pa_cons (pv 0) pa_nil)) (pe_one (pe_chain op_le op_le (pv 1) (pv 0) (pv 2)))))), ?_⟩
  subst hp
  exact s_ret (ev_andV (ev_call1 a.1 (ev_vi rfl) fun v G' _ p => congrArg (fun z => [z]) p) fun _ => ev_le_le (ev_vi rfl) (ev_vi rfl) (ev_vi rfl)) sG k
/-! is_pair -/
abbrev N_is_pair : List Str := ["thing"]
theorem sc_is_pair : FnScope N_is_pair ["thing"] (defScope s_is_pair) := ⟨rfl, rfl, rfl, by decide +kernel, rfl, by decide +kernel, by decide +kernel⟩
abbrev sp_is_pair : Sp := pSp (fun (n : Nat) vs G => ∃ v, vs = [v] ∧ rTn n v G) (fun n => rB (decide ((n : Int) = 2)))
theorem has_is_pair (C : Ctx K mg) : Has P w K mg base "is_pair" ["thing"] 1 sp_is_pair := by
  obtain ⟨fd, F⟩ := C.d_is_pair
  refine has_pure F C.g_is_pair sc_is_pair (fun _ _ _ _ _ _ us hl => match us, hl with | [_], _ => rfl) (fun a vs G h => by obtain ⟨v, rfl, _⟩ := h; rfl) (fun cdv A outer s H vs Q E hr a G sG hp k => ?_)
  refine ⟨_, (pss_one (ps_ret (pe_and (pe_callB call_isi (by rfl) C.f_isinstance (by decide +kernel) (pa_cons (pv 0) (pa_cons (pe_bltn (v := .ty "tuple") rfl C.f_tuple (by decide +kernel) rfl) pa_nil))) (pe_one (pe_cmpR op_eq (pe_callB call_len_seq (by rfl) C.f_len (by decide +kernel) (pa_cons (pv 0) pa_nil)) pe_int (nomark _)))))), ?_⟩
  obtain ⟨v, rfl, hv⟩ := hp
  exact s_ret (ev_andV (ev_isi_tup (ev_var rfl hv) (b := true) (by decide +kernel)) fun _ => ev_eq (ev_lenTn (ev_var rfl hv)) ev_int) sG k
/-! is_of: a text of 1 to 8 of the signs -/
structure OfS (x z : Str) : Prop where
  lo : 1 ≤ x.length
  hi : x.length ≤ 8
  all : ∀ c ∈ x.cps.toList, c ∈ z.cps.toList
abbrev N_is_of : List Str := ["thing", "signs", "sign"]
theorem sc_is_of : FnScope N_is_of ["thing", "signs"] (defScope s_is_of) := ⟨rfl, rfl, rfl, by decide +kernel, rfl, by decide +kernel, by decide +kernel⟩
abbrev sp_is_of : Sp := pSp (fun (a : Str × Str) vs _ => vs = [.str a.1, .str a.2] ∧ OfS a.1 a.2) (fun _ => rB true)
theorem has_is_of (C : Ctx K mg) : Has P w K mg base "is_of" ["thing", "signs"] 1 sp_is_of := by
  obtain ⟨fd, F⟩ := C.d_is_of
  refine has_pure F C.g_is_of sc_is_of (fun _ _ _ _ _ _ us hl => match us, hl with | [_, _], _ => rfl) (fun a vs G h => by rw [h.1]; rfl) (fun cdv A outer s H vs Q E hr a G sG hp k => ?_)
  refine ⟨_, (pss_one (ps_ret (pe_and (pe_callB call_isi (by rfl) C.f_isinstance (by decide +kernel) (pa_cons (pv 0) (pa_cons (pe_bltn (v := .ty "str") rfl C.f_str (by decide +kernel) rfl) pa_nil))) (pe_and (pe_chain op_le op_le pe_int (pe_callB call_len_str (by rfl) C.f_len (by decide +kernel) (pa_cons (pv 0) pa_nil)) (pe_gi C.i_MOST_SIGNS rfl)) (pe_one (pe_callB (cr_all rfl) (by rfl) C.f_all (by decide +kernel) (pa_cons (pe_lc (own := [("sign", 2)]) (by rfl) sc_is_of.nd (pi_str (pv 0)) (blkOk_by (own := [("sign", 2)]) (N := N_is_of) (sc := defScope s_is_of) (by decide +kernel)) (fun _ _ _ _ _ => (pg_name (i := 2) sc_is_of.nd rfl (Or.inl rfl))) (fun _ _ _ _ _ => pts_nil) (fun _ _ _ _ _ => (pe_cmpR op_in_sign (pv 2) (pv 1) (by rfl)))) pa_nil))))))), ?_⟩
  obtain ⟨x, z⟩ := a
  obtain ⟨rfl, o⟩ := hp
  have o : OfS x z := o
  have hl : (x.length : Int) ≤ 8 := by have := o.hi; omega
  have hl1 : (1 : Int) ≤ x.length := by have := o.lo; omega
  have hb : ((signs x).map fun _ => true).all id = true := by
    rw [List.all_eq_true]
    intro b hb
    obtain ⟨_, _, e⟩ := List.mem_map.mp hb
    rw [← e]; rfl
  refine s_ret (ev_andV (ev_isi_str (ev_vs rfl) (b := true) (by decide +kernel)) fun _ => ev_andV (ev_le_le ev_int (ev_lenS (ev_vs rfl) (small1000 (by have := o.hi; show x.length ≤ 1000; omega) |> Nat.le_of_lt)) ev_int) fun _ =>
    ev_all (ev_lcm (S := rB) (fun _ => true) (ei_str (ev_vs rfl)) (by rw [signs_len]; exact small1000 (by have := o.hi; show x.length ≤ 1000; omega)) fun d v G' hd s r => ?_)) sG fun v G' H' e p => k v G' H' e ?_
  · obtain ⟨c, hc, rfl⟩ := signs_mem hd
    cases (show v = .str ⟨#[c]⟩ from r)
    refine ⟨_, eg_name, rfl, (ev_inSign (ev_vs rfl) (ev_vs rfl)).imp fun u G2 _ q => ?_⟩
    rw [decide_eq_true (o.all c hc)] at q
    exact q
  · rw [hb, decide_eq_true hl, decide_eq_true hl1] at p
    exact p
/-! is_label -/
abbrev N_is_label : List Str := ["thing"]
theorem sc_is_label : FnScope N_is_label ["thing"] (defScope s_is_label) := ⟨rfl, rfl, rfl, by decide +kernel, rfl, by decide +kernel, by decide +kernel⟩
abbrev smallS : Str := "abcdefghijklmnopqrstuvwxyz"
abbrev sp_is_label : Sp := pSp (fun (a : Str) vs _ => vs = [.str a] ∧ OfS a smallS) (fun _ => rB true)
theorem has_is_label (C : Ctx K mg) : Has P w K mg base "is_label" ["thing"] 2 sp_is_label := by
  obtain ⟨fd, F⟩ := C.d_is_label
  refine has_pure F C.g_is_label sc_is_label (fun _ _ _ _ _ _ us hl => match us, hl with | [_], _ => rfl) (fun a vs G h => by rw [h.1]; rfl) (fun cdv A outer s H vs Q E hr a G sG hp k => ?_)
  refine ⟨_, (pss_one (ps_ret (pe_callH (has_is_of C) hr (by decide) rfl (pa_cons (pv 0) (pa_cons (pe_gs C.st_SMALL rfl) pa_nil))))), ?_⟩
  obtain ⟨rfl, o⟩ := hp
  exact s_ret (ev_call2 (a, smallS) (ev_vs rfl) ev_str fun v u G' _ p p' => ⟨by rw [show v = .str a from p, show u = .str smallS from p'], o⟩) sG k
/-! is_comer, of one sign of the figures -/
abbrev figS : Str := "0123456789"
abbrev N_is_comer : List Str := ["thing"]
theorem sc_is_comer : FnScope N_is_comer ["thing"] (defScope s_is_comer) := ⟨rfl, rfl, rfl, by decide +kernel, rfl, by decide +kernel, by decide +kernel⟩
abbrev sp_is_comer : Sp := pSp (fun (c : Nat) vs _ => vs = [.str ⟨#[c]⟩] ∧ c ∈ figS.cps.toList) (fun _ => rB true)
theorem has_is_comer (C : Ctx K mg) : Has P w K mg base "is_comer" ["thing"] 1 sp_is_comer := by
  obtain ⟨fd, F⟩ := C.d_is_comer
  refine has_pure F C.g_is_comer sc_is_comer (fun _ _ _ _ _ _ us hl => match us, hl with | [_], _ => rfl) (fun a vs G h => by rw [h.1]; rfl) (fun cdv A outer s H vs Q E hr a G sG hp k => ?_)
  refine ⟨_, (pss_one (ps_ret (pe_and (pe_callB call_isi (by rfl) C.f_isinstance (by decide +kernel) (pa_cons (pv 0) (pa_cons (pe_bltn (v := .ty "str") rfl C.f_str (by decide +kernel) rfl) pa_nil))) (pe_and (pe_cmpR op_eq (pe_callB call_len_str (by rfl) C.f_len (by decide +kernel) (pa_cons (pv 0) pa_nil)) pe_int (nomark _)) (pe_one (pe_cmpR op_in_sign (pv 0) (pe_gs C.st_FIGURES rfl) (by rfl))))))), ?_⟩
  obtain ⟨rfl, o⟩ := hp
  refine s_ret (ev_andV (ev_isi_str (ev_vs rfl) (b := true) (by decide +kernel)) fun _ => ev_andV (ev_eq (ev_lenS (ev_vs rfl) (by show 1 ≤ sizeLine; decide)) ev_int) fun _ => ev_inSign (ev_vs rfl) ev_str) sG fun v G' H' e p => k v G' H' e ?_
  rw [decide_eq_true o, decide_eq_true (show ((Str.length ⟨#[a]⟩ : Nat) : Int) = 1 from rfl)] at p
  exact p
/-! are_unlike, of texts no two of which are one -/
def SeqS (ds : List Str) : V → Hp → Prop := fun v G => rL rS ds v G ∨ rT rS ds v G ∨ ∃ x, v = .str x ∧ ds = signs x
abbrev N_are_unlike : List Str := ["things", "thing"]
theorem sc_are_unlike : FnScope N_are_unlike ["things"] (defScope s_are_unlike) := ⟨rfl, rfl, rfl, by decide +kernel, rfl, by decide +kernel, by decide +kernel⟩
abbrev sp_are_unlike : Sp := pSp (fun (ds : List Str) vs G => ∃ v, vs = [v] ∧ SeqS ds v G ∧ ds.Nodup ∧ ds.length ≤ 1000) (fun _ => rB true)
theorem has_are_unlike (C : Ctx K mg) : Has P w K mg base "are_unlike" ["things"] 1 sp_are_unlike := by
  obtain ⟨fd, F⟩ := C.d_are_unlike
  refine has_pure F C.g_are_unlike sc_are_unlike (fun _ _ _ _ _ _ us hl => match us, hl with | [_], _ => rfl) (fun a vs G h => by obtain ⟨v, rfl, _⟩ := h; rfl) (fun cdv A outer s H vs Q E hr ds G sG hp k => ?_)
  refine ⟨_, (pss_one (ps_ret (pe_cmpR op_eq (pe_callB call_lenD (by rfl) C.f_len (by decide +kernel) (pa_cons (pe_dc (own := [("thing", 1)]) (by rfl) sc_are_unlike.nd (pi_or (pi_list (pv 0)) (pi_or (pi_tup (pv 0)) (pi_str (pv 0)))) (blkOk_by (own := [("thing", 1)]) (N := N_are_unlike) (sc := defScope s_are_unlike) (by decide +kernel)) (fun _ _ _ _ _ => (pg_name (i := 1) sc_are_unlike.nd rfl (Or.inl rfl))) (fun _ _ _ _ _ => pts_nil) (fun _ _ _ _ _ => (pv 1)) (fun _ _ _ _ _ => pe_bl)) pa_nil)) (pe_callB (call_or call_len_seq call_len_str) (by rfl) C.f_len (by decide +kernel) (pa_cons (pv 0) pa_nil)) (nomark _)))), ?_⟩
  obtain ⟨v, rfl, hv, nd, hz⟩ := hp
  have hz' : ds.length < sizeLine := small1000 hz
  have ndk : (ds.map fun x => (Sum.inr x : Key)).Nodup := by
    rw [List.nodup_iff_pairwise_ne] at nd ⊢
    exact List.Pairwise.map _ (fun a b h e => h (Sum.inr.inj e)) nd
  have hlen : EvP (tCB (cOr (fun xs H Q => ∃ p ys, xs = [.ref p] ∧ (SqL K H p ys ∨ SqT K H p ys) ∧ Q (.int ys.length) H) (fun xs H Q => ∃ z : Str, xs = [.str z] ∧ z.length ≤ sizeLine ∧ Q (.int z.length) H)) (tCons (tVar 0) tNil)) (start N_are_unlike [v]) G (rI (ds.length : Int)) := by
    rcases hv with h | h | ⟨x, rfl, rfl⟩
    · exact fun H s Q q => ev_lenL (ev_var rfl h) H s (fun z H' => Q z H') q |> fun ⟨u, e, hu⟩ => ⟨u, e, .inl hu⟩
    · exact fun H s Q q => ev_lenT (ev_var rfl h) H s (fun z H' => Q z H') q |> fun ⟨u, e, hu⟩ => ⟨u, e, .inl hu⟩
    · rw [signs_len] at hz ⊢
      exact fun H s Q q => ev_lenS (ev_vs rfl) (Nat.le_of_lt (small1000 hz)) H s (fun z H' => Q z H') q |> fun ⟨u, e, hu⟩ => ⟨u, e, .inr hu⟩
  have hit : ∀ {K : PySem.W.Frag}, EvI (iOr (iList K (tVar 0)) (iOr (iTup K (tVar 0)) (iStr (tVar 0)))) (start N_are_unlike [v]) G rS ds := by
    intro K
    rcases hv with h | h | ⟨x, rfl, rfl⟩
    · exact .l (ei_list (ev_var rfl h))
    · exact .r (.l (ei_tup (ev_var rfl h)))
    · exact .r (.r (ei_str (ev_vs rfl)))
  refine s_ret (ev_eq (ev_lenD (EvN.dict (en_dc (tt := tYes) (S := fun _ => rB true) (fun _ => true) (fun x => (Sum.inr x : Key)) hit hz' ndk fun d u G' _ _ r => ?_))) hlen) sG fun u G' H' e p => k u G' H' e ?_
  · cases (show u = .str d from r)
    exact ⟨_, eg_name, rfl, et_yes, fun _ => ⟨ev_var rfl rfl, ev_bl⟩⟩
  · rw [List.filter_eq_self.mpr (fun _ _ => rfl), decide_eq_true rfl] at p
    exact p
/-! check_number: within -/
abbrev N_check_number : List Str := ["thing", "least", "most"]
theorem sc_check_number : FnScope N_check_number ["thing", "least", "most"] (defScope s_check_number) := ⟨rfl, rfl, rfl, by decide +kernel, rfl, by decide +kernel, by decide +kernel⟩
abbrev sp_check_number : Sp := pSp (fun (a : Int × Int × Int) vs _ => vs = [.int a.1, .int a.2.1, .int a.2.2] ∧ a.2.1 ≤ a.1 ∧ a.1 ≤ a.2.2) (fun _ => rN)
theorem has_check_number (C : Ctx K mg) : Has P w K mg base "check_number" ["thing", "least", "most"] 3 sp_check_number := by
  obtain ⟨fd, F⟩ := C.d_check_number
  refine has_pure F C.g_check_number sc_check_number (fun _ _ _ _ _ _ us hl => match us, hl with | [_, _, _], _ => rfl) (fun a vs G h => by rw [h.1]; rfl) (fun cdv A outer s H vs Q E hr a G sG hp k => ?_)
  refine ⟨_, (pss_one (ps_if (pt_not (pt_val (pe_callH (has_is_within C) hr (by decide) rfl (pa_cons (pv 0) (pa_cons (pv 1) (pa_cons (pv 2) pa_nil))))))
    pss_never
    pss_nil)), ?_⟩
  obtain ⟨rfl, h1, h2⟩ := hp
  have h := et_not (et_B (ev_call3 (E := E0) (pre := fun (a : Int × Int × Int) vs _ => vs = [.int a.1, .int a.2.1, .int a.2.2]) (post := fun a => rB (decide (a.2.1 ≤ a.1) && decide (a.1 ≤ a.2.2))) (σ := start N_check_number [.int a.1, .int a.2.1, .int a.2.2]) a
    (ev_vi (i := 0) (G := G) (n := a.1) rfl) (ev_vi (i := 1) (n := a.2.1) rfl) (ev_vi (i := 2) (n := a.2.2) rfl) fun v u z G' _ p p' p'' => by rw [show v = .int _ from p, show u = .int _ from p', show z = .int _ from p'']))
  rw [decide_eq_true h1, decide_eq_true h2] at h
  exact s_no h sG fun G' H' e => k _ G' H' e rfl
/-! is_world -/
abbrev N_is_world : List Str := ["thing"]
theorem sc_is_world : FnScope N_is_world ["thing"] (defScope s_is_world) := ⟨rfl, rfl, rfl, by decide +kernel, rfl, by decide +kernel, by decide +kernel⟩
abbrev sp_is_world : Sp := pSp (fun (m : Int) vs _ => vs = [.int m] ∧ 0 ≤ m ∧ m ≤ 1000) (fun _ => rB true)
theorem has_is_world (C : Ctx K mg) : Has P w K mg base "is_world" ["thing"] 3 sp_is_world := by
  obtain ⟨fd, F⟩ := C.d_is_world
  refine has_pure F C.g_is_world sc_is_world (fun _ _ _ _ _ _ us hl => match us, hl with | [_], _ => rfl) (fun a vs G h => by rw [h.1]; rfl) (fun cdv A outer s H vs Q E hr a G sG hp k => ?_)
  refine ⟨_, (pss_one (ps_ret (pe_callH (has_is_within C) hr (by decide) rfl (pa_cons (pv 0) (pa_cons (pe_gi C.i_WHOLE rfl) (pa_cons (pe_gi C.i_MOST_HOURS rfl) pa_nil)))))), ?_⟩
  obtain ⟨rfl, h1, h2⟩ := hp
  refine s_ret (ev_call3 (a, 0, 1000) (ev_vi rfl) ev_int ev_int fun v u z G' _ p p' p'' => by rw [show v = .int _ from p, show u = .int _ from p', show z = .int _ from p'']) sG fun v G' H' e p => k v G' H' e ?_
  rw [decide_eq_true h1, decide_eq_true h2] at p
  exact p
/-! told_in, by a clock -/
abbrev N_told_in : List Str := ["world", "integer"]
theorem sc_told_in : FnScope N_told_in ["world", "integer"] (defScope s_told_in) := ⟨rfl, rfl, rfl, by decide +kernel, rfl, by decide +kernel, by decide +kernel⟩
abbrev sp_told_in : Sp := pSp (fun (a : Int × Int) vs _ => vs = [.int a.1, .int a.2] ∧ 2 ≤ a.1) (fun a => rI (a.2.fmod a.1))
theorem has_told_in (C : Ctx K mg) : Has P w K mg base "told_in" ["world", "integer"] 1 sp_told_in := by
  obtain ⟨fd, F⟩ := C.d_told_in
  refine has_pure F C.g_told_in sc_told_in (fun _ _ _ _ _ _ us hl => match us, hl with | [_, _], _ => rfl) (fun a vs G h => by rw [h.1]; rfl) (fun cdv A outer s H vs Q E hr a G sG hp k => ?_)
  refine ⟨_, (pss_cons (ps_if (pt_cmpR op_eq (pv 0) (pe_gi C.i_WHOLE rfl) (nomark _))
    (pss_one (ps_ret (pv 1)))
    pss_nil)
  (pss_cons (ps_if (pt_cmpR op_eq (pv 0) (pe_gi C.i_FRACTIONS rfl) (nomark _))
    (pss_one (ps_ret (pe_tup (pa_cons (pv 1) (pa_cons pe_int pa_nil)))))
    pss_nil)
  (pss_one (ps_ret (pe_op op_modN (pv 1) (pv 0)))))), ?_⟩
  obtain ⟨rfl, h1⟩ := hp
  refine q_skip ((et_val (ev_eq (ev_vi rfl) ev_int)).to (decide_eq_false (by omega))) sG fun G1 H1 e1 => ?_
  refine q_skip ((et_val (ev_eq (ev_vi rfl) ev_int)).to (decide_eq_false (by omega))) e1.s fun G2 H2 e2 => ?_
  exact s_ret (ev_mod (ev_vi rfl) (ev_vi rfl) (by omega)) e2.s fun v G' H' e p => k v G' H' ((e1.trans e2).trans e) p
/-! is_factor_nought, by a clock -/
abbrev N_is_factor_nought : List Str := ["world", "factor"]
theorem sc_is_factor_nought : FnScope N_is_factor_nought ["world", "factor"] (defScope s_is_factor_nought) := ⟨rfl, rfl, rfl, by decide +kernel, rfl, by decide +kernel, by decide +kernel⟩
abbrev sp_is_factor_nought : Sp := pSp (fun (a : Int × Int) vs _ => vs = [.int a.1, .int a.2] ∧ 2 ≤ a.1) (fun a => rB (decide (a.2.fmod a.1 = 0)))
theorem has_is_factor_nought (C : Ctx K mg) : Has P w K mg base "is_factor_nought" ["world", "factor"] 1 sp_is_factor_nought := by
  obtain ⟨fd, F⟩ := C.d_is_factor_nought
  refine has_pure F C.g_is_factor_nought sc_is_factor_nought (fun _ _ _ _ _ _ us hl => match us, hl with | [_, _], _ => rfl) (fun a vs G h => by rw [h.1]; rfl) (fun cdv A outer s H vs Q E hr a G sG hp k => ?_)
  refine ⟨_, (pss_cons (ps_if (pt_cmpR op_in_seq (pv 0) (pe_tup (pa_cons (pe_gi C.i_WHOLE rfl) (pa_cons (pe_gi C.i_FRACTIONS rfl) pa_nil))) (by rfl))
    (pss_one (ps_ret (pe_cmpR op_eq (pv 1) pe_int (nomark _))))
    pss_nil)
  (pss_one (ps_ret (pe_cmpR op_eq (pe_op op_modN (pv 1) (pv 0)) pe_int (nomark _))))), ?_⟩
  obtain ⟨rfl, h1⟩ := hp
  refine q_skip ((et_val (ev_inSq (x := .int a.1) (ys := [.int 0, .int 1]) (ev_var rfl rfl) (.inr (ev_tT2 (R := rI) ev_int ev_int)) (fun _ _ al => all2_ints.mp al) rfl rfl)).to ?_) sG fun G1 H1 e1 => ?_
  · show inV (.int a.1) ([0, 1].map V.int) = false
    have e0 : eqV (.int 0) (.int a.1) = false := by show (0 == a.1) = false; rw [beq_eq_false_iff_ne]; omega
    have e1 : eqV (.int 1) (.int a.1) = false := by show (1 == a.1) = false; rw [beq_eq_false_iff_ne]; omega
    show (eqV (.int 0) (.int a.1) || (eqV (.int 1) (.int a.1) || false)) = false
    rw [e0, e1]; rfl
  · exact s_ret (ev_eq (ev_mod (ev_vi rfl) (ev_vi rfl) (by omega)) ev_int) e1.s fun v G' H' e p => k v G' H' (e1.trans e) p
end
end Eld
set_option maxRecDepth 100000
set_option maxHeartbeats 1000000
/-! Dicts from places (label, folk) to ints, kept as they are laid: NObj, NRep; their rules. -/
namespace Eld
open PySem PySem.Spec PyProof.Rows L2

abbrev Pl := Str × List Str
abbrev rPl : Pl → V → Hp → Prop := r2 rS (rT rS)
def nk (p : Pl) : NestedKey := .tup [.text p.1, .tup (p.2.map .text)]
theorem text_inj {a b : List Str} (h : a.map NestedKey.text = b.map NestedKey.text) : a = b := by
  induction a generalizing b with
  | nil => cases b with
    | nil => rfl
    | cons _ _ => cases h
  | cons x a ih => cases b with
    | nil => cases h
    | cons y b =>
      rw [List.map_cons, List.map_cons] at h
      injection h with h1 h2
      injection h1 with h1
      rw [h1, ih h2]
theorem nk_inj {a b : Pl} (h : nk a = nk b) : a = b := by
  obtain ⟨a1, a2⟩ := a
  obtain ⟨b1, b2⟩ := b
  unfold nk at h
  injection h with h
  injection h with h1 h2
  injection h1 with h1
  injection h2 with h2 _
  injection h2 with h2
  have h1 : a1 = b1 := h1
  have h2 : a2.map NestedKey.text = b2.map NestedKey.text := h2
  rw [h1, text_inj h2]
theorem nk_depth (p : Pl) : (nk p).depth ≤ 8 := by
  have h : ∀ l : List Str, NestedKey.depthAll (l.map .text) = 0 := fun l => by
    induction l with
    | nil => rfl
    | cons x l ih => rw [List.map_cons, NestedKey.depthAll, ih, NestedKey.depth]; rfl
  unfold nk
  rw [NestedKey.depth, NestedKey.depthAll, NestedKey.depthAll, NestedKey.depthAll, NestedKey.depth, NestedKey.depth, h]
  decide
/-- the object at a is ob -/
def NObj (a : Addr) (ob : Obj) : Heap → Prop := fun h => h.get? a = some ob
/-- ob is a dict from the places l.1 to the ints l.2; its keys stand in G -/
def NRep (P : Program) (w : World) (G : Hp) (a : Addr) (ob : Obj) (l : List (Pl × Int)) : Prop :=
  (a == sysModules) = false ∧ l.length ≤ sizeLine ∧ (l.map (·.1)).Nodup ∧ ob.ExactDict ∧ ∃ es ep xs, ob.data = .dict es ep ∧ es.toList = xs.map (entryOfKey (nestedKind P w)) ∧
    Paired (fun (kv : Pl × Int) (x : NestedKey × Addr × Value) => x.1 = nk kv.1 ∧ rPl kv.1 (.ref x.2.1) G ∧ ∃ t, x.2.2 = .int kv.2 t) l xs
theorem NRep.mono {P : Program} {w : World} {G G' : Hp} {a : Addr} {ob : Obj} {l : List (Pl × Int)} (s : Same G G') (h : NRep P w G a ob l) : NRep P w G' a ob l := by
  obtain ⟨h1, h2, h3, h4, es, ep, xs, h5, h6, h7⟩ := h
  exact ⟨h1, h2, h3, h4, es, ep, xs, h5, h6, Paired.mapP h7 fun _ _ q => ⟨q.1, mn s q.2.1, q.2.2⟩⟩
/-- a dict that stands as it is -/
def rPD (P : Program) (w : World) (l : List (Pl × Int)) : V → Hp → Prop := fun v G => ∃ a ob, v = .ref a ∧ G a = some (.ext (NObj a ob)) ∧ NRep P w G a ob l
instance {P : Program} {w : World} {l : List (Pl × Int)} : MnP (rPD P w l) := ⟨fun s ⟨a, ob, e, h, r⟩ => ⟨a, ob, e, s _ _ h, r.mono s⟩⟩
def oPD (P : Program) (w : World) (l : List (Pl × Int)) : Addr → HO → Hp → Prop := fun a o G => ∃ ob, o = .ext (NObj a ob) ∧ NRep P w G a ob l

/-! the lists -/
def getN (l : List (Pl × Int)) (k : Pl) : Option Int := (l.find? fun kv => decide (kv.1 = k)).map (·.2)
def putN (l : List (Pl × Int)) (k : Pl) (n : Int) : List (Pl × Int) := if (getN l k).isSome then l.map (fun kv => if kv.1 = k then (kv.1, n) else kv) else l ++ [(k, n)]
theorem getN_pos {p : Pl × Int} {r : List (Pl × Int)} {k : Pl} (e : p.1 = k) : getN (p :: r) k = some p.2 := by simp [getN, List.find?_cons, e]
theorem getN_neg {p : Pl × Int} {r : List (Pl × Int)} {k : Pl} (e : ¬ p.1 = k) : getN (p :: r) k = getN r k := by simp [getN, List.find?_cons, e]
theorem getN_none {l : List (Pl × Int)} {k : Pl} (h : k ∉ l.map (·.1)) : getN l k = none := by
  induction l with
  | nil => rfl
  | cons p r ih =>
    rw [List.map_cons, List.mem_cons, not_or] at h
    rw [getN_neg (fun e => h.1 e.symm), ih h.2]
theorem getN_some {l : List (Pl × Int)} {k : Pl} {n : Int} (h : getN l k = some n) : (k, n) ∈ l := by
  induction l with
  | nil => cases h
  | cons p r ih =>
    by_cases e : p.1 = k
    · rw [getN_pos e] at h
      cases h
      subst e
      exact List.mem_cons_self ..
    · rw [getN_neg e] at h
      exact List.mem_cons_of_mem _ (ih h)
theorem getN_of {l : List (Pl × Int)} {k : Pl} {n : Int} (nd : (l.map (·.1)).Nodup) (h : (k, n) ∈ l) : getN l k = some n := by
  induction l with
  | nil => cases h
  | cons p r ih =>
    rw [List.map_cons, List.nodup_cons] at nd
    rcases List.mem_cons.mp h with e | h
    · subst e
      exact getN_pos rfl
    · have ne : ¬ p.1 = k := fun e => nd.1 (by rw [e]; exact List.mem_map.mpr ⟨_, h, rfl⟩)
      rw [getN_neg ne]
      exact ih nd.2 h
theorem putN_new {l : List (Pl × Int)} {k : Pl} (n : Int) (h : getN l k = none) : putN l k n = l ++ [(k, n)] := by
  unfold putN
  rw [h]
  rfl
theorem putN_keys (l : List (Pl × Int)) (k : Pl) (n : Int) : (putN l k n).map (·.1) = if (getN l k).isSome then l.map (·.1) else l.map (·.1) ++ [k] := by
  unfold putN
  split
  · rw [List.map_map]
    refine List.map_congr_left fun x _ => ?_
    show (if x.1 = k then (x.1, n) else x).1 = x.1
    split <;> rfl
  · rw [List.map_append]; rfl
theorem putN_nodup {l : List (Pl × Int)} (k : Pl) (n : Int) (nd : (l.map (·.1)).Nodup) : ((putN l k n).map (·.1)).Nodup := by
  rw [putN_keys]
  split
  · exact nd
  · rename_i h
    refine nd_snoc nd fun m => ?_
    obtain ⟨p, hp, e⟩ := List.mem_map.mp m
    have := getN_of nd (k := k) (n := p.2) (by rw [← e]; exact hp)
    rw [this] at h
    exact h rfl
theorem putN_length (l : List (Pl × Int)) (k : Pl) (n : Int) : (putN l k n).length ≤ l.length + 1 := by
  unfold putN
  split
  · rw [List.length_map]; omega
  · rw [List.length_append]; exact Nat.le_refl _
end Eld
namespace Eld
open PySem PySem.Spec PyProof.Rows L2
abbrev NPair (G : Hp) : List (Pl × Int) → List (NestedKey × Addr × Value) → Prop := Paired (fun (kv : Pl × Int) (x : NestedKey × Addr × Value) => x.1 = nk kv.1 ∧ rPl kv.1 (.ref x.2.1) G ∧ ∃ t, x.2.2 = .int kv.2 t)
section
variable {G : Hp} {l : List (Pl × Int)} {xs : List (NestedKey × Addr × Value)} {k : Pl}
theorem NPair.get (h : NPair G l xs) (k : Pl) : (∃ n a t, getN l k = some n ∧ atKey xs (nk k) = some (a, .int n t)) ∨ (getN l k = none ∧ atKey xs (nk k) = none) := by
  induction h with
  | nil => exact .inr ⟨rfl, rfl⟩
  | @cons kv x l xs q t ih =>
    obtain ⟨q1, q2, u, q3⟩ := q
    obtain ⟨x1, x2, x3⟩ := x
    simp only at q1 q3
    by_cases e : kv.1 = k
    · refine .inl ⟨kv.2, x2, u, getN_pos e, ?_⟩
      have e' : x1 = nk k := by rw [q1, e]
      simp [atKey, List.find?_cons, e', q3]
    · have e' : ¬ x1 = nk k := fun z => e (nk_inj (q1.symm.trans z))
      have b : atKey ((x1, x2, x3) :: xs) (nk k) = atKey xs (nk k) := by simp [atKey, List.find?_cons, e']
      rw [getN_neg e, b]
      exact ih
theorem NPair.some_eq (h : NPair G l xs) (k : Pl) : (getN l k).isSome = (atKey xs (nk k)).isSome := by
  rcases h.get k with ⟨n, a, t, e1, e2⟩ | ⟨e1, e2⟩ <;> rw [e1, e2] <;> rfl
theorem NPair.put (h : NPair G l xs) {b : Addr} {n : Int} {t : Tok} (hk : rPl k (.ref b) G) : NPair G (putN l k n) (storedH xs (nk k) b (.int n t)) := by
  have e := h.some_eq k
  unfold putN storedH
  rw [e]
  by_cases q : (atKey xs (nk k)).isSome = true
  · rw [if_pos q, if_pos q]
    clear q e
    induction h with
    | nil => exact .nil
    | @cons kv x l xs r t' ih =>
      rw [List.map_cons, List.map_cons]
      refine .cons ?_ ih
      obtain ⟨r1, r2, r3⟩ := r
      unfold putAt
      by_cases z : kv.1 = k
      · rw [if_pos z, if_pos (by rw [r1, z])]
        exact ⟨r1, r2, t, rfl⟩
      · rw [if_neg z, if_neg (fun y => z (nk_inj (r1.symm.trans y)))]
        exact ⟨r1, r2, r3⟩
  · rw [if_neg q, if_neg q]
    exact Paired.snoc h ⟨rfl, hk, t, rfl⟩
theorem NPair.nodup (h : NPair G l xs) (nd : (l.map (·.1)).Nodup) : (xs.map (·.1)).Nodup := by
  have e : xs.map (·.1) = (l.map (·.1)).map nk := by
    clear nd
    induction h with
    | nil => rfl
    | cons q t ih => rw [List.map_cons, List.map_cons, List.map_cons, ih, q.1]
  rw [e]
  rw [List.nodup_iff_pairwise_ne] at nd ⊢
  exact List.Pairwise.map _ (fun a b h z => h (nk_inj z)) nd
theorem NPair.length (h : NPair G l xs) : l.length = xs.length := Paired.length h
theorem NPair.key : ∀ {l : List (Pl × Int)} {xs : List (NestedKey × Addr × Value)} {i : Nat} {k : Pl} {n : Int}, NPair G l xs → l[i]? = some (k, n) → ∃ b t, xs[i]? = some (nk k, b, .int n t) ∧ rPl k (.ref b) G
  | _, _, _, _, _, .nil, e => by simp at e
  | _, x :: _, 0, k, n, .cons r _, e => by
    simp at e
    subst e
    obtain ⟨r1, r2, t, r3⟩ := r
    obtain ⟨x1, x2, x3⟩ := x
    simp only at r1 r3
    subst r1 r3
    exact ⟨x2, t, rfl, r2⟩
  | _, _, i + 1, k, n, .cons _ t, e => by
    obtain ⟨b, u, h1, h2⟩ := NPair.key (i := i) (k := k) (n := n) t (by simpa using e)
    exact ⟨b, u, by simpa using h1, h2⟩
end
section
variable {X : Cx} {pins : List (Addr × Obj)} {σ : St} {G H : Hp} {s : Shared} {a b : Addr} {ob : Obj} {l : List (Pl × Int)} {k : Pl} {n : Int} {A : Around} {E : Value → Shared → Prop} {v : V} {u : Value}
theorem texts_all {P : Program} {w : World} {h : Heap} : ∀ {fs : List Str} {us : List Value}, Vals (fs.map V.str) us → NestedAll h (fs.map .text) us
  | [], _, r => by rw [List.map_nil] at r; cases r; exact .nil
  | f :: fs, _, r => by
    rw [List.map_cons] at r
    cases r with
    | cons x t =>
      obtain ⟨tk, rfl⟩ := (show ∃ t, _ = Value.str f t from x)
      exact .cons (.text f tk) (texts_all (P := P) (w := w) t)
/-- a place that is tracked is a key -/
theorem pl_key {P : Program} {w : World} {h : Heap} (ok : HOk P w H h) (hk : rPl k (.ref b) H) : (nestedKind P w).is h (nk k) b := by
  obtain ⟨_, x, y, e, hb, hx, c, ys, rfl, hc, al⟩ := hk
  cases e
  have hx : x = .str k.1 := hx
  subst hx
  rw [all2_strs.mp al] at hc
  obtain ⟨_, its, r, o, h1, h2, n, h3⟩ := (show ObjOk P w H h b (.tup [.str k.1, .ref c]) from ok b _ hb)
  obtain ⟨_, its2, r2, o2, g1, g2, n2, g3⟩ := (show ObjOk P w H h c (.tup (k.2.map V.str)) from ok c _ hc)
  cases r with
  | cons ra rr => cases rr with
    | cons rb rn => cases rn with
      | nil =>
        obtain ⟨tk, rfl⟩ := (show ∃ t, _ = Value.str k.1 t from ra)
        cases (show _ = Value.ref c from rb)
        refine ⟨.tup h1 h2 h3 ?_, nk_depth k⟩
        show NestedAll h _ [Value.str k.1 tk, Value.ref c]
        refine .cons (.text _ _) (.cons (.tup g1 g2 g3 ?_) .nil)
        have := texts_all (P := P) (w := w) (h := h) r2
        simpa using this
theorem NRep.of {P : Program} {w : World} {h : Heap} (ok : HOk P w H h) (ho : h.get? a = some ob) (r : NRep P w H a ob l) : ∃ xs, NPair H l xs ∧ h.DictOfH (nestedKind P w) a xs := by
  obtain ⟨r1, r2, r3, r4, es, ep, xs, r5, r6, r7⟩ := r
  refine ⟨xs, r7, ob, es, ep, ho, r4, r5, r6, fun x hx => ?_, NPair.nodup r7 r3⟩
  have all : ∀ {l : List (Pl × Int)} {m : List (NestedKey × Addr × Value)}, NPair H l m → ∀ x ∈ m, (nestedKind P w).is h x.1 x.2.1 := by
    intro l m q
    induction q with
    | nil => intro x hx; exact nomatch hx
    | @cons p q ps qs hq t ih =>
      intro x hx
      rcases List.mem_cons.mp hx with e | hx
      · subst e
        rw [hq.1]
        exact pl_key ok hq.2.1
      · exact ih x hx
  exact all r7 x hx
/-- the dict of a state -/
theorem inv_nd (I : Inv X pins σ H s) (ha : H a = some (.ext (NObj a ob))) : s.heap.get? a = some ob := (I.hok a _ ha).1
theorem nobj_ok {P : Program} {w : World} {H : Hp} {h : Heap} (e : h.get? a = some ob) : ObjOk P w H h a (.ext (NObj a ob)) := ⟨e, ⟨ob, e⟩, fun h1 h2 q k => k ob q⟩
theorem n_getItem {Q : Value → Shared → Prop} (hu : A.units + 64 < cLine) (I : Inv X pins σ H s) (ha : H a = some (.ext (NObj a ob))) (r : NRep X.prog X.w H a ob l) (hk : rPl k v H) (rv : RelV v u) (g : getN l k = some n) (h : ∀ t s', Inv X pins σ H s' → Q (.int n t) s') :
    wpAny (model X.prog X.w) A (getItem (.ref a) u) Q E s := by
  obtain ⟨b, _, _, rfl, _⟩ := id hk
  cases (show u = Value.ref b from rv)
  obtain ⟨xs, np, hm⟩ := r.of I.hok (inv_nd I ha)
  rcases np.get k with ⟨m, c, t, e1, e2⟩ | ⟨e1, _⟩
  · rw [g] at e1
    cases e1
    refine wpAny_getItem_heap (knd := nestedKind X.prog X.w) (show A.units + 1 + 8 < cLine by omega) (pl_key I.hok hk) hm e2 ?_
    exact h _ _ (I.tok _)
  · rw [g] at e1; cases e1
theorem n_get2 {x : V} {z : Value} {Q : Value → Shared → Prop} (hu : A.units + 64 < cLine) (I : Inv X pins σ H s) (ha : H a = some (.ext (NObj a ob))) (r : NRep X.prog X.w H a ob l) (hk : rPl k v H) (rv : RelV v u) {d : Int} (rx : RelV (.int d) z) (h : ∀ t s', Inv X pins σ H s' → Q (.int ((getN l k).getD d) t) s') :
    wpAny (model X.prog X.w) A (call (.builtin "dict.get") [.ref a, u, z]) Q E s := by
  obtain ⟨b, _, _, rfl, _⟩ := id hk
  cases (show u = Value.ref b from rv)
  obtain ⟨xs, np, hm⟩ := r.of I.hok (inv_nd I ha)
  obtain ⟨dt, rfl⟩ := rx
  refine call_meetsIn F.slot_dict_get hm.typeIs F.entry_dict_get (F.args_dict_get_3 _ _ _) (meetsH_dict_get_default (nestedKind X.prog X.w) a b r.1 (.int d dt)) ⟨show A.units + 1 + 8 < cLine by omega, nk k, xs, pl_key I.hok hk, hm, ?_⟩
  rcases np.get k with ⟨m, c, t, e1, e2⟩ | ⟨e1, e2⟩
  · rw [e2]
    rw [e1] at h
    exact h t _ (I.tok _)
  · rw [e2]
    rw [e1] at h
    exact h dt _ (I.tok _)
theorem n_in {Q : Value → Shared → Prop} (hu : A.units + 64 < cLine) (I : Inv X pins σ H s) (ha : H a = some (.ext (NObj a ob))) (r : NRep X.prog X.w H a ob l) (hk : rPl k v H) (rv : RelV v u) (h : ∀ s', Inv X pins σ H s' → Q (.bool (getN l k).isSome) s') :
    wpAny (model X.prog X.w) A (compareOp .In u (.ref a)) Q E s := by
  obtain ⟨b, _, _, rfl, _⟩ := id hk
  cases (show u = Value.ref b from rv)
  obtain ⟨xs, np, hm⟩ := r.of I.hok (inv_nd I ha)
  refine wpAny_in_heap (knd := nestedKind X.prog X.w) (show A.units + 1 + 8 < cLine by omega) (pl_key I.hok hk) r.1 hm ?_
  rw [← np.some_eq k]
  exact h _ (I.tok _)
theorem n_notIn {Q : Value → Shared → Prop} (hu : A.units + 64 < cLine) (I : Inv X pins σ H s) (ha : H a = some (.ext (NObj a ob))) (r : NRep X.prog X.w H a ob l) (hk : rPl k v H) (rv : RelV v u) (h : ∀ s', Inv X pins σ H s' → Q (.bool (!(getN l k).isSome)) s') :
    wpAny (model X.prog X.w) A (compareOp .NotIn u (.ref a)) Q E s := by
  obtain ⟨b, _, _, rfl, _⟩ := id hk
  cases (show u = Value.ref b from rv)
  obtain ⟨xs, np, hm⟩ := r.of I.hok (inv_nd I ha)
  refine wpAny_notIn_heap (knd := nestedKind X.prog X.w) (show A.units + 1 + 8 < cLine by omega) (pl_key I.hok hk) r.1 hm ?_
  rw [← np.some_eq k]
  exact h _ (I.tok _)
/-- the dict behind a store -/
theorem NRep.stored {P : Program} {w : World} {h' : Heap} {xs : List (NestedKey × Addr × Value)} {t : Tok} (r : NRep P w G a ob l) (np : NPair G l xs) (hk : rPl k (.ref b) G) (hz : l.length < sizeLine) (hm : h'.DictOfH (nestedKind P w) a (storedH xs (nk k) b (.int n t))) :
    ∃ ob', h'.get? a = some ob' ∧ NRep P w G a ob' (putN l k n) := by
  obtain ⟨o, es, ep, h1, h2, h3, h4, _, _⟩ := hm
  refine ⟨o, h1, r.1, ?_, putN_nodup k n r.2.2.1, h2, es, ep, _, h3, h4, np.put hk⟩
  have := putN_length l k n
  omega
/-- where the keys stand in a part G of the heap, the entries are the same -/
theorem NRep.of2 {P : Program} {w : World} {h : Heap} (sG : Same G H) (ok : HOk P w H h) (ho : h.get? a = some ob) (r : NRep P w G a ob l) : ∃ xs, NPair G l xs ∧ h.DictOfH (nestedKind P w) a xs := by
  obtain ⟨r1, r2, r3, r4, es, ep, xs, r5, r6, r7⟩ := r
  obtain ⟨xs', q1, ob', es', ep', q2, q3, q4, q5, q6, q7⟩ := NRep.of ok ho (NRep.mono sG ⟨r1, r2, r3, r4, es, ep, xs, r5, r6, r7⟩)
  refine ⟨xs, r7, ob, es, ep, ho, r4, r5, r6, fun x hx => ?_, NPair.nodup r7 r3⟩
  have all : ∀ {l : List (Pl × Int)} {m : List (NestedKey × Addr × Value)}, NPair G l m → ∀ x ∈ m, (nestedKind P w).is h x.1 x.2.1 := by
    intro l m q
    induction q with
    | nil => intro x hx; exact nomatch hx
    | @cons p q ps qs hq t ih =>
      intro x hx
      rcases List.mem_cons.mp hx with e | hx
      · subst e
        rw [hq.1]
        exact pl_key ok (mn sG hq.2.1)
      · exact ih x hx
  exact all r7 x hx
theorem n_setItem {Q : Unit → Shared → Prop} {z : Value} (hu : A.units + 64 < cLine) (I : Inv X pins σ H s) (ha : H a = some (.ext (NObj a ob))) (sG : Same G H) (r : NRep X.prog X.w G a ob l) (hk : rPl k v G) (rv : RelV v u) (rx : RelV (.int n) z) (hz : l.length < sizeLine)
    (h : ∀ ob' s', NRep X.prog X.w G a ob' (putN l k n) → Inv X pins σ (upd H a (.ext (NObj a ob'))) s' → Q () s') : wpAny (model X.prog X.w) A (setItem (.ref a) u z) Q E s := by
  obtain ⟨b, _, _, rfl, _⟩ := id hk
  cases (show u = Value.ref b from rv)
  obtain ⟨xs, np, hm⟩ := r.of2 sG I.hok (inv_nd I ha)
  obtain ⟨zt, rfl⟩ := rx
  have hzx : xs.length ≤ sizeLine := by rw [← np.length]; exact r.2.1
  refine wpAny_setItem_heap (hsz := hzx) (knd := nestedKind X.prog X.w) (show A.units + 1 + 8 < cLine by omega) (pl_key I.hok (mn sG hk)) hm fun h' dd' hs => ?_
  obtain ⟨ob', e', r'⟩ := r.stored np hk hz dd'
  exact h ob' _ r' (d_write I (by rw [ha]; exact True.intro) hs ⟨ob', e'⟩ (nobj_ok e'))
theorem n_dictSet {Q : Unit → Shared → Prop} {z : Value} (hu : A.units + 64 < cLine) (I : Inv X pins σ H s) (ha : H a = some (.ext (NObj a ob))) (sG : Same G H) (r : NRep X.prog X.w G a ob l) (hk : rPl k v G) (rv : RelV v u) (rx : RelV (.int n) z) (hz : l.length < sizeLine)
    (h : ∀ ob' s', NRep X.prog X.w G a ob' (putN l k n) → Inv X pins σ (upd H a (.ext (NObj a ob'))) s' → Q () s') : wpAny (model X.prog X.w) A (dictSet a u z) Q E s := by
  obtain ⟨b, _, _, rfl, _⟩ := id hk
  cases (show u = Value.ref b from rv)
  obtain ⟨xs, np, hm⟩ := r.of2 sG I.hok (inv_nd I ha)
  obtain ⟨zt, rfl⟩ := rx
  have hzx : xs.length ≤ sizeLine := by rw [← np.length]; exact r.2.1
  refine wpAny_dictSet_heap (hsz := hzx) (knd := nestedKind X.prog X.w) (show A.units + 8 < cLine by omega) (pl_key I.hok (mn sG hk)) hm fun h' dd' hs => ?_
  obtain ⟨ob', e', r'⟩ := r.stored np hk hz dd'
  exact h ob' _ r' (d_write I (by rw [ha]; exact True.intro) hs ⟨ob', e'⟩ (nobj_ok e'))
theorem n_empty {P : Program} {w : World} {h : Heap} (hb : sysModules < h.objs.size) : NRep P w G h.objs.size { cls := .type "dict", data := .dict #[] } [] :=
  ⟨beq_eq_false_iff_ne.mpr (Ne.symm (Nat.ne_of_lt hb)), Nat.zero_le _, List.nodup_nil, ⟨rfl, rfl, rfl⟩, #[], 0, [], rfl, rfl, .nil⟩
end
end Eld
set_option maxRecDepth 100000
set_option maxHeartbeats 1000000
/-! Rules for dicts from places to ints; what an expression yields at one heap (EvX). -/
namespace Eld
open PySem PySem.Spec PyProof.Rows L2

/-! ### at one heap -/
def EvX (te : TE) (σ : St) (G H : Hp) (P : V → Hp → Prop) : Prop := ∀ Q : VK, (∀ v G' H', Ext G H G' H' → P v G' → Q v H') → te σ H Q
def EtX (tt : TT) (σ : St) (G H : Hp) (b : Bool) : Prop := ∀ Q : Bool → Hp → Prop, (∀ G' H', Ext G H G' H' → Q b H') → tt σ H Q
section
variable {K : PySem.W.Frag} {σ : St} {G G1 H : Hp} {ta tb te tc td tk tv tx : TE} {tt tu : TT} {P P1 P2 P3 : V → Hp → Prop} {α β γ δ ε : Type} {D : Ends} {t1 t2 tz : TS}
theorem EvP.at (h : EvP te σ G P) (s : Same G H) : EvX te σ G H P := h H s
theorem EvT.at {b : Bool} (h : EvT tt σ G b) (s : Same G H) : EtX tt σ G H b := h H s
theorem EtX.to {b b' : Bool} (h : EtX tt σ G H b) (e : b = b') : EtX tt σ G H b' := e ▸ h
theorem EvX.imp (h : EvX te σ G H P) (i : ∀ v G', Same G G' → P v G' → P1 v G') : EvX te σ G H P1 := fun Q q => h Q fun v G' H' e p => q v G' H' e (i v G' e.g p)
/-- two operands, each at its heap -/
theorem ex_op {r : R2} [MnP P1] (ha : EvX ta σ G H P1) (hb : ∀ G' H', Ext G H G' H' → EvX tb σ G' H' P2) (hr : ∀ x y G' H', Ext G H G' H' → P1 x G' → P2 y G' → EvX (fun _ H Q => r x y H Q) σ G' H' P) : EvX (tOp r ta tb) σ G H P := fun Q q =>
  ha _ fun x G' H' e p => hb G' H' e _ fun y G2 H2 e2 p2 => hr x y G2 H2 (e.trans e2) (mn e2.g p) p2 Q fun v G3 H3 e3 p3 => q v G3 H3 ((e.trans e2).trans e3) p3
theorem ex_opI {C : Int → Int → Prop} {g : Int → Int → V} {i j : Int} (ha : EvX ta σ G H (rI i)) (hb : ∀ G' H', Ext G H G' H' → EvX tb σ G' H' (rI j)) (hc : C i j) (hp : ∀ G, P (g i j) G) : EvX (tOp (L2.rI C g) ta tb) σ G H P :=
  ex_op ha hb fun x y G' H' e p p' Q q => ⟨i, j, p, p', hc, q _ _ _ (Ext.refl e.s) (hp _)⟩
theorem ex_opI0 {g : Int → Int → V} {i j : Int} (ha : EvX ta σ G H (rI i)) (hb : ∀ G' H', Ext G H G' H' → EvX tb σ G' H' (rI j)) (hp : ∀ G, P (g i j) G) : EvX (tOp (rI0 g) ta tb) σ G H P :=
  ex_op ha hb fun x y G' H' e p p' Q q => ⟨i, j, p, p', q _ _ _ (Ext.refl e.s) (hp _)⟩
theorem ex_add {i j : Int} (ha : EvX ta σ G H (rI i)) (hb : ∀ G' H', Ext G H G' H' → EvX tb σ G' H' (rI j)) : EvX (tOp (rI0 fun i j => .int (i + j)) ta tb) σ G H (rI (i + j)) := ex_opI0 ha hb fun _ => rfl
theorem ex_sub {i j : Int} (ha : EvX ta σ G H (rI i)) (hb : ∀ G' H', Ext G H G' H' → EvX tb σ G' H' (rI j)) : EvX (tOp (rI0 fun i j => .int (i - j)) ta tb) σ G H (rI (i - j)) := ex_opI0 ha hb fun _ => rfl
theorem ex_mul {C : Int → Int → Prop} {i j : Int} (ha : EvX ta σ G H (rI i)) (hb : ∀ G' H', Ext G H G' H' → EvX tb σ G' H' (rI j)) (hc : C i j) : EvX (tOp (L2.rI C fun i j => .int (i * j)) ta tb) σ G H (rI (i * j)) := ex_opI ha hb hc fun _ => rfl
theorem ex_mod {C : Int → Int → Prop} {i j : Int} (ha : EvX ta σ G H (rI i)) (hb : ∀ G' H', Ext G H G' H' → EvX tb σ G' H' (rI j)) (hc : C i j) : EvX (tOp (L2.rI C fun i j => .int (i.fmod j)) ta tb) σ G H (rI (i.fmod j)) := ex_opI ha hb hc fun _ => rfl
theorem ex_div {C : Int → Int → Prop} {i j : Int} (ha : EvX ta σ G H (rI i)) (hb : ∀ G' H', Ext G H G' H' → EvX tb σ G' H' (rI j)) (hc : C i j) : EvX (tOp (L2.rI C fun i j => .int (i.fdiv j)) ta tb) σ G H (rI (i.fdiv j)) := ex_opI ha hb hc fun _ => rfl
theorem ex_neg {i : Int} (ha : EvX ta σ G H (rI i)) : EvX (tUn (L2.rU fun i => .int (-i)) ta) σ G H (rI (-i)) := fun Q q => ha _ fun x G' H' e p => ⟨i, p, q _ G' H' e rfl⟩
theorem ex_eqV {x y : V} (ha : EvX ta σ G H (rV x)) (hb : ∀ G' H', Ext G H G' H' → EvX tb σ G' H' (rV y)) (hs : scal x y = true) : EvX (tOp rEq ta tb) σ G H (rB (decide (x = y))) :=
  ex_op ha hb fun x' y' G' H' e p p' Q q => by
    have p : x' = x := p
    have p' : y' = y := p'
    subst p p'
    exact ⟨hs, q _ _ _ (Ext.refl e.s) rfl⟩
theorem ex_eq {i j : Int} (ha : EvX ta σ G H (rI i)) (hb : ∀ G' H', Ext G H G' H' → EvX tb σ G' H' (rI j)) : EvX (tOp rEq ta tb) σ G H (rB (decide (i = j))) := by
  rw [← dec_intV]; exact ex_eqV ha hb rfl
theorem xt_val {b : Bool} (h : EvX te σ G H (rB b)) : EtX (tTest te) σ G H b := fun Q q => h _ fun v G' H' e p => ⟨b, p, q G' H' e⟩
theorem xt_B {b : Bool} (h : EvX te σ G H (rB b)) : EtX (tB te) σ G H b := fun Q q => h _ fun v G' H' e p => ⟨b, p, q G' H' e⟩
theorem xt_and {a b : Bool} (h1 : EtX tt σ G H a) (h2 : a = true → ∀ G' H', Ext G H G' H' → EtX tu σ G' H' b) : EtX (tAnd tt tu) σ G H (a && b) := fun Q q => h1 _ fun G' H' e => by
  cases a with
  | true =>
    show tu σ H' Q
    exact h2 rfl G' H' e Q fun G2 H2 e2 => q G2 H2 (e.trans e2)
  | false =>
    show Q false H'
    exact q G' H' e
theorem xt_not {b : Bool} (h : EtX tt σ G H b) : EtX (tNot tt) σ G H (!b) := fun Q q => h _ q
/-! statements over one heap -/
theorem x_asg {i : Nat} (h : EvX te σ G H P) (k : ∀ v G' H', Ext G H G' H' → P v G' → tz D (σ.set i (some v)) H') : tSeq (tAsg te (gName i)) tz D σ H := h _ k
theorem xs_asg {i : Nat} (h : EvX te σ G H P) (k : ∀ v G' H', Ext G H G' H' → P v G' → D.nx (σ.set i (some v)) H') : tAsg te (gName i) D σ H := h _ k
theorem xs_ret (h : EvX te σ G H P) (k : ∀ v G' H', Ext G H G' H' → P v G' → D.rt v H') : tRet te D σ H := h _ k
theorem xs_if {b : Bool} (h : EtX tt σ G H b) (h1 : b = true → ∀ G' H', Ext G H G' H' → t1 D σ H') (h2 : b = false → ∀ G' H', Ext G H G' H' → t2 D σ H') : tIfS tt t1 t2 D σ H := h _ fun G' H' e => by
  cases b with
  | true =>
    show t1 D σ H'
    exact h1 rfl G' H' e
  | false =>
    show t2 D σ H'
    exact h2 rfl G' H' e
theorem x_if {b : Bool} (h : EtX tt σ G H b) (h1 : b = true → ∀ G' H', Ext G H G' H' → t1 { D with nx := tz D } σ H') (h2 : b = false → ∀ G' H', Ext G H G' H' → t2 { D with nx := tz D } σ H') : tSeq (tIfS tt t1 t2) tz D σ H := xs_if (D := { D with nx := tz D }) h h1 h2
theorem xs_aug {i : Nat} {f : Int → Int → Int} {a b : Int} (hx : σ[i]? = some (some (.int a))) (h : EvX te σ G H (rI b)) (k : ∀ G' H', Ext G H G' H' → D.nx (σ.set i (some (.int (f a b)))) H') : tAug i te (ipI f) D σ H :=
  ⟨.int a, hx, h _ fun v G' H' e p => ⟨a, b, rfl, p, k G' H' e⟩⟩
end

/-! ### readings of dicts from places to ints -/
section
variable (P : Program) (w : World)
def tNDNew : TE := fun _ H Q => ∀ p ob, H p = none → (∀ G, NRep P w G p ob []) → Q (.ref p) (upd H p (.ext (NObj p ob)))
def tNGet (td ty : TE) : TE := fun σ H Q => td σ H fun x H1 => ty σ H1 fun y H2 => ∃ a ob l k n, x = .ref a ∧ H2 a = some (.ext (NObj a ob)) ∧ NRep P w H2 a ob l ∧ rPl k y H2 ∧ getN l k = some n ∧ Q (.int n) H2
def tNIn (ty td : TE) : TE := fun σ H Q => ty σ H fun y H1 => td σ H1 fun x H2 => ∃ a ob l k, x = .ref a ∧ H2 a = some (.ext (NObj a ob)) ∧ NRep P w H2 a ob l ∧ rPl k y H2 ∧ Q (.bl (getN l k).isSome) H2
def tNNotIn (ty td : TE) : TE := fun σ H Q => ty σ H fun y H1 => td σ H1 fun x H2 => ∃ a ob l k, x = .ref a ∧ H2 a = some (.ext (NObj a ob)) ∧ NRep P w H2 a ob l ∧ rPl k y H2 ∧ Q (.bl (!(getN l k).isSome)) H2
def tNGet2 (td ty tx : TE) : TE := fun σ H Q => td σ H fun x H1 => ∃ a ob l, x = .ref a ∧ H1 a = some (.ext (NObj a ob)) ∧ NRep P w H1 a ob l ∧ ty σ H1 fun y H2 => tx σ H2 fun z H3 => ∃ k d, H3 a = some (.ext (NObj a ob)) ∧ NRep P w H3 a ob l ∧ rPl k y H3 ∧ z = .int d ∧ Q (.int ((getN l k).getD d)) H3
def sNPut (td ty tv : TE) : TS := fun D σ H => tv σ H fun v H1 => td σ H1 fun x H2 => ty σ H2 fun y H3 => ∃ G a ob l k n, x = .ref a ∧ H3 a = some (.ext (NObj a ob)) ∧ Same G H3 ∧ NRep P w G a ob l ∧ rPl k y G ∧ v = .int n ∧ l.length < sizeLine ∧
  ∀ ob', NRep P w G a ob' (putN l k n) → D.nx σ (upd H3 a (.ext (NObj a ob')))
end
theorem n_typeIs {X : Cx} {pins : List (Addr × Obj)} {σ : St} {H : Hp} {s : Shared} {a : Addr} {ob : Obj} {l : List (Pl × Int)} (I : Inv X pins σ H s) (ha : H a = some (.ext (NObj a ob))) (r : NRep X.prog X.w H a ob l) :
    s.TypeIs (.ref a) "dict" ∧ ∀ b, Value.ref a = .ref b → ∃ ob, s.heap.get? b = some ob ∧ ob.dict = none :=
  ⟨⟨ob, inv_nd I ha, r.2.2.2.1.1⟩, fun b q => by cases q; exact ⟨ob, inv_nd I ha, r.2.2.2.1.2.1⟩⟩
section
variable {X : Cx} {o i e f value : Expr} {pos pos' apos cpos : Pos} {td ty tv tx : TE}
theorem pe_dnewN : PE X (.Dict [] [] pos) (tNDNew X.prog X.w) := ⟨fun pins s σ H Q I h =>
  wpAny_Dict_empty ⟨.ref s.heap.objs.size, _, I.laid (a := s.heap.objs.size) (o := .ext (NObj s.heap.objs.size { cls := .type "dict", data := .dict #[] })) (t' := s.toks) (fun _ _ q => Heap.get?_push_of_some _ q) (Nat.le_refl _) (nobj_ok (Heap.get?_push_size _ rfl)), rfl,
    h _ _ (I.hok.fresh (Nat.le_refl _)) fun G => n_empty I.big⟩⟩
theorem pe_ndget (hu : X.A.units + 64 < cLine) (ho : PE X o td) (hi : PE X i ty) (hs : NoSl i) : PE X (.Subscript o i pos) (tNGet X.prog X.w td ty) := by
  refine ⟨fun pins s σ H Q I h => ?_⟩
  refine subD_of PySem.F.slot_dict_getitem.lookup hs (thn (ho.run pins s σ H _ I h) fun u s1 ⟨x, H1, I1, rx, q1⟩ => thn (hi.run pins s1 σ H1 _ I1 q1) fun iv s2 ⟨y, H2, I2, ry, a, ob, l, k, n, ex, ha, r, hk, g, q2⟩ => ?_)
  subst ex
  obtain rfl : u = Value.ref a := rx
  exact ⟨(n_typeIs I2 ha r).1, n_getItem hu I2 ha r hk ry g fun t s3 I3 => ⟨.int n, H2, I3, ⟨t, rfl⟩, q2⟩⟩
theorem pc_ndin (hu : X.A.units + 64 < cLine) (hi : PE X i ty) (ho : PE X o td) : PC X .In i o (tNIn X.prog X.w ty td) := by
  refine ⟨fun pins s σ H Q I h => ?_⟩
  refine thn (hi.run pins s σ H _ I h) fun iv s1 ⟨y, H1, I1, ry, q1⟩ => thn (ho.run pins s1 σ H1 _ I1 q1) fun u s2 ⟨x, H2, I2, rx, a, ob, l, k, ex, ha, r, hk, q2⟩ => ?_
  subst ex
  obtain rfl : u = Value.ref a := rx
  exact n_in hu I2 ha r hk ry fun s3 I3 => ⟨.bl _, H2, I3, rfl, q2⟩
theorem pc_ndnotin (hu : X.A.units + 64 < cLine) (hi : PE X i ty) (ho : PE X o td) : PC X .NotIn i o (tNNotIn X.prog X.w ty td) := by
  refine ⟨fun pins s σ H Q I h => ?_⟩
  refine thn (hi.run pins s σ H _ I h) fun iv s1 ⟨y, H1, I1, ry, q1⟩ => thn (ho.run pins s1 σ H1 _ I1 q1) fun u s2 ⟨x, H2, I2, rx, a, ob, l, k, ex, ha, r, hk, q2⟩ => ?_
  subst ex
  obtain rfl : u = Value.ref a := rx
  exact n_notIn hu I2 ha r hk ry fun s3 I3 => ⟨.bl _, H2, I3, rfl, q2⟩
theorem pe_ndget2 (hu : X.A.units + 64 < cLine) (ho : PE X o td) (he : PE X e ty) (hf : PE X f tx) (m : M2 X o "get" apos e f cpos) : PE X (.Call (.Attribute o "get" apos) [e, f] [] cpos) (tNGet2 X.prog X.w td ty tx) := by
  refine ⟨fun pins s σ H Q I h => ?_⟩
  refine wpAny_Call_method m.base m.few m.line PySem.F.plainAttrs_dict PySem.F.slot_dict_get PySem.F.type_dict_get (thn (ho.run pins s σ H _ I h) fun u s1 ⟨x, H1, I1, rx, a, ob, l, ex, ha, r, q1⟩ => ?_)
  subst ex
  obtain rfl : u = Value.ref a := rx
  obtain ⟨t1, t2⟩ := n_typeIs I1 ha r
  refine ⟨t1, t2, ?_⟩
  rw [m.trees]
  refine Calls.callWith_builtin rfl (Calls.evalArgs_plain (Calls.spliced_cons (thn (he.run pins s1 σ H1 _ I1 q1) fun iv s2 ⟨y, H2, I2, ry, q2⟩ =>
    Calls.spliced_cons (thn (hf.run pins s2 σ H2 _ I2 q2) fun fv s3 ⟨z, H3, I3, rz, k, d, ha3, r3, hk, ez, q3⟩ => Calls.spliced_nil ?_))))
  subst ez
  exact n_get2 (x := .int d) hu I3 ha3 r3 hk ry rz fun t s4 I4 => ⟨.int ((getN l k).getD d), H3, I4, ⟨t, rfl⟩, q3⟩
theorem ps_ndput (hu : X.A.units + 64 < cLine) (ho : PE X o td) (hi : PE X i ty) (hv : PE X value tv) (hs : swapsWith value (some (.Subscript o i pos')) pos.line X.env = pure false) :
    PS X (.Assign [.Subscript o i pos'] value pos) (sNPut X.prog X.w td ty tv) := by
  refine ⟨fun pins s σ H D I h => ?_⟩
  refine wpAny_Assign_Subscript (thn (hv.run pins s σ H _ I h) fun r s1 ⟨v, H1, I1, rv, q1⟩ => thn (ho.run pins s1 σ H1 _ I1 q1) fun u s2 ⟨x, H2, I2, rx, q2⟩ => thn (hi.run pins s2 σ H2 _ I2 q2) fun iv s3 ⟨y, H3, I3, ry, G, a, ob, l, k, n, ex, ha, sG, rr, hk, ev, hz, q3⟩ => ?_) hs
  subst ex ev
  obtain rfl : u = Value.ref a := rx
  exact n_setItem hu I3 ha sG rr hk ry rv hz fun ob' s4 r4 I4 => ⟨σ, _, I4, q3 ob' r4⟩
end
/-! ### what they yield -/
section
variable {P : Program} {w : World} {σ : St} {G H : Hp} {td ty tx tv : TE} {l : List (Pl × Int)} {k : Pl} {n d : Int} {a : Addr} {ob : Obj} {D : Ends} {tz : TS}
theorem en_nd : EvN (tNDNew P w) σ G (oPD P w []) := fun H s Q q p ob hp r => q p _ G _ (Ext.newH s hp) hp (s.free hp) upd_same ⟨ob, rfl, r G⟩
theorem EvN.nd {te : TE} (h : EvN te σ G (oPD P w l)) : EvP te σ G (rPD P w l) :=
  h.know fun p o G' s gn oo => by
    obtain ⟨ob, rfl, r⟩ := oo
    exact ⟨p, ob, rfl, upd_same, r.mono (Same.new gn)⟩
theorem ev_ndget (hd : EvP td σ G (rPD P w l)) (hk : EvP ty σ G (rPl k)) (g : getN l k = some n) : EvP (tNGet P w td ty) σ G (rI n) := fun H s Q q =>
  hd H s _ fun x G1 H1 e1 p1 => hk.mono e1.g H1 e1.s _ fun y G2 H2 e2 p2 => by
    obtain ⟨a, ob, rfl, ha, r⟩ := p1
    exact ⟨a, ob, l, k, n, rfl, e2.s _ _ (e2.g _ _ ha), (r.mono e2.g).mono e2.s, mn e2.s p2, g, q _ G2 H2 (e1.trans e2) rfl⟩
theorem ev_ndin (hk : EvP ty σ G (rPl k)) (hd : EvP td σ G (rPD P w l)) : EvP (tNIn P w ty td) σ G (rB (getN l k).isSome) := fun H s Q q =>
  hk H s _ fun y G1 H1 e1 p1 => hd.mono e1.g H1 e1.s _ fun x G2 H2 e2 p2 => by
    obtain ⟨a, ob, rfl, ha, r⟩ := p2
    exact ⟨a, ob, l, k, rfl, e2.s _ _ ha, r.mono e2.s, mn e2.s (mn e2.g p1), q _ G2 H2 (e1.trans e2) rfl⟩
theorem ev_ndnotin (hk : EvP ty σ G (rPl k)) (hd : EvP td σ G (rPD P w l)) : EvP (tNNotIn P w ty td) σ G (rB (!(getN l k).isSome)) := fun H s Q q =>
  hk H s _ fun y G1 H1 e1 p1 => hd.mono e1.g H1 e1.s _ fun x G2 H2 e2 p2 => by
    obtain ⟨a, ob, rfl, ha, r⟩ := p2
    exact ⟨a, ob, l, k, rfl, e2.s _ _ ha, r.mono e2.s, mn e2.s (mn e2.g p1), q _ G2 H2 (e1.trans e2) rfl⟩
/-- .. of one that may change -/
theorem ex_ndget2 (ha : H a = some (.ext (NObj a ob))) (r : NRep P w G a ob l) (s : Same G H) (hd : EvP td σ G (rV (.ref a))) (hk : EvP ty σ G (rPl k)) (hx : EvP tx σ G (rI d)) : EvX (tNGet2 P w td ty tx) σ G H (rI ((getN l k).getD d)) := fun Q q =>
  hd H s _ fun x G1 H1 e1 p1 => by
    cases (show x = .ref a from p1)
    refine ⟨a, ob, l, rfl, e1.h _ _ ha, (r.mono e1.g).mono e1.s, ?_⟩
    refine hk.mono e1.g H1 e1.s _ fun y G2 H2 e2 p2 => hx.mono (e1.g.trans e2.g) H2 e2.s _ fun z G3 H3 e3 p3 => ?_
    exact ⟨k, d, e3.h _ _ (e2.h _ _ (e1.h _ _ ha)), (((r.mono e1.g).mono e2.g).mono e3.g).mono e3.s, mn e3.s (mn e3.g p2), p3, q _ G3 H3 ((e1.trans e2).trans e3) rfl⟩
/-- d[k] = n -/
theorem xs_ndput (ha : H a = some (.ext (NObj a ob))) (r : NRep P w G a ob l) (hv : EvX tv σ G H (rI n)) (hd : EvP td σ G (rV (.ref a))) (hk : EvP ty σ G (rPl k)) (hz : l.length < sizeLine)
    (kk : ∀ ob' G' H', Ext G H G' H' → H' a = some (.ext (NObj a ob)) → NRep P w G' a ob' (putN l k n) → D.nx σ (upd H' a (.ext (NObj a ob')))) : sNPut P w td ty tv D σ H :=
  hv _ fun v G1 H1 e1 p1 => hd.mono e1.g H1 e1.s _ fun x G2 H2 e2 p2 => hk.mono (e1.g.trans e2.g) H2 e2.s _ fun y G3 H3 e3 p3 => by
    cases (show v = .int n from p1)
    cases (show x = .ref a from p2)
    have e := (e1.trans e2).trans e3
    exact ⟨G3, a, ob, l, k, n, rfl, e.h _ _ ha, e3.s, r.mono e.g, p3, rfl, hz, fun ob' r' => kk ob' G3 H3 e (e.h _ _ ha) r'⟩
end
end Eld
set_option maxRecDepth 100000
set_option maxHeartbeats 1000000
/-! Items of dicts from places to ints; comprehensions that make such dicts. -/
namespace Eld
open PySem PySem.Spec PyProof.Rows L2

/-- the pairs of the dict at d, each a new tuple -/
def Itn (d : Addr) (ob : Obj) (G : Hp) (l : List (Pl × Int)) : It :=
  ⟨fun i H => H d = some (.ext (NObj d ob)) ∧ Same G H ∧ i < l.length, fun i H x H' => ∃ T k n u, l[i]? = some (k, n) ∧ x = .ref T ∧ H T = none ∧ H' = upd H T (.tup [u, .int n]) ∧ rPl k u G, fun i H => H d = some (.ext (NObj d ob)) ∧ l.length ≤ i⟩
theorem turn_itemsN {P : Program} {w : World} {K : PySem.W.Frag} {elts : List Expr} {kk : Nat} {tpos : Pos} {d : Addr} {ob : Obj} {G : Hp} {l : List (Pl × Int)} {es : Array DictEntry} {ep : Nat} (it : Addr) (hod : ob.data = .dict es ep) (r : NRep P w G d ob l) :
    Turn P w K (.Tuple elts kk tpos) (Itn d ob G l) [it] it (fun i h => ∃ ok ov, IsItemIter h it d i es.size ep ok ov) where
  mem := by simp
  obj := fun i h st b hb => by
    have e : b = it := by simpa using hb
    subst e
    obtain ⟨ok, ov, e⟩ := st
    exact ⟨_, e, fun v z => nomatch z⟩
  keep := fun i h h' st k => let ⟨ok, ov, e⟩ := st; ⟨ok, ov, k it (by simp) _ e⟩
  item := by
    intro X hP hw hK hc i pins s σ H E I hf st hg
    subst hP hw hK
    obtain ⟨hd, sG, hi⟩ := hg
    obtain ⟨r1, r2, r3, r4, es', ep', xs, r5, r6, r7⟩ := r
    obtain ⟨rfl, rfl⟩ := dict_ep hod r5
    have hgd := inv_nd I hd
    have hsz : es'.size = xs.length := size_of_entries r6
    have hl : l.length = xs.length := NPair.length r7
    have hi' : i < es'.size := by omega
    obtain ⟨⟨k, n⟩, hkv⟩ : ∃ p, l[i]? = some p := ⟨l[i], List.getElem?_eq_getElem hi⟩
    obtain ⟨b, t, hx, hb⟩ := NPair.key r7 hkv
    have hen : es'[i]? = some (entryOfKey (nestedKind X.prog X.w) (nk k, b, .int n t)) := by rw [entry_at r6 i, hx]; rfl
    have hei : es'[i] = entryOfKey (nestedKind X.prog X.w) (nk k, b, .int n t) := by
      rw [Array.getElem?_eq_getElem hi'] at hen
      exact Option.some.inj hen
    obtain ⟨ok, ov, he⟩ := st
    have hlt : it < s.heap.objs.size := Heap.lt_size he
    refine wpAny_pyNext_items_item_raw he ⟨ob, hgd, r4, r5⟩ hi' fun h' ho hT hz hk => ?_
    rw [hei] at hT ho
    refine ⟨_, rfl, wpAny_letOwnedTupleGo_items (s := { s with heap := h' }) ho fun h'' he' sb => ?_⟩
    have hT2 : h''.get? s.heap.objs.size = some { cls := .type "tuple", data := .seq #[.ref b, .int n t] } := (sb.2 _ (Nat.ne_of_gt hlt)).trans hT
    have new : ObjOk X.prog X.w (upd H s.heap.objs.size (.tup [.ref b, .int n])) h'' s.heap.objs.size (.tup [.ref b, .int n]) :=
      ⟨by show 2 ≤ sizeLine; decide, [.ref b, .int n t], .cons rfl (.cons ⟨t, rfl⟩ .nil), ⟨_, hT2, rfl, _, rfl⟩⟩
    have I1 : Inv X pins σ (upd H s.heap.objs.size (.tup [.ref b, .int n])) { s with heap := h'' } :=
      I.turnedNew (t' := s.toks) (ch := [it]) (fun b ob hb e => (sb.2 b (by simpa using hb)).trans (hk b ob (by simpa using hb) e)) hf (Nat.le_refl _) new
    refine ⟨.ref s.heap.objs.size, _, I1, rfl, ⟨_, k, n, .ref b, hkv, rfl, I.hok.fresh (Nat.le_refl _), rfl, hb⟩, ⟨_, _, he'⟩, fun b hb => ?_⟩
    have e : b = it := by simpa using hb
    rw [e, upd_ne (Nat.ne_of_lt hlt)]
    exact (hf it (by simp)).1
  done := by
    intro X hP hw hK hc i pins s σ H E I hf st hg
    subst hP hw hK
    obtain ⟨hd, hi⟩ := hg
    obtain ⟨f0, f1, f2, f3, f4, f5⟩ := hf it (by simp)
    obtain ⟨r1, r2, r3, r4, es', ep', xs, r5, r6, r7⟩ := r
    obtain ⟨rfl, rfl⟩ := dict_ep hod r5
    have hgd := inv_nd I hd
    have hsz : es'.size = xs.length := size_of_entries r6
    have hl : l.length = xs.length := NPair.length r7
    obtain ⟨ok, ov, he⟩ := st
    exact wpAny_pyNext_items_end_raw (I.ok.hd hc) he ⟨ob, hgd, r4, r5⟩ (by omega) fun h' eb => ⟨rfl, I.turned (t' := s.toks) (fun b ob hb e => eb b ob hb e) f0 f1 f3 f4 f5⟩
  self := fun A i s Q E st h => let ⟨_, _, e⟩ := st; PySem.W.kcp_self e h
def iItemsN (P : Program) (w : World) (td : TE) : TI := fun σ H R => td σ H fun x H1 => ∃ d ob G l, x = .ref d ∧ H1 d = some (.ext (NObj d ob)) ∧ NRep P w G d ob l ∧ R (Itn d ob G l) H1
theorem pi_itemsN {X : Cx} {e : Expr} {td : TE} {apos cpos tpos : Pos} {elts : List Expr} {kk : Nat} (he : PE X e td) (hbase : attributeBase e "items" X.env (eval e X.env) = eval e X.env := by rfl) (hline : (apos.endLine == cpos.line) = true := by rfl) :
    PI X (.Tuple elts kk tpos) (.Call (.Attribute e "items" apos) [] [] cpos) (iItemsN X.prog X.w td) := by
  refine ⟨fun pins s σ H R I h => ?_⟩
  refine wpAny_Call_method (T := "dict") (id := "dict.items") hbase rfl hline F.plainAttrs_dict F.slot_dict_items F.type_dict_items (thn (he.run pins s σ H _ I h) fun u s1 ⟨x, H1, I1, rx, d, ob, G, l, ex, hd, r, q⟩ => ?_)
  subst ex
  obtain rfl : u = Value.ref d := rx
  obtain ⟨r1, r2, r3, r4, es, ep, xs, r5, r6, r7⟩ := id r
  have hgd := inv_nd I1 hd
  have hraw : s1.heap.DictRaw d es ep := ⟨ob, hgd, r4, r5⟩
  refine ⟨hraw.typeIs, fun b q => by cases q; exact ⟨ob, hgd, r4.2.1⟩, ?_⟩
  have I2 : Inv X pins σ H1 { s1 with heap := s1.heap.push { cls := .type "dict_items", data := .fields #[.ref d] } } := I1.kept (t' := s1.toks) fun b ob q => Heap.get?_push_of_some _ q
  have fin : wpAny (model X.prog X.w) X.A (pyIter (.ref s1.heap.objs.size)) (PIE X pins σ (.Tuple elts kk tpos) R) X.xe { s1 with heap := s1.heap.push { cls := .type "dict_items", data := .fields #[.ref d] } } := by
    refine wpAny_pyIter_items_raw (d := d) ⟨_, Heap.get?_push_size _ rfl, rfl, rfl⟩ (hraw.at fun o e => Heap.get?_push_of_some _ e) (pi_one (tk := s1.toks) I2 _ (turn_itemsN _ r5 r) ⟨.none, .none, ?_⟩ q)
    exact Heap.get?_push_size _ rfl
  show wpAny _ _ (callWith cpos (.builtin "dict.items") [.ref d] [] []) _ X.xe s1
  exact method_meetsIn F.slot_dict_items F.entry_dict_items rfl (PySem.evalArgs_none ⟨rfl, hraw.typeIs, F.args_dict_items_1 _, _, meets_dict_items_raw d r1, ⟨es, ep, hraw⟩, fin⟩)
section
variable {P : Program} {w : World} {σ : St} {G H : Hp} {td : TE} {l : List (Pl × Int)}
theorem ei_itemsN (h : EvP td σ G (rPD P w l)) : EvI (iItemsN P w td) σ G (r2 rPl rI) l := fun H s Rr k =>
  h H s _ fun v G1 H1 e p => by
    obtain ⟨a, ob, rfl, ha, r⟩ := p
    refine ⟨a, ob, G1, l, rfl, e.s _ _ ha, r, k _ G1 H1 e ⟨fun i H hi s => ⟨s _ _ ha, s, hi⟩, fun H s => ⟨s _ _ ha, Nat.le_refl _⟩, fun i d G' H' x H'' hd s s' y => ?_⟩⟩
    obtain ⟨T, k, n, u, hk, rfl, hT, rfl, hu⟩ := y
    rw [hd] at hk
    cases hk
    have hT' : G' T = none := s'.free hT
    exact ⟨upd G' T (.tup [u, .int n]), Ext.new s' hT, T, u, .int n, rfl, upd_same, mn (s.trans (Same.new hT')) hu, rfl⟩
end
/-! ### {k: v for ..} whose keys are places -/
/-- the new dict D: it stands as ob -/
def tDcN (P : Program) (w : World) (wi : TI) (g : TG) (tt : TT) (tk tv : TE) (vs : List Nat) : TE := fun σ H Q => wi σ H fun J H1 => ∀ D ob0, H1 D = none → (∀ G, NRep P w G D ob0 []) → ∃ W : Nat → Nat → Hp → Prop, (∃ m, W 0 m (upd H1 D (.ext (NObj D ob0)))) ∧ ∀ i m H, W i m H →
  (J.stop i H ∧ Q (.ref D) H) ∨ (J.go i H ∧ ∃ Nx : Hp → Prop, (∀ H', Nx H' → ∃ m', m' < m ∧ W (i + 1) m' H') ∧ ∀ x H', J.yld i H x H' → g x (wipe σ vs) H' fun σ2 H2 => wipe σ2 vs = wipe σ vs ∧ tt σ2 H2 fun b H3 =>
    if b = true then tk σ2 H3 fun y H4 => tv σ2 H4 fun z H5 => ∃ G ob l k n, H5 D = some (.ext (NObj D ob)) ∧ Same G H5 ∧ NRep P w G D ob l ∧ rPl k y G ∧ z = .int n ∧ l.length < sizeLine ∧ ∀ ob', NRep P w G D ob' (putN l k n) → Nx (upd H5 D (.ext (NObj D ob'))) else Nx H3)
section
variable {X : Cx}
theorem dcN_core {pins : List (Addr × Obj)} {s : Shared} {σ : St} {H : Hp} {Q : VK} {kx vx tg iter : Expr} {ifs : List Expr} {scope : Scope} {own : List (Str × Nat)} {pos pos' : Pos} {wi : TI} {g : TG} {tt : TT} {tk tv : TE} {use : Option (Value → Sem Unit)} {Qf : Value → Shared → Prop}
    (hu : X.A.units + 64 < cLine) (hc : X.calm = true) (hN : X.N.Nodup) (I : Inv X pins σ H s) (hi : PI X tg iter wi) (ok : BlkOk X.N X.env.scope scope own)
    (hg : ∀ (s : Shared) (H : Hp) (C : Addr) (cl : List (Str × Addr)) (fp : List Addr), PG (X.blk s H scope (compEnvC scope cl C X.env) fp) tg g) (ht : ∀ (s : Shared) (H : Hp) (C : Addr) (cl : List (Str × Addr)) (fp : List Addr), PTs (X.blk s H scope (compEnvC scope cl C X.env) fp) ifs tt)
    (hk : ∀ (s : Shared) (H : Hp) (C : Addr) (cl : List (Str × Addr)) (fp : List Addr), PE (X.blk s H scope (compEnvC scope cl C X.env) fp) kx tk)
    (he : ∀ (s : Shared) (H : Hp) (C : Addr) (cl : List (Str × Addr)) (fp : List Addr), PE (X.blk s H scope (compEnvC scope cl C X.env) fp) vx tv) (hs : ∀ x, foldedSetIterable iter X.env x = pure x)
    (h : tDcN X.prog X.w wi g tt tk tv (own.map (·.2)) σ H Q)
    (hRR : ∀ D C s' m H', Inv X pins σ H' s' → Q (.ref D) H' → s'.heap.Ns C m → FpOk X pins H' C → compPost (model X.prog X.w) X.A X.xe use Qf (.ref D) C (.ok .next) s') :
    wpAny (model X.prog X.w) X.A (comprehension (.DictComp kx vx [⟨tg, iter, ifs, 0⟩] scope pos) scope X.env pos' newDict false (eval iter X.env) use) Qf X.xe s := by
  have hfree : ∀ y ∈ scope.names, y.2 = .free → ∃ c, X.env.cells.lookup y.1 = some c := fun y hy e => by
    rcases ok.free y hy e with k | k
    · exact I.ok.has _ (.inl k)
    · exact I.ok.has _ (.inr k)
  refine wpAny_comprehension_free (use := use) rfl hs (closure_ok hfree) ok.kind (fun y hy e => by rw [ok.uniq y hy, e])
    (thn (hi.run pins s σ H _ I h) fun xv s1 hx => thn hx fun itv s2 h2 => ?_)
  obtain ⟨it, fp, tn, J, H2, e, I2, T, st2, f2, q⟩ := h2
  subst e
  refine wpAny_newObj_type (newEnv_comp ?_)
  generalize hD : s2.heap.objs.size = D
  have hDn : H2 D = none := I2.hok.fresh (Nat.le_of_eq hD)
  obtain ⟨W, ⟨m0, w0⟩, turn⟩ := q D { cls := .type "dict", data := .dict #[] } hDn (fun G => by rw [← hD]; exact n_empty I2.big)
  generalize hs3 : ({ s2 with heap := s2.heap.push { cls := .type "dict", data := .dict #[] } } : Shared) = s3
  have I3 : Inv X pins σ (upd H2 D (.ext (NObj D { cls := .type "dict", data := .dict #[] }))) s3 := by
    rw [← hs3]
    refine I2.laid (t' := s2.toks) (fun b o e => Heap.get?_push_of_some _ e) (Nat.le_of_eq hD) ?_
    rw [← hD]
    exact nobj_ok (Heap.get?_push_size _ rfl)
  generalize hO : HO.ext (NObj D { cls := .type "dict", data := .dict #[] }) = O0 at I3 w0
  have h3 : s3.heap = s2.heap.push { cls := .type "dict", data := .dict #[] } := by rw [← hs3]
  have sz : ∀ b ∈ fp, b < s2.heap.objs.size := fun b hb => by
    obtain ⟨o, e, _⟩ := T.obj _ _ st2 b hb
    exact Heap.lt_size e
  have f3 : ∀ b ∈ fp, FpOk X pins (upd H2 D O0) b ∧ b < s3.heap.objs.size := fun b hb => by
    have hlt := sz b hb
    refine ⟨⟨?_, (f2 b hb).2⟩, by rw [h3, Heap.size_push]; exact Nat.lt_succ_of_lt hlt⟩
    rw [upd_ne (by rw [← hD]; exact Nat.ne_of_lt hlt)]
    exact (f2 b hb).1
  have st3 : tn 0 s3.heap := T.keep _ _ _ st2 fun b _ o e => by rw [h3]; exact Heap.get?_push_of_some _ e
  have I4 := block_start I3 ok hN f3
  have pg := hg s3 (upd H2 D O0) s3.heap.objs.size (cellsFrom (s3.heap.objs.size + 1) scope.names (cloFrom X.env.cells scope.names [])) fp
  have pt := ht s3 (upd H2 D O0) s3.heap.objs.size (cellsFrom (s3.heap.objs.size + 1) scope.names (cloFrom X.env.cells scope.names [])) fp
  have pk := hk s3 (upd H2 D O0) s3.heap.objs.size (cellsFrom (s3.heap.objs.size + 1) scope.names (cloFrom X.env.cells scope.names [])) fp
  have pe := he s3 (upd H2 D O0) s3.heap.objs.size (cellsFrom (s3.heap.objs.size + 1) scope.names (cloFrom X.env.cells scope.names [])) fp
  show codeAny _ _ (.compStart (.DictComp kx vx [⟨tg, iter, ifs, 0⟩] scope pos) 0 (.ref it) (.ref D) (compEnvC scope (cellsFrom (s3.heap.objs.size + 1) scope.names (cloFrom X.env.cells scope.names [])) s3.heap.objs.size X.env)) (compPost (model X.prog X.w) X.A X.xe use Qf (.ref D) s3.heap.objs.size) { s3 with heap := pushCells (s3.heap.push { cls := .type "dict", data := .dict #[] }) scope.names }
  have nfp : ∀ b ∈ fp, (upd H2 D O0) b = none := fun b hb => (f3 b hb).1.1
  generalize hce : compEnvC scope (cellsFrom (s3.heap.objs.size + 1) scope.names (cloFrom X.env.cells scope.names [])) s3.heap.objs.size X.env = ce at I4 pg pt pk pe ⊢
  have cL : ce.locals = s3.heap.objs.size := by subst hce; rfl
  generalize hH3 : upd H2 D O0 = H3 at I3 I4 pg pt pk pe w0 nfp f3
  generalize hs4 : ({ s3 with heap := pushCells (s3.heap.push { cls := .type "dict", data := .dict #[] }) scope.names } : Shared) = s4 at I4 ⊢
  have st4 : tn 0 s4.heap := T.keep _ _ _ st3 fun b _ o e => by rw [← hs4]; exact pushCells_keeps _ _ _ _ (Heap.get?_push_of_some _ e)
  have stat : ∀ {σ' : St} {H' : Hp} {s' : Shared}, Inv (X.blk s3 H3 scope ce fp) [] σ' H' s' → (∀ b ∈ fp, H' b = none) → ∀ b ∈ fp, FpOk (X.blk s3 H3 scope ce fp) [] H' b := fun {σ' H' s'} I' hn b hb =>
    ⟨hn b hb, (I'.ok.exf b hb).1, I'.ok.exfs b hb, .inl hb, fun x c e => (I'.ok.exf b hb).2 x c e, fun p hp => absurd (show p ∈ ([] : List (Addr × Obj)) ++ [] from hp) (by simp)⟩
  have loop : codeAny (model X.prog X.w) X.A (.compLoop (.DictComp kx vx [⟨tg, iter, ifs, 0⟩] scope pos) 0 (.ref it) (.ref D) ce) (compPost (model X.prog X.w) X.A X.xe use Qf (.ref D) s3.heap.objs.size) s4 := by
    refine compLoop_anyD (fun n s' => ∃ i H', Inv (X.blk s3 H3 scope ce fp) [] (wipe σ (own.map (·.2))) H' s' ∧ tn i s'.heap ∧ (∀ b ∈ fp, H' b = none) ∧ W i n H') ?_ m0 ⟨0, H3, I4, st4, nfp, w0⟩
    rintro n s5 ⟨i, H5, I5, st5, n5, w5⟩
    rcases turn i n H5 w5 with ⟨stop, qq⟩ | ⟨go, Nx, hNx, step⟩
    · have td := T.done (X.blk s3 H3 scope ce fp) rfl rfl rfl hc i [] s5 _ H5 (fun _ _ => False) I5 (stat I5 n5) st5 stop
      refine thnF td fun r s6 ⟨hr, I6⟩ => ?_
      subst hr
      have I7 : Inv X pins σ H5 s6 := I3.call' (ch := fp) I6.os I6.base I6.hok I6.bare fun b hb => ⟨(f3 b hb).1.2.2.2.1, (f3 b hb).1.2.1, (f3 b hb).1.2.2.2.2.1, (f3 b hb).1.2.2.2.2.2⟩
      have nC : H5 s3.heap.objs.size = none := by
        have z : H5 ce.locals = none := I6.free
        rw [cL] at z
        exact z
      obtain ⟨m, hn, _⟩ := I6.loc
      have hn : s6.heap.Ns ce.locals m := hn
      rw [cL] at hn
      exact hRR D s3.heap.objs.size s6 m H5 I7 qq hn (I3.fpOk (Nat.le_refl _) nC)
    · have ti := T.item (X.blk s3 H3 scope ce fp) rfl rfl rfl hc i [] s5 _ H5 (fun _ _ => False) I5 (stat I5 n5) st5 go
      refine thnF ti fun r s6 ⟨u, hr, h6⟩ => ?_
      subst hr
      refine thnF h6 fun _ s7 ⟨x, H7, I7, r7, y7, st7, n7⟩ => ?_
      have I7' := I7.pinned (stat I7 n7) (T.obj _ _ st7)
      refine thnF (pg.run _ s7 _ H7 x u _ I7' r7 (step x H7 y7)) fun _ s8 ⟨σ8, H8, I8, hw8, q8⟩ => ?_
      refine thnF (pt.run _ s8 σ8 H8 _ I8 q8) fun b s9 ⟨H9, I9, q9⟩ => ?_
      have fin : ∀ {s' : Shared} {H' : Hp}, Inv (X.blk s3 H3 scope ce fp) ([] ++ pinsAt fp s7.heap) σ8 H' s' → Nx H' → ∃ m, m < n ∧ ∃ i H', Inv (X.blk s3 H3 scope ce fp) [] (wipe σ (own.map (·.2))) H' s' ∧ tn i s'.heap ∧ (∀ b ∈ fp, H' b = none) ∧ W i m H' := fun {s' H'} I' nx => by
        obtain ⟨m', hm, w'⟩ := hNx H' nx
        have pin' : ∀ b ∈ fp, ∀ o, s7.heap.get? b = some o → s'.heap.get? b = some o ∧ H' b = none := fun b hb o e =>
          let z := I'.pin (b, o) (List.mem_append_right _ (List.mem_append_right _ (mem_pinsAt hb e)))
          ⟨z.1, z.2.1⟩
        have hl : (wipe σ (own.map (·.2))).length = σ8.length := by rw [← hw8, wipe_length]
        refine ⟨m', hm, i + 1, H', (I'.unpinned (pins := [])).weak hl (fun j v e => ?_), T.keep _ _ _ st7 fun b hb o e => (pin' b hb o e).1, fun b hb => ?_, w'⟩
        · rw [← hw8] at e
          exact (wipe_some e).1
        · obtain ⟨o, e, _⟩ := T.obj _ _ st7 b hb
          exact (pin' b hb o e).2
      cases b with
      | false =>
        simp only [Bool.false_eq_true, if_false] at q9 ⊢
        exact fin I9 q9
      | true =>
        simp only [if_true] at q9 ⊢
        refine thnF (pk.run _ s9 σ8 H9 _ I9 q9) fun z s10 ⟨yk, H10, I10, r10, q10⟩ => ?_
        refine thnF (pe.run _ s10 σ8 H10 _ I10 q10) fun z2 s11 ⟨yv, H11, I11, r11, Gk, ob, l, k, n, hD11, sG, rr, hk11, ez, hz11, nx⟩ => ?_
        subst ez
        exact n_dictSet (X := X.blk s3 H3 scope ce fp) hu I11 hD11 sG rr hk11 r10 r11 hz11 fun ob' s12 r12 I12 => fin I12 (nx ob' r12)
  exact codeAny_compStart_dict loop (T.self X.A 0 _ _ _ st4 loop)
theorem pe_dcN {kx vx tg iter : Expr} {ifs : List Expr} {scope : Scope} {own : List (Str × Nat)} {pos : Pos} {wi : TI} {g : TG} {tt : TT} {tk tv : TE} (hu : X.A.units + 64 < cLine) (hc : X.calm = true) (hN : X.N.Nodup) (hi : PI X tg iter wi) (ok : BlkOk X.N X.env.scope scope own)
    (hg : ∀ (s : Shared) (H : Hp) (C : Addr) (cl : List (Str × Addr)) (fp : List Addr), PG (X.blk s H scope (compEnvC scope cl C X.env) fp) tg g) (ht : ∀ (s : Shared) (H : Hp) (C : Addr) (cl : List (Str × Addr)) (fp : List Addr), PTs (X.blk s H scope (compEnvC scope cl C X.env) fp) ifs tt)
    (hk : ∀ (s : Shared) (H : Hp) (C : Addr) (cl : List (Str × Addr)) (fp : List Addr), PE (X.blk s H scope (compEnvC scope cl C X.env) fp) kx tk)
    (he : ∀ (s : Shared) (H : Hp) (C : Addr) (cl : List (Str × Addr)) (fp : List Addr), PE (X.blk s H scope (compEnvC scope cl C X.env) fp) vx tv) (hs : ∀ x, foldedSetIterable iter X.env x = pure x := by intro _; rfl) :
    PE X (.DictComp kx vx [⟨tg, iter, ifs, 0⟩] scope pos) (tDcN X.prog X.w wi g tt tk tv (own.map (·.2))) := by
  refine ⟨fun pins s σ H Q I h => ?_⟩
  rw [arm_eval_DictComp]
  refine dcN_core hu hc hN I hi ok hg ht hk he hs h fun D C s' m H' I' q hn f => ⟨m, hn, fun h'' sb => ?_⟩
  obtain ⟨f0, f1, f2, f3, f4, f5⟩ := f
  exact ⟨.ref D, H', I'.turned (t' := s'.toks) (fun b o hb e => (sb.2 b hb).trans e) f0 f1 f3 f4 f5, rfl, q⟩
end
section
variable {P : Program} {w : World} {σ : St} {G H : Hp} {tk tv : TE} {tt : TT} {wi : TI} {g : TG} {δ : Type}
/-- no key twice -/
theorem en_dcN {R : δ → V → Hp → Prop} {ds : List δ} {vs : List Nat} (b : δ → Bool) (kf : δ → Pl) (vf : δ → Int) (hi : EvI wi σ G R ds) (hz : ds.length < sizeLine) (nd : (ds.map kf).Nodup)
    (hs : ∀ d v G', d ∈ ds → Same G G' → R d v G' → ∃ σ', EvG g v (wipe σ vs) G' σ' ∧ wipe σ' vs = wipe σ vs ∧ EvT tt σ' G' (b d) ∧ (b d = true → EvP tk σ' G' (rPl (kf d)) ∧ EvP tv σ' G' (rI (vf d)))) :
    EvN (tDcN P w wi g tt tk tv vs) σ G (oPD P w ((ds.filter b).map fun d => (kf d, vf d))) := fun H s Q q =>
  hi H s _ fun Jt G1 H1 e1 w1 Dl ob0 hD r0 => by
    have gD : G1 Dl = none := e1.s.free hD
    refine ⟨fun i m H' => m = ds.length - i ∧ i ≤ ds.length ∧ ∃ G' ob, Same G1 G' ∧ Same H1 H' ∧ Same G' H' ∧ (∀ b, H1 b ≠ none → G1 b = none → G' b = none) ∧ G' Dl = none ∧ H' Dl = some (.ext (NObj Dl ob)) ∧ NRep P w G' Dl ob (((ds.take i).filter b).map fun d => (kf d, vf d)),
      ⟨ds.length, by simp, Nat.zero_le _, G1, ob0, Same.refl _, Same.new hD, e1.s.trans (Same.new hD), fun _ _ gb => gb, gD, upd_same, r0 G1⟩, ?_⟩
    rintro i m H' ⟨rfl, hi, G', ob, a1, a2, a3, a4, a5, a6, a7⟩
    by_cases hlt : i < ds.length
    · refine .inr ⟨w1.go i H' hlt (a1.trans a3), fun H' => ∃ G' ob, Same G1 G' ∧ Same H1 H' ∧ Same G' H' ∧ (∀ b, H1 b ≠ none → G1 b = none → G' b = none) ∧ G' Dl = none ∧ H' Dl = some (.ext (NObj Dl ob)) ∧ NRep P w G' Dl ob (((ds.take (i + 1)).filter b).map fun d => (kf d, vf d)),
        fun H2 l => ⟨ds.length - (i + 1), by omega, rfl, hlt, l⟩, fun x H2 y => ?_⟩
      obtain ⟨G2, e2, r⟩ := w1.yld i ds[i] G' H' x H2 (List.getElem?_eq_getElem hlt) a1 a3 y
      obtain ⟨σ2, eg, hw, ht, he⟩ := hs ds[i] x G2 (List.getElem_mem hlt) (e1.g.trans (a1.trans e2.g)) r
      refine eg H2 e2.s _ ⟨hw, ht H2 e2.s _ fun G3 H3 e3 => ?_⟩
      have e23 := e2.trans e3
      cases hb : b ds[i] with
      | true =>
        rw [if_pos rfl]
        obtain ⟨hk, hv⟩ := he hb
        refine hk.mono e3.g H3 e3.s _ fun kk G4 H4 e4 p4 => ?_
        refine hv.mono (e3.g.trans e4.g) H4 e4.s _ fun v G5 H5 e5 p5 => ?_
        have e25 := (e23.trans e4).trans e5
        have gn5 : G5 Dl = none := e25.f Dl (by rw [a6]; exact fun z => nomatch z) a5
        have kl : (((ds.take i).filter b).map fun d => (kf d, vf d)).length < sizeLine := by
          rw [List.length_map]
          have h2 := List.length_filter_le b (ds.take i)
          rw [List.length_take] at h2
          omega
        have kn : getN (((ds.take i).filter b).map fun d => (kf d, vf d)) (kf ds[i]) = none := by
          refine getN_none ?_
          rw [List.map_map]
          intro m
          obtain ⟨d, hd, ed⟩ := List.mem_map.mp m
          have ed : kf d = kf ds[i] := ed
          have hd' := (List.mem_filter.mp hd).1
          obtain ⟨j, hj, ej⟩ := List.getElem_of_mem hd'
          have hj2 : j < i := by rw [List.length_take] at hj; omega
          rw [List.getElem_take] at ej
          have : (ds.map kf)[j]'(by rw [List.length_map]; omega) = (ds.map kf)[i]'(by rw [List.length_map]; exact hlt) := by
            rw [List.getElem_map, List.getElem_map, ej, ed]
          have := (List.getElem_inj nd).mp this
          omega
        refine ⟨G5, ob, _, kf ds[i], vf ds[i], e25.h _ _ a6, e5.s, a7.mono e25.g, mn e5.g p4, p5, kl, fun ob' r' => ?_⟩
        refine ⟨G5, ob', a1.trans e25.g, fun b' o q => ?_, fun b' o q => ?_, fun b' hb gb => e25.f b' (same_ne a2 hb) (a4 b' hb gb), gn5, upd_same, ?_⟩
        · rw [upd_ne (ne_of_none q hD)]; exact e25.h _ _ (a2 _ _ q)
        · rw [upd_ne (ne_of_none q gn5)]; exact e25.s _ _ q
        · rw [take_snoc hlt, List.filter_append, List.filter_cons, if_pos hb, List.map_append]
          rw [putN_new _ kn] at r'
          exact r'
      | false =>
        rw [if_neg Bool.false_ne_true]
        refine ⟨G3, ob, a1.trans e23.g, fun b' o q => e23.h _ _ (a2 _ _ q), e23.s, fun b' hb gb => e23.f b' (same_ne a2 hb) (a4 b' hb gb), e23.f Dl (by rw [a6]; exact fun z => nomatch z) a5, e23.h _ _ a6, ?_⟩
        rw [take_snoc hlt, List.filter_append, List.filter_cons, if_neg (by rw [hb]; exact Bool.false_ne_true), List.map_append]
        show NRep P w G3 Dl ob (_ ++ [])
        rw [List.append_nil]
        exact a7.mono e23.g
    · have e : i = ds.length := by omega
      subst e
      rw [List.take_length] at a7
      exact .inl ⟨w1.stop H' (a1.trans a3), q Dl _ G' H' ⟨e1.g.trans a1, e1.h.trans a2, a3, fun b hb gb => a4 b (same_ne e1.h hb) (e1.f b hb gb)⟩ (e1.h.free hD) a5 a6 ⟨ob, rfl, a7⟩⟩
end
end Eld
set_option maxRecDepth 100000
set_option maxHeartbeats 2000000
/-! More built-ins: d.copy(), d.update({}), list(text), dict(tuple of pairs), enumerate(tuple). -/
namespace Eld
open PySem PySem.Spec PyProof.Rows L2
section
variable {X : Cx}
/-- d.copy(): keys ints and texts -/
def rCopyK : V → List V → Hp → VK → Prop := fun x vs H Q => ∃ a kvs, x = .ref a ∧ vs = [] ∧ H a = some (.dK kvs) ∧ ∀ p, H p = none → Q (.ref p) (upd H p (.dK kvs))
theorem mt_copyK : MtR X "dict.copy" rCopyK := by
  intro pins s σ H x vs v us Q I rx rv h
  obtain ⟨a, kvs, rfl, rfl, ha, q⟩ := h
  cases rx
  cases rv
  obtain ⟨z, hd, vs', rel, dd⟩ := dk_of I.hok ha
  refine call_meetsIn F.slot_dict_copy dd.typeIs F.entry_dict_copy (F.args_dict_copy_1 _) (meets_dict_copy (mixKind X.prog X.w) a hd) ⟨vs', dd, by rw [← rel.length]; exact z, fun h' d' _ k => ?_⟩
  have hm : (s.heap.objs.size == sysModules) = false := beq_eq_false_iff_ne.mpr (Nat.ne_of_gt I.big)
  exact ⟨.ref s.heap.objs.size, _, I.laid (t' := s.toks) k (Nat.le_refl _) (show ObjOk X.prog X.w _ _ _ (.dK kvs) from ⟨z, hm, vs', rel, d'⟩), rfl, q _ (I.hok.fresh (Nat.le_refl _))⟩
/-- {}.copy(), to be a dict from places -/
def rCopyE (P : Program) (w : World) : V → List V → Hp → VK → Prop := fun x vs H Q => ∃ a, x = .ref a ∧ vs = [] ∧ H a = some (.dK []) ∧ ∀ p ob, H p = none → (∀ G, NRep P w G p ob []) → Q (.ref p) (upd H p (.ext (NObj p ob)))
theorem mt_copyE : MtR X "dict.copy" (rCopyE X.prog X.w) := by
  intro pins s σ H x vs v us Q I rx rv h
  obtain ⟨a, rfl, rfl, ha, q⟩ := h
  cases rx
  cases rv
  obtain ⟨z, hd, vs', rel, dd⟩ := dk_of I.hok ha
  cases rel
  obtain ⟨es, ep, hr, hs, _⟩ := dd.raw
  have hs0 : es.size = 0 := hs
  have he : es = #[] := Array.eq_empty_of_size_eq_zero hs0
  subst he
  refine call_copy_raw hd hr (Nat.zero_le _) (fun e he => nomatch he) fun h' hr' k => ?_
  obtain ⟨o, ho, hc, hdat⟩ := hr'
  have hm : (s.heap.objs.size == sysModules) = false := beq_eq_false_iff_ne.mpr (Nat.ne_of_gt I.big)
  exact ⟨.ref s.heap.objs.size, _, I.laid (t' := s.toks) k (Nat.le_refl _) (nobj_ok ho), rfl, q _ o (I.hok.fresh (Nat.le_refl _)) fun G => ⟨hm, Nat.zero_le _, List.nodup_nil, hc, #[], 0, [], hdat, rfl, .nil⟩⟩
/-- d.update(e), e empty -/
def rUpdE (P : Program) (w : World) : V → List V → Hp → VK → Prop := fun x vs H Q => ∃ G a ob l b ob0, x = .ref a ∧ vs = [.ref b] ∧ H a = some (.ext (NObj a ob)) ∧ Same G H ∧ NRep P w G a ob l ∧ a ≠ b ∧ H b = some (.ext (NObj b ob0)) ∧ NRep P w H b ob0 [] ∧
  ∀ ob', NRep P w G a ob' l → Q .non (upd H a (.ext (NObj a ob')))
theorem mt_updE (hu : X.A.units + 64 < cLine) : MtR X "dict.update" (rUpdE X.prog X.w) := by
  intro pins s σ H x vs v us Q I rx rv h
  obtain ⟨G, a, ob, l, b, ob0, rfl, rfl, ha, sG, r, hab, hb, r0, q⟩ := h
  cases rx
  obtain ⟨u, rfl, ru⟩ := vals1 rv
  cases ru
  obtain ⟨xs, np, hm⟩ := r.of2 sG I.hok (inv_nd I ha)
  obtain ⟨ys, np0, hm0⟩ := r0.of I.hok (inv_nd I hb)
  cases np0
  refine call_update_dictH (knd := nestedKind X.prog X.w) (show X.A.units + 1 + 8 < cLine by omega) hab r0.1 hm hm0 (.inr ⟨(fun x hx => by cases hx), List.nodup_nil⟩) (by rw [← np.length]; exact r.2.1) fun h' hd' _ hs => ?_
  obtain ⟨o, es, ep, h1, h2, h3, h4, _, _⟩ := hd'
  have r' : NRep X.prog X.w G a o l := ⟨r.1, r.2.1, r.2.2.1, h2, es, ep, xs, h3, h4, np⟩
  exact ⟨.non, _, d_write (t' := s.toks) I (by rw [ha]; exact True.intro) hs ⟨o, h1⟩ (nobj_ok h1), rfl, q o r'⟩
/-- list(text) -/
theorem call_list_strH (hc : X.calm = true) : CallR X (.type "list") (fun xs H Q => ∃ x : Str, xs = [.str x] ∧ x.length ≤ sizeLine ∧ ∀ p, H p = none → Q (.ref p) (upd H p (.lst ((Eld.signs x).map V.str)))) := by
  intro pins s σ H xs us Q I r h
  obtain ⟨x, rfl, hl, q⟩ := h
  obtain ⟨u, rfl, ru⟩ := vals1 r
  obtain ⟨t, rfl⟩ := ru
  refine PySem.call_list_str (hn := hl) (I.ok.hd hc) x t fun h' tk acc' c' hk hS' hacc => ?_
  have hv : Vals ((Eld.signs x).map V.str) acc'.toList := by
    have key : ∀ (l : List Nat) (as : List Value), l.length = as.length → (∀ (j : Nat) v, as[j]? = some v → ∃ (c : Nat) (u : Tok), l[j]? = some c ∧ v = Value.str ⟨#[c]⟩ u) → Vals ((l.map fun c => (⟨#[c]⟩ : Str)).map V.str) as := by
      intro l
      induction l with
      | nil =>
        intro as e _
        cases as with
        | nil => exact .nil
        | cons _ _ => cases e
      | cons c l ih =>
        intro as e hs
        cases as with
        | nil => cases e
        | cons v as =>
          obtain ⟨c', u, h1, h2⟩ := hs 0 v rfl
          have h1 : c = c' := Option.some.inj h1
          subst h1 h2
          exact .cons ⟨u, rfl⟩ (ih as (by simpa using e) fun j v hv => hs (j + 1) v hv)
    refine key x.cps.toList acc'.toList (by simp [hacc.1]) fun j v hv => ?_
    obtain ⟨c, u, hc, rfl⟩ := hacc.2 j v (by simpa using hv)
    exact ⟨c, u, by simpa using hc, rfl⟩
  refine ⟨.ref s.heap.objs.size, _, I.laid (t' := tk) hk (Nat.le_refl _) (show ObjOk X.prog X.w _ _ _ (.lst ((Eld.signs x).map V.str)) from ⟨by rw [List.length_map, Eld.signs_len]; exact hl, acc'.toList, c', hv, by simpa using hS'⟩), rfl, q _ (I.hok.fresh (Nat.le_refl _))⟩
/-- a tuple that stands as it is laid -/
def tTupZ (t : TA) : TE := fun σ H Q => t σ H fun xs H1 => xs.length ≤ sizeLine ∧ ∀ p ob, H1 p = none → ob.dict = none → Q (.ref p) (upd H1 p (.frz ob (.tup xs)))
theorem pe_tupZ {es : List Expr} {t : TA} {x1 : Nat} {pos : Pos} (h : PA X es t) : PE X (.Tuple es x1 pos) (tTupZ t) := by
  refine ⟨fun pins s σ H Q I hq => ?_⟩
  refine wpAny_Tuple_spliced (thn (h.run pos pins s σ H _ I hq) fun us s1 ⟨xs, H1, I1, r, z, q⟩ => ⟨by rw [← r.length]; exact z, ?_⟩)
  have hf : H1 s1.heap.objs.size = none := I1.hok.fresh (Nat.le_refl _)
  refine ⟨.ref s1.heap.objs.size, upd H1 s1.heap.objs.size (.frz { cls := .type "tuple", data := .seq us.toArray } (.tup xs)), I1.laid (t' := s1.toks) (fun b u e => Heap.get?_push_of_some _ e) (Nat.le_refl _) ?_, rfl, q _ _ hf rfl⟩
  exact ⟨Heap.get?_push_size _ rfl, z, us, r, ⟨_, Heap.get?_push_size _ rfl, rfl, _, rfl⟩⟩
/-- dict(((k, v),)), the tuple as it was laid -/
theorem call_dictZ (hcalm : X.calm = true) : CallR X (.type "dict") (fun xs H Q => ∃ (a : Addr) (ob : Obj) (p : Addr) (k : Key) (v : V), xs = [.ref a] ∧ H a = some (.frz ob (.tup [.ref p])) ∧ ob.dict = none ∧ H p = some (.tup [kV k, v]) ∧
    ∀ q, H q = none → Q (.ref q) (upd H q (.dK [(k, v)]))) := by
  intro pins s σ H xs us Q I r q
  obtain ⟨a, ob, p, k, v, ex, ha, hd, hp, q⟩ := q
  subst ex
  obtain ⟨u, eu, rx⟩ := vals1 r
  subst eu
  cases rx
  obtain ⟨ho, hz, its, rv, o, ho', hc, n, hdat⟩ := (show ObjOk X.prog X.w H s.heap a (.frz ob (.tup [.ref p])) from I.hok a _ ha)
  rw [ho] at ho'
  cases ho'
  obtain ⟨_, its2, rv2, o2, ho2, hc2, n2, hd2⟩ := (show ObjOk X.prog X.w H s.heap p (.tup [kV k, v]) from I.hok p _ hp)
  cases rv with
  | cons r1 rn =>
    cases rn
    cases r1
    cases rv2 with
    | cons rk rr => cases rr with
      | cons rv3 rn2 => cases rn2 with
        | nil =>
          rename_i uk uv
          have pa : PairAt s.heap p uk uv := .inl ⟨o2, ho2, hc2, n2, hd2⟩
          refine PySem.call_dict_pairs (knd := mixKind X.prog X.w) (kvs := [(k, uv)]) (PairArg.tuple a #[.ref p] (fun _ => p) [(uk, uv)]) (I.ok.hd hcalm) ⟨⟨ob, n, ho, hc, hd, hdat⟩, rfl, fun j k' v' e => ?_⟩ ⟨rfl, fun i key v' e => ?_⟩ (by show 1 ≤ sizeLine; decide) fun h' tk hd' kk => ?_
          · cases j with
            | zero => cases e; exact ⟨rfl, pa⟩
            | succ j => cases e
          · cases i with
            | zero => cases e; exact ⟨k, rfl, kV_is (P := X.prog) (w := X.w) rk⟩
            | succ j => cases e
          · have hm : (s.heap.objs.size == sysModules) = false := beq_eq_false_iff_ne.mpr (Nat.ne_of_gt I.big)
            exact ⟨.ref s.heap.objs.size, upd H s.heap.objs.size (.dK [(k, v)]), I.laid (t' := tk) (fun b o e => kk b o (fun z => nomatch z) e) (Nat.le_refl _) (show ObjOk X.prog X.w _ _ _ (.dK [(k, v)]) from ⟨by show 1 ≤ sizeLine; decide, hm, _, .cons ⟨rfl, rv3⟩ .nil, hd'⟩), rfl, q _ (I.hok.fresh (Nat.le_refl _))⟩
end
/-! ### enumerate(tuple) -/
set_option maxHeartbeats 1000000 in
theorem meets_enumerate_newT (l : Addr) (items : Array Value) (n : Nat) (dct : Option Addr) (sl : Array (Option Value)) :
    Meets (Builtin.«enumerate.__new__» ⟨[.type "enumerate", .ref l], []⟩) (fun _ R s => s.heap.get? l = some { cls := .type "tuple", dict := dct, data := .seq items n, slots := sl } ∧
      R (.ok (.ret (.ref (s.heap.push { cls := .type "tuple_iterator", data := .fields #[.ref l, .int 0 0] }).objs.size)))
        { s with heap := (s.heap.push { cls := .type "tuple_iterator", data := .fields #[.ref l, .int 0 0] }).push { cls := .type "enumerate", data := .fields #[.none, .bool false, .ref s.heap.objs.size, rawInt 0, .none, .none] } }) :=
  .of_wp fun prog w A R s h => by
    obtain ⟨hp, g, d, tk, os⟩ := s; obtain ⟨hl, h⟩ := h
    have hsub := sub_enumerate
    have hL : Heap.IsTuple (Shared.heap ⟨hp, g, d, tk, os⟩) l items := ⟨_, hl, rfl, n, rfl⟩
    wp_walk using AutoSeq1.wpAny_loadPart' hl
    refine wpAny_stack_any fun st => wpAny_pure ?_
    split
    · rename_i c _ _ _ _ _
      cases (c == Value.type "enumerate")
      · wp_walk using AutoSeq1.wpAny_loadPart' hl, wpAny_pyIter_tuple hL
        exact ⟨_, rfl, h⟩
      · wp_walk using AutoSeq1.wpAny_loadPart' hl, wpAny_pyIter_tuple hL
        exact ⟨_, rfl, h⟩
    · wp_walk using AutoSeq1.wpAny_loadPart' hl, wpAny_pyIter_tuple hL
      exact ⟨_, rfl, h⟩
theorem call_enumerate_tuple {prog : Program} {w : World} {A : Around} {E : Value → Shared → Prop} {s : Shared} {l : Addr} {items : Array Value} {Q : Value → Shared → Prop} (hL : s.heap.IsTuple l items)
    (h : ∀ h', IsEnum h' (s.heap.objs.size + 1) s.heap.objs.size 0 .none → h'.IsTupleIter s.heap.objs.size l 0 → h'.objs.size = s.heap.objs.size + 2 →
      (∀ b o, s.heap.get? b = some o → h'.get? b = some o) → Q (.ref (s.heap.objs.size + 1)) { s with heap := h' }) :
    wpAny (model prog w) A (call (.type "enumerate") [.ref l]) Q E s := by
  obtain ⟨⟨c, dct, dt, sl⟩, hl, hc, n, hd⟩ := hL
  replace hc : c = .type "tuple" := hc
  replace hd : dt = .seq items n := hd
  subst hc hd
  refine callType_new F.called_enumerate (by decide) (F.typeCall_enumerate_1 _) (F.newCall_enumerate_1 _) (fun obj => F.args_object_init_2 obj _) F.entry_enumerate_new
    (meets_enumerate_newT l items n dct sl) ⟨hl, ?_⟩
  have hz : (s.heap.push { cls := .type "tuple_iterator", data := .fields #[.ref l, .int 0 0] }).objs.size = s.heap.objs.size + 1 := Heap.size_push ..
  show _ ∧ _
  rw [hz]
  have he : IsEnum ((s.heap.push { cls := .type "tuple_iterator", data := .fields #[.ref l, .int 0 0] }).push
      { cls := .type "enumerate", data := .fields #[.none, .bool false, .ref s.heap.objs.size, rawInt 0, .none, .none] }) (s.heap.objs.size + 1) s.heap.objs.size 0 .none := by
    have := Heap.get?_push_size (s.heap.push { cls := .type "tuple_iterator", data := .fields #[.ref l, .int 0 0] })
      (o := { cls := .type "enumerate", data := .fields #[.none, .bool false, .ref s.heap.objs.size, rawInt 0, .none, .none] }) rfl
    rw [hz] at this; exact this
  refine ⟨⟨_, he, rfl⟩, h _ he ⟨_, Heap.get?_push_of_some _ (Heap.get?_push_size _ rfl), rfl, rfl⟩ (by rw [Heap.size_push, hz]) fun b o x => Heap.get?_push_of_some _ (Heap.get?_push_of_some _ x)⟩
/-- the tuple at a, each item in a new pair -/
def IteT (K : PySem.W.Frag) (a : Addr) : It :=
  ⟨fun i H => ∃ (xs : List V) (x : V), SqT K H a xs ∧ xs[i]? = some x, fun i H v H' => ∃ T x, v = .ref T ∧ H T = none ∧ H' = upd H T (.tup [.int (i : Nat), x]) ∧ ∀ xs, SqT K H a xs → xs[i]? = some x, fun i H => ∃ xs : List V, SqT K H a xs ∧ xs.length ≤ i⟩
theorem turn_enumT {P : Program} {w : World} {K : PySem.W.Frag} {elts : List Expr} {kk : Nat} {tpos : Pos} (a e it : Addr) (hae : a ≠ e) (hai : a ≠ it) :
    Turn P w K (.Tuple elts kk tpos) (IteT K a) [e, it] e (fun i h => (∃ old, IsEnum h e it ((i : Nat) : Int) old) ∧ h.IsTupleIter it a i ∧ e ≠ it) where
  mem := by simp
  obj := fun i h st b hb => by
    obtain ⟨⟨old, he⟩, ⟨o, ho, hc, hd⟩, _⟩ := st
    have e' : b = e ∨ b = it := by simpa using hb
    rcases e' with z | z
    · rw [z]; exact ⟨_, he, fun v q => nomatch q⟩
    · rw [z]; exact ⟨o, ho, fun v q => by rw [hd] at q; cases q⟩
  keep := fun i h h' st k => let ⟨⟨old, he⟩, hi, hne⟩ := st; ⟨⟨old, k e (by simp) _ he⟩, hi.at fun o q => k it (by simp) o q, hne⟩
  item := by
    intro X hP hw hK hc i pins s σ H E I hf st hg
    subst hP hw hK
    obtain ⟨⟨old, he⟩, hit, hne⟩ := st
    obtain ⟨xs, x, hq, hx⟩ := hg
    obtain ⟨its, rv, p, hz⟩ := I.tuple hq
    obtain ⟨u, hu, ru⟩ := rv.get hx
    have hel : e < s.heap.objs.size := Heap.lt_size he
    have hil : it < s.heap.objs.size := by obtain ⟨_, q, _⟩ := hit; exact Heap.lt_size q
    have hI : i < its.toArray.size := by
      have := (List.getElem?_eq_some_iff.mp hu).1
      simpa using this
    refine wpAny_pyNext_enum_itemD (Draws.tuple (A := X.A.in1) (I.ok.hd hc) it a hai its.toArray) he ⟨hit, show s.heap.IsTuple a its.toArray from p⟩ hI hne (by simp only [List.mem_cons, List.not_mem_nil, or_false, not_or]; exact ⟨hne, Ne.symm hae⟩) fun y h' tk hy ho hst hT hsz hk => ?_
    have hy : its.toArray[i]? = some y := hy
    have ey : u = y := by
      have : its[i]? = some y := by simpa using hy
      rw [hu] at this
      exact Option.some.inj this
    subst ey
    refine ⟨_, rfl, wpAny_letOwnedTupleGo_enum (s := { s with heap := h', toks := tk + 1 }) ho fun h'' he' sb => ?_⟩
    have hT2 : h''.get? s.heap.objs.size = some { cls := .type "tuple", data := .seq #[.int i tk, u] } := (sb.2 _ (Nat.ne_of_gt hel)).trans hT
    have new : ObjOk X.prog X.w (upd H s.heap.objs.size (.tup [.int (i : Nat), x])) h'' s.heap.objs.size (.tup [.int (i : Nat), x]) :=
      ⟨by show 2 ≤ sizeLine; decide, [.int i tk, u], .cons ⟨_, rfl⟩ (.cons ru .nil), ⟨_, hT2, rfl, _, rfl⟩⟩
    have I1 : Inv X pins σ (upd H s.heap.objs.size (.tup [.int (i : Nat), x])) { s with heap := h'', toks := tk + 1 } :=
      I.turnedNew (ch := [e, it]) (fun b ob hb q => (sb.2 b (fun z => hb (by simp [z]))).trans (hk b ob (fun z => hb (by simp [z])) (fun z => hb (by simp [z])) q)) hf (Nat.le_refl _) new
    refine ⟨.ref s.heap.objs.size, _, I1, rfl, ⟨_, x, rfl, I.hok.fresh (Nat.le_refl _), rfl, fun ys hy => by rw [I.tuple_inj hy hq]; exact hx⟩, ⟨⟨u, ?_⟩, hst.1.at fun o q => (sb.2 it (Ne.symm hne)).trans q, hne⟩, fun b hb => ?_⟩
    · have e1 : ((i + 1 : Nat) : Int) = (i : Int) + 1 := by omega
      rw [e1]; exact he'
    · have hb' : b < s.heap.objs.size := by
        have e' : b = e ∨ b = it := by simpa using hb
        rcases e' with z | z
        · rw [z]; exact hel
        · rw [z]; exact hil
      rw [upd_ne (Nat.ne_of_lt hb')]
      exact (hf b hb).1
  done := by
    intro X hP hw hK hc i pins s σ H E I hf st hg
    subst hP hw hK
    obtain ⟨⟨old, he⟩, hit, hne⟩ := st
    obtain ⟨xs, hq, hx⟩ := hg
    obtain ⟨its, rv, p, hz⟩ := I.tuple hq
    obtain ⟨f0, f1, f2, f3, f4, f5⟩ := hf it (by simp)
    have hl := rv.length
    have hend : its.toArray[i]? = none := Array.getElem?_eq_none (by simp; omega)
    unfold pyNext
    have hT : s.TypeIs (.ref e) "enumerate" := ⟨_, he, rfl⟩
    refine wpAny_bind (wpAny_attempt (wpAny_callSpecial?_slot (name := Str.ofString "__next__") hT F.slot_enumerate_next
      (wpAny_call_entry F.slot_enumerate_next hT F.entry_enumerate_next ?_ (F.args_enumerate_next_1 _))))
    show wpAny _ _ (field (.ref e) 2 >>= _) _ _ _
    refine wpAny_bind (wpAny_field he rfl (x := .ref it) rfl ?_)
    refine wpAny_bind (wpAny_nextOf_tuple_end (I.ok.hd hc) hit (show s.heap.IsTuple a its.toArray from p) hend fun h' x he' hx' => ?_)
    obtain ⟨o, ho, hc'⟩ := hx'
    refine wpAny_bind (wpAny_isInstance (T := "StopIteration") (b := true) ⟨o, ho, hc'⟩ isSubtype_stop ?_)
    exact wpAny_pure ⟨rfl, I.turned (t' := s.toks) (fun b o hb q => he' b o hb q) f0 f1 f3 f4 f5⟩
  self := fun A i s Q E st h => let ⟨⟨_, he⟩, _⟩ := st; wpAny_pyIter_enum he h
def iEnumT (K : PySem.W.Frag) (ta : TA) : TI := fun σ H R => ta σ H fun vs H1 => ∃ a xs, vs = [.ref a] ∧ SqT K H1 a xs ∧ R (IteT K a) H1
theorem pi_enumT {X : Cx} {e : Expr} {ta : TA} {p pos tpos : Pos} {elts : List Expr} {kk : Nat} (hg : Gl X "enumerate") (hm : X.mg "enumerate" = none) (ha : PA X [e] ta) (hs : starEach [e] X.env = [(false, eval e X.env)] := by rfl) :
    PI X (.Tuple elts kk tpos) (.Call (.Name "enumerate" p) [e] [] pos) (iEnumT X.K ta) := by
  refine ⟨fun pins s σ H R I h => ?_⟩
  refine Call_ (ld_blt I hg hm boot_enumerate (PyProof.Rows.callWith_type1 (thn (ha.run pos pins s σ H _ I h) fun us s1 ⟨vs, H1, I1, r1, q1⟩ => ?_) hs rfl))
  obtain ⟨a, xs, ex, hq, q⟩ := q1
  subst ex
  cases r1 with
  | cons r rr =>
    cases rr
    cases r
    obtain ⟨its, rv, p', hz⟩ := I1.tuple hq
    have hal : a < s1.heap.objs.size := p'.lt
    refine call_enumerate_tuple (show s1.heap.IsTuple a its.toArray from p') fun h' he hit hsz hk => wpAny_pyIter_enum he ?_
    have I2 : Inv X pins σ H1 { s1 with heap := h' } := I1.kept (t' := s1.toks) hk
    refine ⟨s1.heap.objs.size + 1, [s1.heap.objs.size + 1, s1.heap.objs.size], _, _, H1, rfl, I2, turn_enumT a (s1.heap.objs.size + 1) s1.heap.objs.size (Nat.ne_of_lt (Nat.lt_succ_of_lt hal)) (Nat.ne_of_lt hal), ⟨⟨.none, he⟩, hit, Nat.succ_ne_self _⟩, fun b hb => ?_, q⟩
    have e' : b = s1.heap.objs.size + 1 ∨ b = s1.heap.objs.size := by simpa using hb
    have hle : s1.heap.objs.size ≤ b := by
      rcases e' with z | z
      · rw [z]; exact Nat.le_add_right _ _
      · rw [z]; exact Nat.le_refl _
    exact I1.fpOk hle (I1.hok.fresh hle)
section
variable {K : PySem.W.Frag} {σ : St} {G : Hp} {te : TE} {δ : Type} {R : δ → V → Hp → Prop} {ds : List δ}
theorem ei_enumT [∀ d, MnP (R d)] (h : EvP te σ G (rT R ds)) : EvI (iEnumT K (tCons te tNil)) σ G (r2 rI R) ((upTo 0 ds.length).zip ds) := fun H s Rr k =>
  ea_1 h H s _ fun vs G1 H1 e p => by
    obtain ⟨v, _, rfl, p, rfl⟩ := p
    obtain ⟨a, xs, rfl, hx, al⟩ := p
    have hl : ((upTo 0 ds.length).zip ds).length = ds.length := by rw [List.length_zip, upTo_len, Nat.min_self]
    refine ⟨a, xs, rfl, SqT.of (e.s _ _ hx), k _ G1 H1 e ⟨fun i H hi s => ?_, fun H s => ?_, fun i d G' H' x H'' hd s s' y => ?_⟩⟩
    · rw [hl] at hi
      have hi' : i < xs.length := by rw [al.length]; exact hi
      exact ⟨xs, xs[i], SqT.of (s _ _ hx), by simp [hi']⟩
    · exact ⟨xs, SqT.of (s _ _ hx), by rw [hl, al.length]; exact Nat.le_refl _⟩
    · obtain ⟨T, u, rfl, hT, rfl, y⟩ := y
      obtain ⟨j, d⟩ := d
      rw [List.getElem?_zip_eq_some] at hd
      obtain ⟨h1, h2⟩ := hd
      obtain ⟨w, hw, rw'⟩ := al.get h2
      have eu : xs[i]? = some u := y xs (SqT.of ((s.trans s') _ _ hx))
      rw [hw] at eu
      cases eu
      have hT' : G' T = none := s'.free hT
      refine ⟨upd G' T (.tup [.int (i : Nat), u]), Ext.new s' hT, T, _, _, rfl, upd_same, ?_, mn (s.trans (Same.new hT')) rw'⟩
      have this : j = 0 + (i : Nat) := (upTo_get h1).2
      show V.int (i : Nat) = V.int j
      rw [this, Int.zero_add]
end
end Eld
set_option maxRecDepth 100000
set_option maxHeartbeats 1000000
/-! Dicts from ints to ints as functions of finite support; items loops; instances. -/
namespace Eld
open PySem PySem.Spec PyProof.Rows L2

/-! ### lists of pairs of ints -/
abbrev Its := List (Int × Int)
def fV (f : Its) : List (Key × V) := f.map fun p => (Sum.inl p.1, V.int p.2)
def getI (f : Its) (k : Int) : Option Int := (f.find? fun p => decide (p.1 = k)).map (·.2)
def putI (f : Its) (k n : Int) : Its := if (getI f k).isSome then f.map (fun p => if p.1 = k then (p.1, n) else p) else f ++ [(k, n)]
def dropI (f : Its) (k : Int) : Its := f.filter fun p => decide (p.1 ≠ k)
theorem getI_nil {k : Int} : getI [] k = none := rfl
theorem getI_pos {p : Int × Int} {f : Its} {k : Int} (h : p.1 = k) : getI (p :: f) k = some p.2 := by simp [getI, List.find?_cons, h]
theorem getI_neg {p : Int × Int} {f : Its} {k : Int} (h : ¬ p.1 = k) : getI (p :: f) k = getI f k := by simp [getI, List.find?_cons, h]
theorem valV_fV (f : Its) (k : Int) : valV (fV f) (.inl k) = (getI f k).map V.int := by
  induction f with
  | nil => rfl
  | cons p f ih =>
    by_cases h : p.1 = k
    · rw [getI_pos h]
      exact valV_pos (p := (Sum.inl p.1, V.int p.2)) (congrArg Sum.inl h)
    · rw [getI_neg h, ← ih]
      exact valV_neg (p := (Sum.inl p.1, V.int p.2)) (fun e => h (Sum.inl.inj e))
theorem putK_fV (f : Its) (k n : Int) : putK (fV f) (Sum.inl k) (V.int n) = fV (putI f k n) := by
  unfold putK putI
  rw [valV_any, valV_fV, Option.isSome_map]
  split
  · unfold fV
    rw [List.map_map, List.map_map]
    refine List.map_congr_left fun p _ => ?_
    show (if (Sum.inl p.1 : Key) = Sum.inl k then _ else _) = (Sum.inl (if p.1 = k then (p.1, n) else p).1, V.int (if p.1 = k then (p.1, n) else p).2)
    by_cases h : p.1 = k
    · rw [if_pos h, if_pos (congrArg Sum.inl h)]
    · rw [if_neg h, if_neg (fun e => h (Sum.inl.inj e))]
  · unfold fV
    rw [List.map_append]
    rfl
theorem dropK_fV (f : Its) (k : Int) : dropK (fV f) (Sum.inl k) = fV (dropI f k) := by
  unfold dropK dropI fV
  rw [List.filter_map]
  congr 1
  refine List.filter_congr fun p _ => ?_
  show decide ((Sum.inl p.1 : Key) ≠ Sum.inl k) = decide (p.1 ≠ k)
  by_cases h : p.1 = k
  · simp [h]
  · simp [h]
theorem map_int_inj {a b : Option Int} (h : a.map V.int = b.map V.int) : a = b := by
  cases a <;> cases b <;> simp at h ⊢
  exact h
theorem getI_put (f : Its) (k j n : Int) : getI (putI f k n) j = if j = k then some n else getI f j := by
  apply map_int_inj
  rw [← valV_fV, ← putK_fV, valV_put, valV_fV]
  by_cases h : j = k
  · rw [if_pos h, if_pos (congrArg Sum.inl h)]; rfl
  · rw [if_neg h, if_neg (fun e => h (Sum.inl.inj e))]
theorem getI_drop (f : Its) (k j : Int) : getI (dropI f k) j = if j = k then none else getI f j := by
  induction f with
  | nil => unfold dropI; rw [List.filter_nil, getI_nil]; split <;> rfl
  | cons p f ih =>
    unfold dropI at ih ⊢
    rw [List.filter_cons]
    by_cases h : p.1 = k
    · rw [if_neg (by simp [h]), ih]
      by_cases e : j = k
      · rw [if_pos e, if_pos e]
      · rw [if_neg e, if_neg e, getI_neg (fun z => e (z.symm.trans h))]
    · rw [if_pos (by simp [h])]
      by_cases q : p.1 = j
      · rw [getI_pos q, getI_pos q, if_neg (fun e => h (q.trans e))]
      · rw [getI_neg q, ih, getI_neg q]
theorem getI_key {f : Its} {k : Int} : (getI f k).isSome = true ↔ k ∈ f.map (·.1) := by
  induction f with
  | nil => simp [getI]
  | cons p f ih =>
    rw [List.map_cons, List.mem_cons]
    by_cases h : p.1 = k
    · rw [getI_pos h]; simp [h]
    · rw [getI_neg h, ih]
      constructor
      · exact .inr
      · rintro (e | e)
        · exact (h e.symm).elim
        · exact e
theorem putI_keys (f : Its) (k n : Int) : (putI f k n).map (·.1) = if (getI f k).isSome then f.map (·.1) else f.map (·.1) ++ [k] := by
  unfold putI
  split
  · rw [List.map_map]
    refine List.map_congr_left fun p _ => ?_
    show (if p.1 = k then (p.1, n) else p).1 = p.1
    split <;> rfl
  · rw [List.map_append]; rfl
theorem putI_nd {f : Its} (k n : Int) (nd : (f.map (·.1)).Nodup) : ((putI f k n).map (·.1)).Nodup := by
  rw [putI_keys]
  split
  · exact nd
  · rename_i h
    exact nd_snoc nd fun m => h (getI_key.mpr m)
theorem dropI_nd {f : Its} (k : Int) (nd : (f.map (·.1)).Nodup) : ((dropI f k).map (·.1)).Nodup := nd.sublist (List.filter_sublist.map _)
theorem getI_mem {f : Its} (nd : (f.map (·.1)).Nodup) {k n : Int} : (k, n) ∈ f ↔ getI f k = some n := by
  induction f with
  | nil => simp [getI]
  | cons p f ih =>
    rw [List.map_cons, List.nodup_cons] at nd
    rw [List.mem_cons]
    by_cases h : p.1 = k
    · rw [getI_pos h]
      constructor
      · rintro (e | e)
        · rw [← e]
        · exact (nd.1 (by rw [h]; exact List.mem_map.mpr ⟨_, e, rfl⟩)).elim
      · intro e
        exact .inl (by rw [← Option.some.inj e, ← h])
    · rw [getI_neg h, ← ih nd.2]
      constructor
      · rintro (e | e)
        · exact (h (by rw [← e])).elim
        · exact e
      · exact .inr
theorem nodup_le {α : Type} [DecidableEq α] : ∀ {l m : List α}, l.Nodup → (∀ x ∈ l, x ∈ m) → l.length ≤ m.length
  | [], _, _, _ => Nat.zero_le _
  | a :: l, m, nd, h => by
    rw [List.nodup_cons] at nd
    have ha : a ∈ m := h a (List.mem_cons_self ..)
    have := nodup_le (m := m.erase a) nd.2 fun x hx => (List.mem_erase_of_ne (fun e => nd.1 (by rw [← e]; exact hx))).mpr (h x (List.mem_cons_of_mem _ hx))
    rw [List.length_erase_of_mem ha] at this
    have := List.length_pos_of_mem ha
    rw [List.length_cons]
    omega
/-- f tells the function c, whose support is in [0, n) -/
structure IsF (n : Nat) (c : Int → Int) (f : Its) : Prop where
  nd : (f.map (·.1)).Nodup
  get : ∀ k, getI f k = if c k = 0 then none else some (c k)
  rg : ∀ k, c k ≠ 0 → 0 ≤ k ∧ k < n
section
variable {n : Nat} {c : Int → Int} {f : Its} {k : Int}
theorem IsF.key (h : IsF n c f) : k ∈ f.map (·.1) ↔ c k ≠ 0 := by
  rw [← getI_key, h.get]
  by_cases e : c k = 0 <;> simp [e]
theorem IsF.some (h : IsF n c f) (e : c k ≠ 0) : getI f k = Option.some (c k) := by rw [h.get, if_neg e]
theorem IsF.isSome (h : IsF n c f) : (getI f k).isSome = decide (c k ≠ 0) := by
  rw [h.get]
  by_cases e : c k = 0 <;> simp [e]
theorem IsF.getD (h : IsF n c f) : (getI f k).getD 0 = c k := by
  rw [h.get]
  by_cases e : c k = 0 <;> simp [e]
theorem IsF.at (h : IsF n c f) {i : Nat} {v : Int} (e : f[i]? = Option.some (k, v)) : v = c k ∧ c k ≠ 0 := by
  have m := (getI_mem h.nd).mp (List.mem_of_getElem? e)
  rw [h.get] at m
  by_cases q : c k = 0
  · rw [if_pos q] at m; cases m
  · rw [if_neg q] at m; exact ⟨(Option.some.inj m).symm, q⟩
theorem IsF.len (h : IsF n c f) : f.length ≤ n := by
  have := nodup_le (l := f.map (·.1)) (m := (List.range n).map fun i : Nat => (i : Int)) h.nd fun x hx => by
    obtain ⟨h1, h2⟩ := h.rg x (h.key.mp hx)
    exact List.mem_map.mpr ⟨x.toNat, List.mem_range.mpr (by omega), by omega⟩
  simpa using this
theorem IsF.nil : IsF n (fun _ => 0) [] := ⟨List.nodup_nil, fun _ => rfl, fun _ h => (h rfl).elim⟩
theorem IsF.empty (h : IsF n c f) : f.length = 0 ↔ ∀ k, c k = 0 := by
  constructor
  · intro e k
    have : f = [] := List.eq_nil_of_length_eq_zero e
    subst this
    have := h.get k
    rw [getI_nil] at this
    by_cases q : c k = 0
    · exact q
    · rw [if_neg q] at this; cases this
  · intro e
    cases f with
    | nil => rfl
    | cons p f => exact (h.key.mp (List.mem_cons_self ..) (e p.1)).elim
end
theorem fV_len (f : Its) : (fV f).length = f.length := by unfold fV; rw [List.length_map]
theorem fV_get {f : Its} {i : Nat} {k : Key} {v : V} (h : (fV f)[i]? = some (k, v)) : ∃ a b, f[i]? = some (a, b) ∧ k = .inl a ∧ v = .int b := by
  unfold fV at h
  rw [List.getElem?_map] at h
  cases e : f[i]? with
  | none => rw [e] at h; cases h
  | some p => rw [e] at h; cases h; exact ⟨p.1, p.2, rfl, rfl, rfl⟩
def rC (n : Nat) (c : Int → Int) : V → Hp → Prop := fun v G => ∃ a f, v = .ref a ∧ G a = some (.dK (fV f)) ∧ IsF n c f
def oC (n : Nat) (c : Int → Int) : Addr → HO → Hp → Prop := fun _ o _ => ∃ f, o = .dK (fV f) ∧ IsF n c f
instance {n : Nat} {c : Int → Int} : MnP (rC n c) := ⟨fun s ⟨a, f, e, h, q⟩ => ⟨a, f, e, s _ _ h, q⟩⟩
theorem rC.to {n : Nat} {c d : Int → Int} {v : V} {G : Hp} (h : rC n c v G) (e : ∀ k, c k = d k) : rC n d v G := (funext e : c = d) ▸ h

/-! ### forgetting, locking -/
theorem Ext.drop {G H H' : Hp} (s : Same G H) (h : Same H H') : Ext G H G H' := ⟨Same.refl _, h, s.trans h, fun _ _ q => q⟩
theorem Ext.lock {Gb Hb G H : Hp} {d : Addr} {u : HO} (o : HO) (e : Ext Gb Hb G H) (hd : Gb d = some u) : Ext (L2.upd Gb d o) (L2.upd Hb d o) (L2.upd G d o) (L2.upd H d o) := by
  have key : ∀ {A B : Hp}, Same A B → Same (L2.upd A d o) (L2.upd B d o) := fun s b x q => by
    by_cases z : b = d
    · subst z; rw [upd_same] at q ⊢; exact q
    · rw [upd_ne z] at q ⊢; exact s b x q
  refine ⟨key e.g, key e.h, key e.s, fun b hb gb => ?_⟩
  by_cases z : b = d
  · subst z; rw [upd_same] at gb; cases gb
  · rw [upd_ne z] at hb gb ⊢; exact e.f b hb gb
theorem Ext.unlock {Gb Hb G H : Hp} {d : Addr} {u o : HO} (e : Ext (L2.upd Gb d o) (L2.upd Hb d o) G H) (hd : Gb d = some u) (sb : Same Gb Hb) : Ext Gb Hb (L2.upd G d u) (L2.upd H d u) := by
  refine ⟨fun b x q => ?_, fun b x q => ?_, fun b x q => ?_, fun b hb gb => ?_⟩
  · by_cases z : b = d
    · subst z; rw [hd] at q; rw [upd_same, q]
    · rw [upd_ne z]; exact e.g b x (by rw [upd_ne z]; exact q)
  · by_cases z : b = d
    · subst z; rw [sb _ _ hd] at q; rw [upd_same, q]
    · rw [upd_ne z]; exact e.h b x (by rw [upd_ne z]; exact q)
  · by_cases z : b = d
    · subst z; rw [upd_same] at q ⊢; exact q
    · rw [upd_ne z] at q ⊢; exact e.s b x q
  · have z : b ≠ d := fun z => by subst z; rw [hd] at gb; cases gb
    rw [upd_ne z]
    exact e.f b (by rw [upd_ne z]; exact hb) (by rw [upd_ne z]; exact gb)
def rKV (kv : Key × V) : V → Hp → Prop := fun x G => ∃ T, x = .ref T ∧ G T = some (.tup [kV kv.1, kv.2])
instance {kv : Key × V} : MnP (rKV kv) := ⟨fun s ⟨T, e, h⟩ => ⟨T, e, s _ _ h⟩⟩
section
variable {K : PySem.W.Frag} {σ : St} {G G1 H : Hp} {ta tb te tc td tk tv ty tx : TE} {tt tu : TT} {P P1 P2 P3 : V → Hp → Prop} {α β γ δ ε : Type} {D : Ends} {wi : TI} {g : TG} {t1 tz : TS}
/-- for key, number in d.items(): d is locked -/
theorem s_items {Gb Hb : Hp} {d : Addr} {kvs : List (Key × V)} {i0 ia ib : Nat} {tb : TS} (eb : Ext Gb Hb G H) (sb : Same Gb Hb) (hd : Gb d = some (.dK kvs)) (hx : σ[i0]? = some (some (.ref d))) (J : Nat → St → Hp → Hp → Prop)
    (h0 : ∀ o G1 H1, Ext (L2.upd G d (.frz o (.dK kvs))) (L2.upd H d (.frz o (.dK kvs))) G1 H1 → J 0 σ G1 H1)
    (hs : ∀ o i k v σ' G0 H0 G' H' Gs (D' : Ends), kvs[i]? = some (k, v) → Ext (L2.upd Gb d (.frz o (.dK kvs))) (L2.upd Hb d (.frz o (.dK kvs))) G0 H0 → J i σ' G0 H0 → Ext G0 H0 G' H' → Same Gs G0 →
      D'.nx = LI (L2.upd Gb d (.frz o (.dK kvs))) (L2.upd Hb d (.frz o (.dK kvs))) Gs (J (i + 1)) → tb D' ((σ'.set ia (some (kV k))).set ib (some v)) H')
    (hdn : ∀ o σ' G' H', Ext Gb Hb (L2.upd G' d (.dK kvs)) (L2.upd H' d (.dK kvs)) → Ext (L2.upd Gb d (.frz o (.dK kvs))) (L2.upd Hb d (.frz o (.dK kvs))) G' H' → J kvs.length σ' G' H' → D.nx σ' (L2.upd H' d (.dK kvs))) :
    tLock (tFor (iItems (tVar i0)) (gTup K 2 (gCons (gName ia) (gCons (gName ib) gNil))) tb) D σ H := by
  have hH : H d = some (.dK kvs) := eb.h _ _ (sb _ _ hd)
  refine ⟨d, .dK kvs, hH, trivial, fun o => ?_⟩
  have eL := Ext.lock (.frz o (.dK kvs)) eb hd
  have hi : EvI (iItems (tVar i0)) σ (L2.upd G d (.frz o (.dK kvs))) rKV kvs := fun H1 s1 Rr k => by
    have hH1 : H1 d = some (.frz o (.dK kvs)) := s1 _ _ upd_same
    refine ⟨.ref d, hx, d, o, kvs, rfl, hH1, k _ _ H1 (Ext.refl s1) ⟨fun i H2 hi s2 => ⟨s2 _ _ upd_same, hi⟩, fun H2 s2 => ⟨s2 _ _ upd_same, Nat.le_refl _⟩, fun i dd G' H' x H'' he s s' y => ?_⟩⟩
    obtain ⟨T, kk, v, hk, rfl, hT, rfl⟩ := y
    rw [he] at hk
    cases hk
    exact ⟨upd G' T (.tup [kV kk, v]), Ext.new s' hT, T, rfl, upd_same⟩
  refine s_for eL hi J (h0 o) (fun G1 sG i kv v σ' G0 H0 G' H' hk s0 e0 j e' r => ?_) (fun G1 σ' G' H' sG s0 e0 j => ?_)
  · obtain ⟨T, rfl, hT⟩ := r
    obtain ⟨k, v⟩ := kv
    exact ⟨T, _, rfl, SqT.of (e'.s _ _ hT), rfl, _, [v], rfl, v, [], rfl, rfl, hs o i k v σ' G0 H0 G' H' G1 _ hk e0 j e' s0 rfl⟩
  · have hf : H' d = some (.frz o (.dK kvs)) := e0.s _ _ (e0.g _ _ upd_same)
    exact ⟨hf, hdn o σ' G' H' (e0.unlock hd sb) e0 j⟩
end
end Eld
set_option maxRecDepth 100000
set_option maxHeartbeats 1000000
/-! Rules of dicts with int keys; instances. -/
namespace Eld
open PySem PySem.Spec PyProof.Rows L2
/-- at one heap, told of the heaps behind -/
def EvY (te : TE) (σ : St) (G H : Hp) (P : V → Hp → Hp → Prop) : Prop := ∀ Q : VK, (∀ v G' H', Ext G H G' H' → P v G' H' → Q v H') → te σ H Q
section
variable {K : PySem.W.Frag} {σ : St} {G G1 H : Hp} {ta tb te tc td tk tv ty tx : TE} {tt tu : TT} {P P1 P2 P3 : V → Hp → Prop} {α β γ δ ε : Type} {D : Ends} {wi : TI} {g : TG} {t1 tz : TS} {n : Nat} {c : Int → Int} {k : Int}
theorem EvX.y (h : EvX te σ G H P) : EvY te σ G H fun v G' _ => P v G' := h
theorem EvN.y {O : Addr → HO → Hp → Prop} (h : EvN te σ G O) (s : Same G H) : EvY te σ G H fun v G' H' => ∃ p o, v = .ref p ∧ H p = none ∧ G' p = none ∧ H' p = some o ∧ O p o G' :=
  fun Q q => h H s Q fun p o G' H' e hn gn ho oo => q _ G' H' e ⟨p, o, rfl, hn, gn, ho, oo⟩
/-! known -/
theorem ev_dgetC (hd : EvP td σ G (rC n c)) (hk : EvP ty σ G (rI k)) (h0 : c k ≠ 0) : EvP (tDGet td ty) σ G (rI (c k)) := fun H s Q q =>
  hd H s _ fun x G1 H1 e1 p1 => hk.mono e1.g H1 e1.s _ fun y G2 H2 e2 p2 => by
    obtain ⟨a, f, rfl, ha, hf⟩ := p1
    cases (show y = .int k from p2)
    refine ⟨a, .int (c k), rfl, ?_, q _ G2 H2 (e1.trans e2) rfl⟩
    have := DGet.k (k := .inl k) (e2.s _ _ (e2.g _ _ ha))
    rw [valV_fV, hf.some h0] at this
    exact this
theorem ev_dinC (hk : EvP ty σ G (rI k)) (hd : EvP td σ G (rC n c)) : EvP (tDIn ty td) σ G (rB (decide (c k ≠ 0))) := fun H s Q q =>
  hk H s _ fun y G1 H1 e1 p1 => hd.mono e1.g H1 e1.s _ fun x G2 H2 e2 p2 => by
    obtain ⟨a, f, rfl, ha, hf⟩ := p2
    cases (show y = .int k from p1)
    refine ⟨a, _, rfl, DGet.k (k := .inl k) (e2.s _ _ ha), ?_⟩
    rw [valV_fV, Option.isSome_map, hf.isSome]
    exact q _ G2 H2 (e1.trans e2) rfl
/-- len(d) == 0 -/
theorem ev_lenC0 {b : Bool} (h : EvP te σ G (rC n c)) (hb : b = true ↔ ∀ k, c k = 0) : EvP (tOp rEq (tCB (fun xs H Q => ∃ a kvs, xs = [V.ref a] ∧ H a = some (.dK kvs) ∧ Q (.int kvs.length) H) (tCons te tNil)) (tC (.int 0))) σ G (rB b) := by
  have h1 : EvP (tCB (fun xs H Q => ∃ a kvs, xs = [V.ref a] ∧ H a = some (.dK kvs) ∧ Q (.int kvs.length) H) (tCons te tNil)) σ G fun v _ => ∃ i : Int, v = .int i ∧ (i = 0 ↔ ∀ k, c k = 0) :=
    ev_cb1 h fun v G' _ p H s Q q => by
      obtain ⟨a, f, rfl, ha, hf⟩ := p
      refine ⟨a, _, rfl, s _ _ ha, q _ _ _ (Ext.refl s) ⟨_, rfl, ?_⟩⟩
      rw [fV_len, ← hf.empty]
      omega
  haveI : MnP (fun v _ => ∃ i : Int, v = .int i ∧ (i = 0 ↔ ∀ k, c k = 0) : V → Hp → Prop) := ⟨fun _ h => h⟩
  refine ev_op h1 (fun _ _ => ev_int) fun x y G' _ p p' H s Q q => ?_
  obtain ⟨i, rfl, hi⟩ := p
  cases (show y = .int 0 from p')
  refine ⟨rfl, q _ _ _ (Ext.refl s) ?_⟩
  show V.bl _ = V.bl _
  rw [dec_intV]
  congr 1
  by_cases z : i = 0
  · rw [decide_eq_true z, hb.mpr (hi.mp z)]
  · rw [decide_eq_false z, Bool.eq_false_iff.mpr (fun e => z (hi.mpr (hb.mp e)))]
theorem ev_minC {m : Int} (h : EvP te σ G (rC n c)) (hm : c m ≠ 0) (hl : ∀ j, c j ≠ 0 → m ≤ j) : EvP (tCB rMinK (tCons te tNil)) σ G (rI m) :=
  ev_cb1 h fun v G' _ p H s Q q => by
    obtain ⟨a, f, rfl, ha, hf⟩ := p
    refine ⟨a, fV f, f.map (·.1), rfl, s _ _ ha, by unfold fV; rw [List.map_map, List.map_map]; rfl, fun e => ?_, fun m' h1 h2 => q _ _ _ (Ext.refl s) ?_⟩
    · have := hf.key.mpr hm
      rw [e] at this
      exact nomatch this
    · have a1 := hl _ (hf.key.mp h1)
      have a2 := h2 _ (hf.key.mpr hm)
      show V.int m' = V.int m
      rw [Int.le_antisymm a2 a1]
theorem en_copyC (h : EvP te σ G (rC n c)) : EvN (tBM0 K "dict" rCopyK te) σ G (oC n c) := fun H s Q q => h H s _ fun v G' H' e p => by
  obtain ⟨a, f, rfl, ha, hf⟩ := p
  have ha' := e.s _ _ ha
  exact ⟨.inr (.inr (.inl ⟨rfl, .inl ⟨_, ha'⟩⟩)), a, _, rfl, rfl, ha', fun p hp => q p _ G' _ (e.trans (Ext.newH e.s hp)) (e.h.free hp) (e.s.free hp) upd_same ⟨f, rfl, hf⟩⟩
/-- {k: v} -/
theorem en_disp1 {i j : Int} (hk : EvP tk σ G (rI i)) (hv : EvP tv σ G (rI j)) : EvN (tDisp [(tk, tv)]) σ G (fun _ o _ => o = .dK (fV [(i, j)])) := fun H s Q q p hp => by
  have e0 := Ext.newH (o := .dK []) s hp
  refine hk _ e0.s _ fun x G1 H1 e1 p1 => hv.mono e1.g H1 e1.s _ fun y G2 H2 e2 p2 => ?_
  cases (show x = .int i from p1)
  cases (show y = .int j from p2)
  have e12 := e1.trans e2
  have gn : G2 p = none := e12.f p (by rw [upd_same]; exact fun z => nomatch z) (s.free hp)
  have hh : H2 p = some (.dK []) := e12.h _ _ upd_same
  refine ⟨hh, [(Sum.inl i, .int j)], rfl, by show 1 ≤ 15; decide, q p _ G2 _ ((e0.trans e12).upd hp gn) hp gn upd_same rfl⟩
theorem EvN.rc {O : Addr → HO → Hp → Prop} (h : EvN te σ G O) (hf : ∀ p o G, O p o G → ∃ f, o = .dK (fV f) ∧ IsF n c f) : EvP te σ G (rC n c) :=
  h.know fun p o G' s gn oo => by
    obtain ⟨f, rfl, hf⟩ := hf p o G' oo
    exact ⟨p, f, rfl, upd_same, hf⟩
theorem isF_one {i j : Int} (h0 : 0 ≤ i) (h1 : i < n) (hj : j ≠ 0) : IsF n (fun k => if k = i then j else 0) [(i, j)] := by
  refine ⟨by simp, fun k => ?_, fun k hk => ?_⟩
  · by_cases e : i = k
    · subst e
      rw [getI_pos rfl]; simp [hj]
    · rw [getI_neg e, getI_nil]
      show none = if (if k = i then j else 0) = 0 then none else _
      rw [if_neg (fun z : k = i => e z.symm), if_pos rfl]
  · by_cases e : k = i
    · subst e; exact ⟨h0, h1⟩
    · simp [e] at hk
/-! of a dict that may change -/
theorem ex_dgetK {a : Addr} {kvs : List (Key × V)} {k : Key} {v : V} [MnP P] (ha : H a = some (.dK kvs)) (s : Same G H) (hd : EvP td σ G (rV (.ref a))) (hk : EvP ty σ G (rV (kV k))) (hv : valV kvs k = some v) (hp : P v G) : EvX (tDGet td ty) σ G H P := fun Q q =>
  hd H s _ fun x G1 H1 e1 p1 => hk.mono e1.g H1 e1.s _ fun y G2 H2 e2 p2 => by
    cases (show x = .ref a from p1)
    cases (show y = kV k from p2)
    have e := e1.trans e2
    refine ⟨a, v, rfl, ?_, q _ G2 H2 e (mn e.g hp)⟩
    rw [← hv]
    exact DGet.k (e.h _ _ ha)
theorem ex_dinK {a : Addr} {kvs : List (Key × V)} {k : Key} (ha : H a = some (.dK kvs)) (s : Same G H) (hk : EvP ty σ G (rV (kV k))) (hd : EvP td σ G (rV (.ref a))) : EvX (tDIn ty td) σ G H (rB (valV kvs k).isSome) := fun Q q =>
  hk H s _ fun y G1 H1 e1 p1 => hd.mono e1.g H1 e1.s _ fun x G2 H2 e2 p2 => by
    cases (show x = .ref a from p2)
    cases (show y = kV k from p1)
    have e := e1.trans e2
    exact ⟨a, _, rfl, DGet.k (e.h _ _ ha), q _ G2 H2 e rfl⟩
theorem ex_dnotinK {a : Addr} {kvs : List (Key × V)} {k : Key} (ha : H a = some (.dK kvs)) (s : Same G H) (hk : EvP ty σ G (rV (kV k))) (hd : EvP td σ G (rV (.ref a))) : EvX (tDNotIn ty td) σ G H (rB (!(valV kvs k).isSome)) := fun Q q =>
  hk H s _ fun y G1 H1 e1 p1 => hd.mono e1.g H1 e1.s _ fun x G2 H2 e2 p2 => by
    cases (show x = .ref a from p2)
    cases (show y = kV k from p1)
    have e := e1.trans e2
    exact ⟨a, _, rfl, DGet.k (e.h _ _ ha), q _ G2 H2 e rfl⟩
theorem ex_dget2I {a : Addr} {f : Its} {k d : Int} (ha : H a = some (.dK (fV f))) (s : Same G H) (hd : EvP td σ G (rV (.ref a))) (hk : EvP ty σ G (rI k)) (hx : EvP tx σ G (rI d)) : EvX (tDGet2 td ty tx) σ G H (rI ((getI f k).getD d)) := fun Q q =>
  hd H s _ fun x G1 H1 e1 p1 => by
    cases (show x = .ref a from p1)
    refine ⟨a, rfl, .inl ⟨_, .inl (e1.h _ _ ha)⟩, hk.mono e1.g H1 e1.s _ fun y G2 H2 e2 p2 => hx.mono (e1.g.trans e2.g) H2 e2.s _ fun z G3 H3 e3 p3 => ?_⟩
    cases (show y = .int k from p2)
    cases (show z = .int d from p3)
    have e := (e1.trans e2).trans e3
    refine ⟨_, DGet.k (k := .inl k) (e.h _ _ ha), q _ G3 H3 e ?_⟩
    rw [valV_fV]
    cases getI f k <;> rfl
theorem s_dput {a : Addr} {kvs : List (Key × V)} {k : Key} (ha : H a = some (.dK kvs)) (hv : EvX tv σ G H P) (hd : EvP td σ G (rV (.ref a))) (hk : EvP ty σ G (rV (kV k))) (hz : kvs.length < sizeLine) [MnP P]
    (kk : ∀ v G' H', Ext G H G' H' → P v G' → H' a = some (.dK kvs) → D.nx σ (upd H' a (.dK (putK kvs k v)))) : sDPut td ty tv D σ H :=
  hv _ fun v G1 H1 e1 p1 => hd.mono e1.g H1 e1.s _ fun x G2 H2 e2 p2 => hk.mono (e1.g.trans e2.g) H2 e2.s _ fun y G3 H3 e3 p3 => by
    cases (show x = .ref a from p2)
    cases (show y = kV k from p3)
    have e := (e1.trans e2).trans e3
    exact ⟨a, _, rfl, DPut.k (e.h _ _ ha) hz, kk v G3 H3 e (mn e3.g (mn e2.g p1)) (e.h _ _ ha)⟩
theorem q_dput {a : Addr} {kvs : List (Key × V)} {k : Key} (ha : H a = some (.dK kvs)) (hv : EvX tv σ G H P) (hd : EvP td σ G (rV (.ref a))) (hk : EvP ty σ G (rV (kV k))) (hz : kvs.length < sizeLine) [MnP P]
    (kk : ∀ v G' H', Ext G H G' H' → P v G' → H' a = some (.dK kvs) → tz D σ (upd H' a (.dK (putK kvs k v)))) : tSeq (sDPut td ty tv) tz D σ H := s_dput (D := { D with nx := tz D }) ha hv hd hk hz kk
/-- d.pop(k), what comes is dropped -/
theorem s_dpop {a : Addr} {kvs : List (Key × V)} {k : Key} {v : V} (ha : H a = some (.dK kvs)) (s : Same G H) (hd : EvP td σ G (rV (.ref a))) (hk : EvP ty σ G (rV (kV k))) (hv : valV kvs k = some v)
    (kk : ∀ G' H', Ext G H G' H' → H' a = some (.dK kvs) → D.nx σ (upd H' a (.dK (dropK kvs k)))) : tDrop (tDPop1 td ty) D σ H :=
  hd H s _ fun x G1 H1 e1 p1 => by
    cases (show x = .ref a from p1)
    refine ⟨a, rfl, .inl ⟨_, .inl (e1.h _ _ ha)⟩, hk.mono e1.g H1 e1.s _ fun y G2 H2 e2 p2 => ?_⟩
    have e := e1.trans e2
    exact ⟨kvs, k, v, e.h _ _ ha, p2, hv, kk G2 H2 e (e.h _ _ ha)⟩
/-! ### instances -/
theorem ev_fld {C a dx : Addr} {fs : List (Str × V)} {f : Str} {v : V} [MnP P] (h : EvP ta σ G (rV (.ref a))) (ha : G a = some (.ins C dx fs)) (hc : Cls K C) (hn : NoAttr K C f) (hl : fs.lookup f = some v) (hp : P v G) : EvP (tFld K ta f) σ G P := fun H s Q q =>
  h H s _ fun x G1 H1 e1 p1 => ⟨a, C, dx, fs, v, p1, e1.s _ _ (e1.g _ _ ha), hc, hn, hl, q v G1 H1 e1 (mn e1.g hp)⟩
theorem ex_fld {C a dx : Addr} {fs : List (Str × V)} {f : Str} {v : V} [MnP P] (ha : H a = some (.ins C dx fs)) (s : Same G H) (h : EvP ta σ G (rV (.ref a))) (hc : Cls K C) (hn : NoAttr K C f) (hl : fs.lookup f = some v) (hp : P v G) : EvX (tFld K ta f) σ G H P := fun Q q =>
  h H s _ fun x G1 H1 e1 p1 => ⟨a, C, dx, fs, v, p1, e1.h _ _ ha, hc, hn, hl, q v G1 H1 e1 (mn e1.g hp)⟩
theorem s_fld {C a dx : Addr} {fs : List (Str × V)} {f : Str} {PH : V → Hp → Hp → Prop} (ha : H a = some (.ins C dx fs)) (hv : EvY tv σ G H PH) (h : EvP ta σ G (rV (.ref a))) (hm : ∀ v G1 H1 G2 H2, PH v G1 H1 → Ext G1 H1 G2 H2 → PH v G2 H2) (hc : Cls K C) (hn : NoAttr K C f) (hl : fs.length < 1000)
    (kk : ∀ v G' H', Ext G H G' H' → PH v G' H' → H' a = some (.ins C dx fs) → D.nx σ (upd H' a (.ins C dx (putF f v fs)))) : sFld K ta tv f D σ H :=
  hv _ fun v G1 H1 e1 p1 => h.mono e1.g H1 e1.s _ fun x G2 H2 e2 p2 => by
    have e := e1.trans e2
    exact ⟨a, C, dx, fs, p2, e.h _ _ ha, hc, hn, hl, kk v G2 H2 e (hm _ _ _ _ _ p1 e2) (e.h _ _ ha)⟩
/-- self.f = e, the value known -/
theorem q_fldP {C a dx : Addr} {fs : List (Str × V)} {f : Str} [MnP P] (ha : H a = some (.ins C dx fs)) (s : Same G H) (hv : EvP tv σ G P) (h : EvP ta σ G (rV (.ref a))) (hc : Cls K C) (hn : NoAttr K C f) (hl : fs.length < 1000)
    (kk : ∀ v G' H', Ext G H G' H' → P v G' → H' a = some (.ins C dx fs) → tz D σ (upd H' a (.ins C dx (putF f v fs)))) : tSeq (sFld K ta tv f) tz D σ H :=
  s_fld (D := { D with nx := tz D }) ha (EvX.y (hv.at s)) h (fun v _ _ _ _ p e => mn e.g p) hc hn hl kk
theorem s_fldP {C a dx : Addr} {fs : List (Str × V)} {f : Str} [MnP P] (ha : H a = some (.ins C dx fs)) (s : Same G H) (hv : EvP tv σ G P) (h : EvP ta σ G (rV (.ref a))) (hc : Cls K C) (hn : NoAttr K C f) (hl : fs.length < 1000)
    (kk : ∀ v G' H', Ext G H G' H' → P v G' → H' a = some (.ins C dx fs) → D.nx σ (upd H' a (.ins C dx (putF f v fs)))) : sFld K ta tv f D σ H :=
  s_fld ha (EvX.y (hv.at s)) h (fun v _ _ _ _ p e => mn e.g p) hc hn hl kk
/-- .. a new object that may change -/
theorem q_fldN {C a dx : Addr} {fs : List (Str × V)} {f : Str} {o : HO} (ha : H a = some (.ins C dx fs)) (s : Same G H) (hv : EvN tv σ G (fun _ o' _ => o' = o)) (h : EvP ta σ G (rV (.ref a))) (hc : Cls K C) (hn : NoAttr K C f) (hl : fs.length < 1000)
    (kk : ∀ p G' H', Ext G H G' H' → H p = none → G' p = none → H' p = some o → H' a = some (.ins C dx fs) → tz D σ (upd H' a (.ins C dx (putF f (.ref p) fs)))) : tSeq (sFld K ta tv f) tz D σ H :=
  s_fld (D := { D with nx := tz D }) ha (EvN.y hv s) h (fun v G1 H1 G2 H2 ⟨p, o', e1, e2, e3, e4, e5⟩ e => ⟨p, o', e1, e2, e.f p (by rw [e4]; exact fun z => nomatch z) e3, e.h _ _ e4, e5⟩) hc hn hl
    fun v G' H' e ⟨p, o', e1, e2, e3, e4, e5⟩ hh => by subst e1 e5; exact kk p G' H' e e2 e3 e4 hh
theorem x_meth {C a dx : Addr} {fs : List (Str × V)} {m : Str} {sp : Sp} {E : XK} {t : TA} {PP : List V → Hp → Prop} {Q : VK} (ha : H a = some (.ins C dx fs)) (s : Same G H) (hl : fs.lookup m = none) (h : EvP ta σ G (rV (.ref a))) (ht : ∀ G', Same G G' → EvA t σ G' PP)
    (kk : ∀ vs G' H', Ext G H G' H' → PP vs G' → H' a = some (.ins C dx fs) → sp (.ref a :: vs) H' Q E) : tMeth C m sp [] E ta t σ H Q :=
  h H s _ fun x G1 H1 e1 p1 => by
    cases (show x = .ref a from p1)
    refine ⟨a, dx, fs, rfl, e1.h _ _ ha, hl, ht G1 e1.g H1 e1.s _ fun vs G2 H2 e2 p2 => ?_⟩
    have e := e1.trans e2
    rw [List.append_nil]
    exact kk vs G2 H2 e p2 (e.h _ _ ha)
/-- what __init__ promises: self is new and without attributes, then it has the fields fs -/
def iSp {α : Type} (C : Addr) (pre : α → List V → Hp → Prop) (post : α → List (Str × V) → Hp → Prop) : Sp := fun vs H Q _ => ∃ (a : α) (Gb Hb G : Hp) (x dx : Addr) (args : List V), Ext Gb Hb G H ∧ vs = .ref x :: args ∧ H x = some (.ins C dx []) ∧ G x = none ∧ Hb x = none ∧ pre a args G ∧
  ∀ fs G' H', Ext Gb Hb G' H' → Same G G' → G' x = none → H' x = some (.ins C dx fs) → post a fs G' → Q .non H'
theorem en_make {α : Type} {C : Addr} {pre : α → List V → Hp → Prop} {post : α → List (Str × V) → Hp → Prop} {t : TA} {PP : List V → Hp → Prop} {E : XK} (a : α) (h : EvA t σ G PP) (hp : ∀ vs G', Same G G' → PP vs G' → pre a vs G') :
    EvN (tMake C (iSp C pre post) [] E t) σ G (fun _ o G' => ∃ dx fs, o = .ins C dx fs ∧ post a fs G') := fun H s Q q =>
  h H s _ fun vs G1 H1 e1 p1 x dx hx hdx hne => by
    have e2 := Ext.newH (o := .own x) e1.s hdx
    have hx2 : upd H1 dx (.own x) x = none := by rw [upd_ne (Ne.symm hne)]; exact hx
    have e3 := e2.trans (Ext.newH (o := .ins C dx []) e2.s hx2)
    refine ⟨a, G1, H1, G1, x, dx, vs, e3, by rw [List.append_nil], upd_same, e1.s.free hx, hx, hp vs G1 e1.g p1, fun fs G' H' e sg gx hx' po => ⟨rfl, q x _ G' H' (e1.trans e) (e1.h.free hx) gx hx' ⟨dx, fs, rfl, po⟩⟩⟩
end
section
variable {P : Program} {w : World} {K : PySem.W.Frag} {mg : Str → Option Value} {base : Heap}
structure HasM (P : Program) (w : World) (K : PySem.W.Frag) (mg : Str → Option Value) (base : Heap) (C : Addr) (m : Str) (ps : List Str) (k : Nat) (sp : Sp) : Prop where
  ex : ∃ f fd, Meth K C m f ∧ Binds K fd ps [] ∧ FnOk P w K mg base CX0 k f fd ps sp
structure HasI (P : Program) (w : World) (K : PySem.W.Frag) (mg : Str → Option Value) (base : Heap) (C : Addr) (ps : List Str) (k : Nat) (sp : Sp) : Prop where
  ex : ∃ f fd, Mk K C f ∧ Binds K fd ps [] ∧ FnOk P w K mg base CX0 k f fd ps sp
theorem hasM_mk {C : Addr} {m nm qual : Str} {params : Arguments} {body : List Stmt} {scope : Scope} {f : Addr} {fd : FuncData} {N ps : List Str} {k : Nat} {sp : Sp} (F : FunD K nm qual params body scope [] [] f fd) (hm : Meth K C m f) (S : FnScope N ps scope)
    (bnd : ∀ (kV doc pm : Value) (an : Option Addr) (cdv ct : Value) (us : List Value), us.length = ps.length → bindArgs (PySem.W.fnOf nm qual params body scope .none kV doc pm an cdv ct) ⟨us, []⟩ = pure (ps.zip us))
    (len : ∀ vs H Q E, sp vs H Q E → vs.length = ps.length)
    (hbody : ∀ (cdv : Value) (A : Around) (outer : List Env) (s : Shared) (H : Hp) (vs : List V) (Q : VK) (E : XK), Room k (A.deeper (envOfC qual scope s.heap.objs.size f cdv)) → sp vs H Q E →
      ∃ t, PSs (cxOf CX0 P w K mg base N qual scope f cdv A outer s H E).nox body t ∧ t { nx := fun _ H' => Q .non H', rt := Q } (start N vs) H) : HasM P w K mg base C m ps (k + 1) sp :=
  ⟨f, fd, hm, F.bindsN bnd, F.ok S len fun cdv A outer s H vs Q E hr hsp => by
    obtain ⟨t, h, q⟩ := hbody cdv A outer s H vs Q E hr hsp
    exact ⟨t, h.nox, q⟩⟩
theorem hasI_mk {C : Addr} {nm qual : Str} {params : Arguments} {body : List Stmt} {scope : Scope} {f : Addr} {fd : FuncData} {N ps : List Str} {k : Nat} {sp : Sp} (F : FunD K nm qual params body scope [] [] f fd) (hm : Mk K C f) (S : FnScope N ps scope)
    (bnd : ∀ (kV doc pm : Value) (an : Option Addr) (cdv ct : Value) (us : List Value), us.length = ps.length → bindArgs (PySem.W.fnOf nm qual params body scope .none kV doc pm an cdv ct) ⟨us, []⟩ = pure (ps.zip us))
    (len : ∀ vs H Q E, sp vs H Q E → vs.length = ps.length)
    (hbody : ∀ (cdv : Value) (A : Around) (outer : List Env) (s : Shared) (H : Hp) (vs : List V) (Q : VK) (E : XK), Room k (A.deeper (envOfC qual scope s.heap.objs.size f cdv)) → sp vs H Q E →
      ∃ t, PSs (cxOf CX0 P w K mg base N qual scope f cdv A outer s H E).nox body t ∧ t { nx := fun _ H' => Q .non H', rt := Q } (start N vs) H) : HasI P w K mg base C ps (k + 1) sp :=
  ⟨f, fd, hm, F.bindsN bnd, F.ok S len fun cdv A outer s H vs Q E hr hsp => by
    obtain ⟨t, h, q⟩ := hbody cdv A outer s H vs Q E hr hsp
    exact ⟨t, h.nox, q⟩⟩
end
section
variable {X : Cx} {j k : Nat} {x m : Str} {C : Addr} {ps : List Str} {sp : Sp} {p pos apos : Pos} {o e : Expr} {es : List Expr} {ta : TE} {t : TA}
theorem pe_methH {pl : Sem Bool} (h : HasM X.prog X.w X.K X.mg X.base C m ps k sp) (c : Cls X.K C) (hr : Room j X.A) (hk : k ≤ j) (he : PE X o ta) (ha : PA X (e :: es) t)
    (hst : starEach (e :: es) X.env = (false, eval e X.env) :: starEach es X.env := by rfl) (hpl : (backTo pos (starEach es X.env)).any (·.1) = false := by rfl)
    (ht : eval (.Call (.Attribute o m apos) (e :: es) [] pos) X.env = (do
      let ov ← eval o X.env
      standAt apos.atName
      let (f, first) ← holding [ov] (getMethod ov m pl)
      callWith pos f first (backTo pos (starEach (e :: es) X.env)) (backToKw pos (keywordEach [] X.env))) := by rfl) :
    PE X (.Call (.Attribute o m apos) (e :: es) [] pos) (tMeth C m sp [] E0 ta t) := by
  obtain ⟨f, fd, hm, b, F⟩ := h.ex
  exact pe_meth he c hm F (hr.mono hk) b .nil pass0 ha hst hpl ht
theorem pe_methH0 {pl : Sem Bool} (h : HasM X.prog X.w X.K X.mg X.base C m ps k sp) (c : Cls X.K C) (hr : Room j X.A) (hk : k ≤ j) (he : PE X o ta)
    (ht : eval (.Call (.Attribute o m apos) [] [] pos) X.env = (do
      let ov ← eval o X.env
      standAt apos.atName
      let (f, first) ← holding [ov] (getMethod ov m pl)
      callWith pos f first (backTo pos (starEach [] X.env)) (backToKw pos (keywordEach [] X.env))) := by rfl) :
    PE X (.Call (.Attribute o m apos) [] [] pos) (tMeth C m sp [] E0 ta tNil) := by
  obtain ⟨f, fd, hm, b, F⟩ := h.ex
  exact pe_meth0 he c hm F (hr.mono hk) b .nil pass0 ht
theorem pe_makeH (h : HasI X.prog X.w X.K X.mg X.base C ps k sp) (hr : Room j X.A) (hk : k + 1 ≤ j) (hg : Gl X x) (hm : X.mg x = some (.ref C)) (ha : PA X (e :: es) t) (hdb : (x == ("__debug__" : Str)) = false := by decide)
    (he : starEach (e :: es) X.env = (false, eval e X.env) :: starEach es X.env := by rfl) (hpl : (backTo pos (starEach es X.env)).any (·.1) = false := by rfl) : PE X (.Call (.Name x p) (e :: es) [] pos) (tMake C sp [] E0 t) := by
  obtain ⟨f, fd, M, b, F⟩ := h.ex
  exact pe_make M F (hr.mono hk) hg hm b .nil pass0 ha hdb he hpl
end
end Eld
set_option maxRecDepth 100000
set_option maxHeartbeats 1000000
/-! Whole numbers: common_divisor, bezout, opening_unit. -/
namespace Eld
open PySem PySem.Spec PyProof.Rows L2
section
variable {P : Program} {w : World} {K : PySem.W.Frag} {mg : Str → Option Value} {base : Heap}
/-! common_divisor -/
abbrev N_common_divisor : List Str := ["one", "other"]
theorem sc_common_divisor : FnScope N_common_divisor ["one", "other"] (defScope s_common_divisor) := ⟨rfl, rfl, rfl, by decide +kernel, rfl, by decide +kernel, by decide +kernel⟩
theorem gcd_step (a b : Int) : Int.gcd b (a.fmod b) = Int.gcd a b := by
  rw [Int.fmod_def, Int.mul_comm, Int.gcd_sub_mul_right_right, Int.gcd_comm]
abbrev sp_common_divisor : Sp := pSp (fun (a : Int × Int) vs _ => vs = [.int a.1, .int a.2] ∧ 0 ≤ a.2) (fun a => rI (Int.gcd a.1 a.2 : Nat))
theorem has_common_divisor (C : Ctx K mg) : Has P w K mg base "common_divisor" ["one", "other"] 1 sp_common_divisor := by
  obtain ⟨fd, F⟩ := C.d_common_divisor
  refine has_pure F C.g_common_divisor sc_common_divisor (fun _ _ _ _ _ _ us hl => match us, hl with | [_, _], _ => rfl) (fun a vs G h => by rw [h.1]; rfl) (fun cdv A outer s H vs Q E hr a G sG hp k => ?_)
  have hu := hu_of hr
  refine ⟨_, (pss_cons (ps_while PassesOwn.never (pt_cmpR op_ne (pv 1) pe_int (nomark _))
    (pss_one (ps_par (i := 0) (j := 1) (by rfl) sc_common_divisor.nd rfl rfl (by decide) rfl rfl (pa_cons (pv 1) (pa_cons (pe_op op_modN (pv 0) (pv 1)) pa_nil)) (by rfl))))
  (pss_one (ps_ret (pe_callB call_abs (by rfl) C.f_abs (by decide +kernel) (pa_cons (pv 0) pa_nil))))), ?_⟩
  obtain ⟨a, b⟩ := a
  obtain ⟨rfl, h0⟩ := hp
  have h0 : 0 ≤ b := h0
  refine q_while (Ext.refl sG) (fun m σ' G' H' => ∃ x y : Int, σ' = [some (.int x), some (.int y)] ∧ 0 ≤ y ∧ m = y.toNat ∧ Int.gcd x y = Int.gcd a b) b.toNat ⟨a, b, rfl, h0, rfl, rfl⟩ ?_
  rintro m σ' G' H' e ⟨x, y, rfl, hy, rfl, hg⟩
  refine ⟨_, et_val (ev_ne (ev_vi rfl) ev_int), fun hb G2 H2 e2 => ?_, fun hb G2 H2 e2 => ?_⟩
  · have hne : y ≠ 0 := by simpa using hb
    refine s_par (ev_vi rfl) (ev_mod (ev_vi rfl) (ev_vi rfl) hne) e2.s fun v u G3 H3 e3 p p' => ?_
    cases (show v = .int y from p)
    cases (show u = .int (x.fmod y) from p')
    have hp : 0 < y := by omega
    have h1 := Int.fmod_nonneg_of_pos x hp
    have h2 := Int.fmod_lt_of_pos x hp
    exact ⟨(x.fmod y).toNat, G3, by omega, (e.trans e2).trans e3, y, x.fmod y, rfl, h1, rfl, by rw [gcd_step]; exact hg⟩
  · have hz : y = 0 := by simpa using hb
    subst hz
    refine s_ret (P := rI (Int.gcd a b : Nat)) (ev_cb1 (ev_vi (n := x) rfl) fun v G' _ p H s Q q => ⟨x, by rw [show v = .int x from p], q _ _ _ (Ext.refl s) ?_⟩) e2.s fun v G3 H3 e3 p => k v G3 H3 ((e.trans e2).trans e3) p
    show V.int (if x < 0 then -x else x) = V.int (Int.gcd a b : Nat)
    rw [← hg, Int.gcd_zero_right]
    congr 1
    split <;> omega
/-! bezout, of small positive numbers -/
def bz : Nat → Int → Int → Int × Int → Int × Int → Int × Int × Int
  | 0, one, _, f, _ => (one, f.1, f.2)
  | m + 1, one, other, f, s => if other = 0 then (one, f.1, f.2) else bz m other (one - one.fdiv other * other) s (f.1 - one.fdiv other * s.1, f.2 - one.fdiv other * s.2)
def sml (i : Int) : Bool := decide (i.natAbs < 1073741824)
def bzOk : Nat → Int → Int → Int × Int → Int × Int → Bool
  | 0, _, other, _, _ => decide (other = 0)
  | m + 1, one, other, f, s => if other = 0 then true else sml (one.fdiv other) && sml other && sml s.1 && sml s.2 && bzOk m other (one - one.fdiv other * other) s (f.1 - one.fdiv other * s.1, f.2 - one.fdiv other * s.2)
theorem cmulW_of {i j : Int} (h1 : sml i = true) (h2 : sml j = true) : CMulW i j := by
  unfold sml at h1 h2
  have h1 := of_decide_eq_true h1
  have h2 := of_decide_eq_true h2
  have key : ∀ n : Nat, n < 1073741824 → n.log2 < 31 := fun n hn => by
    by_cases z : n = 0
    · subst z; decide
    · exact (Nat.log2_lt z).mpr (by omega)
  have a := key _ h1
  have b := key _ h2
  show _ + _ < 1000000
  omega
theorem bz_zero {m : Nat} {one : Int} {f s : Int × Int} : bz m one 0 f s = (one, f.1, f.2) := by cases m <;> simp [bz]
abbrev bzR (a b : Int) : Int × Int × Int := bz 8 a b (1, 0) (0, 1)
theorem bz_all : ∀ a : Fin 6, ∀ b : Fin 6, (0 < (a : Nat) ∧ 0 < (b : Nat)) → bzOk 8 (a : Nat) (b : Nat) (1, 0) (0, 1) = true ∧ 0 < (bzR (a : Nat) (b : Nat)).1 ∧ (bzR (a : Nat) (b : Nat)).1 = (Int.gcd (a : Nat) (b : Nat) : Nat) ∧
    ((a : Nat) : Int) * (bzR (a : Nat) (b : Nat)).2.1 + ((b : Nat) : Int) * (bzR (a : Nat) (b : Nat)).2.2 = (bzR (a : Nat) (b : Nat)).1 ∧ (bzR (a : Nat) (b : Nat)).2.1.natAbs ≤ 100 ∧ (bzR (a : Nat) (b : Nat)).2.2.natAbs ≤ 100 := by decide +kernel
structure BzOk (a b : Int) : Prop where
  ok : bzOk 8 a b (1, 0) (0, 1) = true
  pos : 0 < (bzR a b).1
  gcd : (bzR a b).1 = (Int.gcd a b : Nat)
  lin : a * (bzR a b).2.1 + b * (bzR a b).2.2 = (bzR a b).1
  l1 : (bzR a b).2.1.natAbs ≤ 100
  l2 : (bzR a b).2.2.natAbs ≤ 100
theorem bz_ok {a b : Int} (ha : 1 ≤ a ∧ a ≤ 5) (hb : 1 ≤ b ∧ b ≤ 5) : BzOk a b := by
  have := bz_all ⟨a.toNat, by omega⟩ ⟨b.toNat, by omega⟩ ⟨by show 0 < a.toNat; omega, by show 0 < b.toNat; omega⟩
  have e1 : ((a.toNat : Nat) : Int) = a := by omega
  have e2 : ((b.toNat : Nat) : Int) = b := by omega
  dsimp only at this
  rw [e1, e2] at this
  exact ⟨this.1, this.2.1, this.2.2.1, this.2.2.2.1, this.2.2.2.2.1, this.2.2.2.2.2⟩
abbrev N_bezout : List Str := ["one", "other", "first", "second", "share"]
theorem sc_bezout : FnScope N_bezout ["one", "other"] (defScope s_bezout) := ⟨rfl, rfl, rfl, by decide +kernel, rfl, by decide +kernel, by decide +kernel⟩
abbrev sp_bezout : Sp := pSp (fun (a : Int × Int) vs _ => vs = [.int a.1, .int a.2] ∧ (1 ≤ a.1 ∧ a.1 ≤ 5) ∧ 1 ≤ a.2 ∧ a.2 ≤ 5) (fun a => r3 rI rI rI (bzR a.1 a.2))
theorem has_bezout (C : Ctx K mg) : Has P w K mg base "bezout" ["one", "other"] 1 sp_bezout := by
  obtain ⟨fd, F⟩ := C.d_bezout
  refine has_pure F C.g_bezout sc_bezout (fun _ _ _ _ _ _ us hl => match us, hl with | [_, _], _ => rfl) (fun a vs G h => by rw [h.1]; rfl) (fun cdv A outer s H vs Q E hr a G sG hp k => ?_)
  have hu := hu_of hr
  refine ⟨_, (pss_cons (ps_asg (pe_tup (pa_cons (pe_tup (pa_cons pe_int (pa_cons pe_int pa_nil))) (pa_cons (pe_tup (pa_cons pe_int (pa_cons pe_int pa_nil))) pa_nil))) (pg_tup rfl (pgs_cons (pg_name (i := 2) sc_bezout.nd rfl (Or.inl rfl)) (pgs_cons (pg_name (i := 3) sc_bezout.nd rfl (Or.inl rfl)) pgs_nil))))
  (pss_cons (ps_while PassesOwn.never (pt_cmpR op_ne (pv 1) pe_int (nomark _))
    (pss_cons (ps_set (i := 4) sc_bezout.nd rfl (Or.inl rfl) (pe_op op_fdivN (pv 0) (pv 1)))
  (pss_cons (ps_par (i := 0) (j := 1) (by rfl) sc_bezout.nd rfl rfl (by decide) rfl rfl (pa_cons (pv 1) (pa_cons (pe_op op_sub (pv 0) (pe_op op_mulW (pv 4) (pv 1))) pa_nil)) (by rfl))
  (pss_one (ps_par (i := 2) (j := 3) (by rfl) sc_bezout.nd rfl rfl (by decide) rfl rfl (pa_cons (pv 3) (pa_cons (pe_tup (pa_cons (pe_op op_sub (pe_ix ix_tup (pv 2) pe_int (fun _ _ => rfl)) (pe_op op_mulW (pv 4) (pe_ix ix_tup (pv 3) pe_int (fun _ _ => rfl)))) (pa_cons (pe_op op_sub (pe_ix ix_tup (pv 2) pe_int (fun _ _ => rfl)) (pe_op op_mulW (pv 4) (pe_ix ix_tup (pv 3) pe_int (fun _ _ => rfl)))) pa_nil))) pa_nil)) (by rfl))))))
  (pss_cons (ps_if (pt_cmpR op_lt (pv 0) pe_int (nomark _))
    (pss_one (ps_ret (pe_tup (pa_cons (pe_un un_neg (pv 0)) (pa_cons (pe_un un_neg (pe_ix ix_tup (pv 2) pe_int (fun _ _ => rfl))) (pa_cons (pe_un un_neg (pe_ix ix_tup (pv 2) pe_int (fun _ _ => rfl))) pa_nil))))))
    pss_nil)
  (pss_one (ps_ret (pe_tup (pa_cons (pv 0) (pa_cons (pe_ix ix_tup (pv 2) pe_int (fun _ _ => rfl)) (pa_cons (pe_ix ix_tup (pv 2) pe_int (fun _ _ => rfl)) pa_nil))))))))), ?_⟩
  obtain ⟨a, b⟩ := a
  obtain ⟨rfl, ha, hb⟩ := hp
  have B : BzOk a b := bz_ok ha hb
  refine q_asgG (ev_t2 (R := r2 rI rI) (S := r2 rI rI) (ev_t2 (R := rI) (S := rI) (x := 1) (y := 0) ev_int ev_int) (ev_t2 (R := rI) (S := rI) (x := 0) (y := 1) ev_int ev_int)) sG fun v G1 H1 e1 p => ?_
  obtain ⟨f0, s0, pf, ps, eg⟩ := eg_2 (K := K) (σ := start N_bezout [.int a, .int b]) (i := 2) (j := 3) p
  refine ⟨_, eg, ?_⟩
  refine q_while e1 (fun m σ' G' H' => ∃ (x y : Int) (f s : Int × Int) (vf vs : V) (sh : Option V), σ' = [some (.int x), some (.int y), some vf, some vs, sh] ∧ r2 rI rI f vf G' ∧ r2 rI rI s vs G' ∧ bzOk m x y f s = true ∧ bz m x y f s = bzR a b) 8
    ⟨a, b, (1, 0), (0, 1), f0, s0, none, rfl, pf, ps, B.ok, rfl⟩ ?_
  rintro m σ' G' H' e ⟨x, y, f, s, vf, vs, sh, rfl, pf, ps, ok, eq⟩
  refine ⟨_, et_val (ev_ne (ev_vi rfl) ev_int), fun hb G2 H2 e2 => ?_, fun hb G2 H2 e2 => ?_⟩
  · have hne : y ≠ 0 := by simpa using hb
    cases m with
    | zero => exact (hne (of_decide_eq_true ok)).elim
    | succ m =>
      unfold bzOk at ok
      unfold bz at eq
      rw [if_neg hne] at ok eq
      simp only [Bool.and_eq_true] at ok
      obtain ⟨⟨⟨⟨o1, o2⟩, o3⟩, o4⟩, o5⟩ := ok
      refine q_asg (ev_div (ev_vi rfl) (ev_vi rfl) ⟨hne, of_decide_eq_true o2⟩) e2.s fun v G3 H3 e3 p => ?_
      cases (show v = .int (x.fdiv y) from p)
      refine q_par (ev_vi rfl) (ev_sub (ev_vi rfl) (ev_mul (ev_vi rfl) (ev_vi rfl) (cmulW_of o1 o2))) e3.s fun v u G4 H4 e4 p p' => ?_
      cases (show v = .int y from p)
      cases (show u = .int (x - x.fdiv y * y) from p')
      have e24 := (e2.trans e3).trans e4
      have pf' : r2 rI rI f vf G4 := mn e24.g pf
      have ps' : r2 rI rI s vs G4 := mn e24.g ps
      refine s_par (ev_var (P := r2 rI rI s) rfl ps') (ev_t2 (R := rI) (S := rI) (x := f.1 - x.fdiv y * s.1) (y := f.2 - x.fdiv y * s.2) (ev_sub (ev_fst (ev_var rfl pf')) (ev_mul (ev_vi rfl) (ev_fst (ev_var rfl ps')) (cmulW_of o1 o3)))
        (ev_sub (ev_snd (ev_var rfl pf')) (ev_mul (ev_vi rfl) (ev_snd (ev_var rfl ps')) (cmulW_of o1 o4)))) e4.s fun v u G5 H5 e5 p p' => ?_
      exact ⟨m, G5, Nat.lt_succ_self m, (e.trans e24).trans e5, y, x - x.fdiv y * y, s, _, v, u, _, rfl, p, p', o5, eq⟩
  · have hz : y = 0 := by simpa using hb
    subst hz
    rw [bz_zero] at eq
    have hpos : 0 < x := by have := B.pos; rw [← eq] at this; exact this
    have pf2 : r2 rI rI f vf G2 := mn e2.g pf
    refine q_skip ((et_val (ev_lt (ev_vi rfl) ev_int)).to (decide_eq_false (by omega))) e2.s fun G3 H3 e3 => ?_
    have pf3 : r2 rI rI f vf G3 := mn e3.g pf2
    refine s_ret (ev_t3 (R := rI) (S := rI) (U := rI) (x := x) (y := f.1) (z := f.2) (ev_vi rfl) (ev_fst (ev_var rfl pf3)) (ev_snd (ev_var rfl pf3))) e3.s fun v G4 H4 e4 p => k v G4 H4 (((e.trans e2).trans e3).trans e4) ?_
    rw [eq] at p
    exact p
end
end Eld
set_option maxRecDepth 100000
set_option maxHeartbeats 1000000
/-! Rows: opening_unit, items_scaled, scaled, items_added, mixed. -/
namespace Eld
open PySem PySem.Spec PyProof.Rows L2
/-! the plain side -/
def ou : Nat → Int → Int → Int → Int
  | 0, f, _, m => f.fmod m
  | j + 1, f, s, m => if (Int.gcd f m : Int) = 1 then f.fmod m else ou j (f + s) s m
def ouOk : Nat → Int → Int → Int → Bool
  | 0, f, _, m => decide ((Int.gcd f m : Int) = 1)
  | j + 1, f, s, m => if (Int.gcd f m : Int) = 1 then true else ouOk j (f + s) s m
abbrev ouR (a m : Int) : Int := ou 8 (bzR a m).2.1 (m.fdiv (bzR a m).1) m
theorem ou_all : ∀ m : Fin 6, ∀ a : Fin 6, (2 ≤ (m : Nat) ∧ 0 < (a : Nat) ∧ (a : Nat) < (m : Nat)) → ouOk 8 (bzR (a : Nat) (m : Nat)).2.1 (((m : Nat) : Int).fdiv (bzR (a : Nat) (m : Nat)).1) (m : Nat) = true ∧ (bzR (a : Nat) (m : Nat)).1.natAbs < 1073741824 ∧ (bzR (a : Nat) (m : Nat)).1 ≠ 0 ∧
    0 ≤ ouR (a : Nat) (m : Nat) ∧ ouR (a : Nat) (m : Nat) < (m : Nat) ∧ (((a : Nat) : Int) * ouR (a : Nat) (m : Nat)).fmod (m : Nat) = (Int.gcd (a : Nat) (m : Nat) : Nat) ∧ ∃ v : Fin 6, (ouR (a : Nat) (m : Nat) * (v : Nat)).fmod (m : Nat) = 1 := by decide +kernel
structure OuOk (a m : Int) : Prop where
  ok : ouOk 8 (bzR a m).2.1 (m.fdiv (bzR a m).1) m = true
  d1 : (bzR a m).1.natAbs < 1073741824
  d0 : (bzR a m).1 ≠ 0
  lo : 0 ≤ ouR a m
  hi : ouR a m < m
  mul : (a * ouR a m).fmod m = (Int.gcd a m : Nat)
  inv : ∃ v : Int, (ouR a m * v).fmod m = 1
theorem ou_ok {a m : Int} (hm : 2 ≤ m ∧ m ≤ 5) (ha : 1 ≤ a ∧ a < m) : OuOk a m := by
  have := ou_all ⟨m.toNat, by omega⟩ ⟨a.toNat, by omega⟩ ⟨by show 2 ≤ m.toNat; omega, by show 0 < a.toNat; omega, by show a.toNat < m.toNat; omega⟩
  have e1 : ((a.toNat : Nat) : Int) = a := by omega
  have e2 : ((m.toNat : Nat) : Int) = m := by omega
  dsimp only at this
  rw [e1, e2] at this
  obtain ⟨h1, h2, h3, h4, h5, h6, v, h7⟩ := this
  exact ⟨h1, h2, h3, h4, h5, h6, _, h7⟩
def Sml (c : Int → Int) : Prop := ∀ k, sml (c k) = true
def scF (m s : Int) (c : Int → Int) : Int → Int := fun k => (c k * s).fmod m
def adF (m : Int) (c d : Int → Int) : Int → Int := fun k => (c k + d k).fmod m
theorem sml_fmod {x m : Int} (h0 : 0 < m) (h1 : m ≤ 1000) : sml (x.fmod m) = true := by
  have a := Int.fmod_nonneg_of_pos x h0
  have b := Int.fmod_lt_of_pos x h0
  unfold sml
  rw [decide_eq_true_eq]
  omega
theorem zero_fmod' (m : Int) : (0 : Int).fmod m = 0 := by simp
theorem scF_rg {m s : Int} {c : Int → Int} {k : Int} (h : scF m s c k ≠ 0) : c k ≠ 0 := fun e => h (by unfold scF; rw [e, Int.zero_mul, zero_fmod'])
def iscL (s m : Int) (f : Its) : Its := (f.filter fun p => !decide ((p.2 * s).fmod m = 0)).map fun p => (p.1, (p.2 * s).fmod m)
theorem iscL_keys (s m : Int) (f : Its) : ((iscL s m f).map (·.1)).Sublist (f.map (·.1)) := by
  unfold iscL
  rw [List.map_map]
  exact List.filter_sublist.map _
theorem isF_isc {n : Nat} {c : Int → Int} {f : Its} (s m : Int) (h : IsF n c f) : IsF n (scF m s c) (iscL s m f) := by
  have nd : ((iscL s m f).map (·.1)).Nodup := h.nd.sublist (iscL_keys s m f)
  refine ⟨nd, fun k => ?_, fun k hk => h.rg k (scF_rg hk)⟩
  by_cases e : scF m s c k = 0
  · rw [if_pos e]
    cases q : getI (iscL s m f) k with
    | none => rfl
    | some v =>
      have m1 := (getI_mem nd).mpr q
      obtain ⟨p, hp, ep⟩ := List.mem_map.mp m1
      obtain ⟨hp1, hp2⟩ := List.mem_filter.mp hp
      obtain ⟨p1, p2⟩ := p
      cases ep
      have := (getI_mem h.nd).mp hp1
      rw [h.get] at this
      by_cases z : c p1 = 0
      · rw [if_pos z] at this; cases this
      · rw [if_neg z] at this
        cases this
        have hp2' : (c p1 * s).fmod m ≠ 0 := by simpa using hp2
        exact (hp2' e).elim
  · rw [if_neg e]
    have z := scF_rg e
    have m1 : (k, c k) ∈ f := (getI_mem h.nd).mpr (h.some z)
    refine (getI_mem nd).mp (List.mem_map.mpr ⟨(k, c k), List.mem_filter.mpr ⟨m1, ?_⟩, rfl⟩)
    have e' : (c k * s).fmod m ≠ 0 := e
    simp [e']
theorem IsF.congr {n : Nat} {c d : Int → Int} {f : Its} (h : IsF n c f) (e : ∀ k, c k = d k) : IsF n d f := (funext e : c = d) ▸ h
theorem isF_put {n : Nat} {c : Int → Int} {f : Its} {k v : Int} (h : IsF n c f) (hv : v ≠ 0) (h0 : 0 ≤ k) (h1 : k < n) : IsF n (fun j => if j = k then v else c j) (putI f k v) := by
  refine ⟨putI_nd k v h.nd, fun j => ?_, fun j hj => ?_⟩
  · rw [getI_put, h.get]
    by_cases e : j = k
    · simp [e, hv]
    · simp [e]
  · by_cases e : j = k
    · subst e; exact ⟨h0, h1⟩
    · exact h.rg j (by simpa [e] using hj)
theorem isF_drop {n : Nat} {c : Int → Int} {f : Its} {k : Int} (h : IsF n c f) : IsF n (fun j => if j = k then 0 else c j) (dropI f k) := by
  refine ⟨dropI_nd k h.nd, fun j => ?_, fun j hj => ?_⟩
  · rw [getI_drop, h.get]
    by_cases e : j = k
    · simp [e]
    · simp [e]
  · by_cases e : j = k
    · simp [e] at hj
    · exact h.rg j (by simpa [e] using hj)
section
variable {P : Program} {w : World} {K : PySem.W.Frag} {mg : Str → Option Value} {base : Heap}
/-! opening_unit -/
theorem ev_slice2 {σ : St} {G : Hp} {te : TE} {p : Int × Int × Int} (h : EvP te σ G (r3 rI rI rI p)) : EvP (tSl (rSlA K) te tNoPart (tPart (tC (.int 2)))) σ G (r2 rI rI (p.1, p.2.1)) := fun H s Q q =>
  h H s _ fun v G1 H1 e1 p1 => by
    obtain ⟨a, x, y, z, rfl, ha, rx, ry, rz⟩ := p1
    refine ⟨2, rfl, a, [x, y, z], rfl, SqT.of (e1.s _ _ ha), fun h => ?_, fun _ b hb => ?_⟩
    · exact absurd h.2 (by show ¬ min 2 3 = 3; decide)
    · exact q _ _ _ (e1.trans (Ext.new e1.s hb)) ⟨b, x, y, rfl, upd_same, rx, ry⟩
abbrev N_opening_unit : List Str := ["number", "hours", "divisor", "first", "step"]
theorem sc_opening_unit : FnScope N_opening_unit ["number", "hours"] (defScope s_opening_unit) := ⟨rfl, rfl, rfl, by decide +kernel, rfl, by decide +kernel, by decide +kernel⟩
abbrev sp_opening_unit : Sp := pSp (fun (a : Int × Int) vs _ => vs = [.int a.1, .int a.2] ∧ (2 ≤ a.2 ∧ a.2 ≤ 5) ∧ 1 ≤ a.1 ∧ a.1 < a.2) (fun a => rI (ouR a.1 a.2))
theorem has_opening_unit (C : Ctx K mg) : Has P w K mg base "opening_unit" ["number", "hours"] 2 sp_opening_unit := by
  obtain ⟨fd, F⟩ := C.d_opening_unit
  refine has_pure F C.g_opening_unit sc_opening_unit (fun _ _ _ _ _ _ us hl => match us, hl with | [_, _], _ => rfl) (fun a vs G h => by rw [h.1]; rfl) (fun cdv A outer s H vs Q E hr a G sG hp k => ?_)
  have hu := hu_of hr
  refine ⟨_, (pss_cons (ps_asg (pe_slice sl_tupA (pe_callH (has_bezout C) hr (by decide) rfl (pa_cons (pv 0) (pa_cons (pv 1) pa_nil))) po_none (po_some pe_int)) (pg_tup rfl (pgs_cons (pg_name (i := 2) sc_opening_unit.nd rfl (Or.inl rfl)) (pgs_cons (pg_name (i := 3) sc_opening_unit.nd rfl (Or.inl rfl)) pgs_nil))))
  (pss_cons (ps_set (i := 4) sc_opening_unit.nd rfl (Or.inl rfl) (pe_op op_fdivN (pv 1) (pv 2)))
  (pss_cons (ps_while PassesOwn.never (pt_cmpR op_ne (pe_callH (has_common_divisor C) hr (by decide) rfl (pa_cons (pv 3) (pa_cons (pv 1) pa_nil))) pe_int (nomark _))
    (pss_one (ps_aug (i := 3) sc_opening_unit.nd rfl (Or.inl rfl) (pv 4) ip_add)))
  (pss_one (ps_ret (pe_op op_modN (pv 3) (pv 1))))))), ?_⟩
  obtain ⟨a, m⟩ := a
  obtain ⟨rfl, hm, ha⟩ := hp
  have hm : 2 ≤ m ∧ m ≤ 5 := hm
  have ha : 1 ≤ a ∧ a < m := ha
  have O := ou_ok hm ha
  refine q_asgG (ev_slice2 (ev_call2 (a, m) (ev_vi rfl) (ev_vi rfl) fun v u G' _ p p' => ⟨by rw [show v = .int a from p, show u = .int m from p'], ⟨ha.1, by show a ≤ 5; omega⟩, by show 1 ≤ m; omega, hm.2⟩)) sG fun v G1 H1 e1 p => ?_
  obtain ⟨x, y, px, py, eg⟩ := eg_2 (K := K) (σ := start N_opening_unit [.int a, .int m]) (i := 2) (j := 3) p
  refine ⟨_, eg, ?_⟩
  cases (show x = .int (bzR a m).1 from px)
  cases (show y = .int (bzR a m).2.1 from py)
  refine q_asg (ev_div (ev_vi rfl) (ev_vi rfl) ⟨O.d0, O.d1⟩) e1.s fun v G2 H2 e2 p2 => ?_
  cases (show v = .int (m.fdiv (bzR a m).1) from p2)
  refine q_while (e1.trans e2) (fun j σ' G' H' => ∃ f : Int, σ' = [some (.int a), some (.int m), some (.int (bzR a m).1), some (.int f), some (.int (m.fdiv (bzR a m).1))] ∧ ouOk j f (m.fdiv (bzR a m).1) m = true ∧ ou j f (m.fdiv (bzR a m).1) m = ouR a m) 8
    ⟨_, rfl, O.ok, rfl⟩ ?_
  rintro j σ' G' H' e ⟨f, rfl, ok, eq⟩
  refine ⟨_, et_val (ev_ne (ev_call2 (E := E0) (f, m) (ev_vi rfl) (ev_vi rfl) fun v u G' _ p p' => ⟨by rw [show v = .int f from p, show u = .int m from p'], by show 0 ≤ m; omega⟩) ev_int), fun hb G3 H3 e3 => ?_, fun hb G3 H3 e3 => ?_⟩
  · have hne : ¬ (Int.gcd f m : Int) = 1 := by simpa using hb
    cases j with
    | zero => exact (hne (of_decide_eq_true ok)).elim
    | succ j =>
      unfold ouOk at ok
      unfold ou at eq
      rw [if_neg hne] at ok eq
      exact s_aug rfl (ev_vi rfl) e3.s fun G4 H4 e4 => ⟨j, G4, Nat.lt_succ_self j, (e.trans e3).trans e4, _, rfl, ok, eq⟩
  · have hz : (Int.gcd f m : Int) = 1 := by simpa using hb
    have ef : f.fmod m = ouR a m := by
      rw [← eq]
      cases j with
      | zero => rfl
      | succ j => unfold ou; rw [if_pos hz]
    refine s_ret (ev_mod (ev_vi rfl) (ev_vi rfl) (by omega)) e3.s fun v G4 H4 e4 p => k v G4 H4 ((e.trans e3).trans e4) ?_
    rw [ef] at p
    exact p
/-! items_scaled -/
abbrev N_items_scaled : List Str := ["items", "factor", "hours", "found", "key", "number"]
theorem sc_items_scaled : FnScope N_items_scaled ["items", "factor", "hours"] (defScope s_items_scaled) := ⟨rfl, rfl, rfl, by decide +kernel, rfl, by decide +kernel, by decide +kernel⟩
structure ScArg where
  n : Nat
  c : Int → Int
  s : Int
  m : Int
abbrev sp_items_scaled : Sp := pSp (fun (a : ScArg) vs G => (∃ v, vs = [v, .int a.s, .int a.m] ∧ rC a.n a.c v G) ∧ 0 < a.m ∧ a.n ≤ 1000 ∧ Sml a.c ∧ sml a.s = true) (fun a => rC a.n (scF a.m a.s a.c))
theorem has_items_scaled (C : Ctx K mg) : Has P w K mg base "items_scaled" ["items", "factor", "hours"] 1 sp_items_scaled := by
  obtain ⟨fd, F⟩ := C.d_items_scaled
  refine has_pure F C.g_items_scaled sc_items_scaled (fun _ _ _ _ _ _ us hl => match us, hl with | [_, _, _], _ => rfl) (fun a vs G h => by obtain ⟨⟨v, rfl, _⟩, _⟩ := h; rfl) (fun cdv A outer st H vs Q E hr a G sG hp k => ?_)
  have hu := hu_of hr
  refine ⟨_, (pss_cons (ps_set (i := 3) sc_items_scaled.nd rfl (Or.inl rfl) pe_dnewK)
  (pss_cons (ps_lock (ps_for PassesOwn.never (by rfl) (pi_items (pv 0)) (pg_tup rfl (pgs_cons (pg_name (i := 4) sc_items_scaled.nd rfl (Or.inl rfl)) (pgs_cons (pg_name (i := 5) sc_items_scaled.nd rfl (Or.inl rfl)) pgs_nil)))
    (pss_one (ps_if (pt_cmpR op_ne (pe_op op_modN (pe_op op_mulW (pv 5) (pv 1)) (pv 2)) pe_int (nomark _))
    (pss_one (ps_dput hu (pv 3) (pv 4) (pe_op op_modN (pe_op op_mulW (pv 5) (pv 1)) (pv 2)) rfl))
    pss_nil))))
  (pss_one (ps_ret (pv 3))))), ?_⟩
  obtain ⟨n, c, s, m⟩ := a
  obtain ⟨⟨v, rfl, ⟨d, f, rfl, hd, hf⟩⟩, hm, hn, hc, hs⟩ := hp
  have hm : 0 < m := hm
  have hlen := hf.len
  have hn : n ≤ 1000 := hn
  refine q_asgN en_dK sG fun p o G1 H1 e1 hp1 gp1 ho eo => ?_
  subst eo
  have hdp : p ≠ d := fun z => by subst z; rw [sG _ _ hd] at hp1; cases hp1
  refine s_items (D := { nx := _, rt := _, bk := _, ct := _ }) e1 sG hd rfl (fun i σ' G' H' => ∃ x y, σ' = [some (.ref d), some (.int s), some (.int m), some (.ref p), x, y] ∧ H' p = some (.dK (fV (iscL s m (f.take i)))) ∧ G' p = none) (fun o G2 H2 e2 => ?_) (fun o i kk v σ' G0 H0 G' H' Gs D' hkv e0 j e' ss hD => ?_) (fun o σ' G' H' e2 e2' j => ?_)
  · refine ⟨none, none, rfl, e2.h _ _ (by rw [upd_ne hdp]; exact ho), e2.f p (by rw [upd_ne hdp, ho]; exact fun z => nomatch z) (by rw [upd_ne hdp]; exact gp1)⟩
  · obtain ⟨x, y, rfl, hp0, gp0⟩ := j
    obtain ⟨kx, b, hfi, rfl, rfl⟩ := fV_get hkv
    obtain ⟨rfl, hb⟩ := hf.at hfi
    have hi : i < f.length := (List.getElem?_eq_some_iff.mp hfi).1
    have hp' := e'.h _ _ hp0
    have gp' : G' p = none := e'.f p (by rw [hp0]; exact fun z => nomatch z) gp0
    have hval : EvP (tOp (L2.rI (fun _ j => j ≠ 0) fun i j => .int (i.fmod j)) (tOp (L2.rI CMulW fun i j => .int (i * j)) (tVar 5) (tVar 1)) (tVar 2)) [some (.ref d), some (.int s), some (.int m), some (.ref p), some (.int kx), some (.int (c kx))] G' (rI ((c kx * s).fmod m)) :=
      ev_mod (ev_mul (ev_vi rfl) (ev_vi rfl) (cmulW_of (hc kx) hs)) (ev_vi rfl) (by omega)
    have htake : f.take (i + 1) = f.take i ++ [(kx, c kx)] := by
      rw [take_snoc hi]
      rw [List.getElem?_eq_getElem hi] at hfi
      rw [Option.some.inj hfi]
    refine s_if (et_val (ev_ne hval ev_int)) e'.s (fun hb' G2 H2 e2 => ?_) (fun hb' G2 H2 e2 => ?_)
    · have hne : ¬ (c kx * s).fmod m = 0 := by simpa using hb'
      have hp2 := e2.h _ _ hp'
      have hlt : (fV (iscL s m (f.take i))).length < sizeLine := by
        refine small1000 ?_
        rw [fV_len]
        have h1 := (iscL_keys s m (f.take i)).length_le
        rw [List.length_map, List.length_map, List.length_take] at h1
        omega
      refine s_dput (k := .inl kx) hp2 ((hval.mono e2.g).at e2.s) (ev_var rfl rfl) (ev_var rfl rfl) hlt fun v G3 H3 e3 p3 hp3 => ?_
      cases (show v = .int ((c kx * s).fmod m) from p3)
      rw [hD]
      have gp3 : G3 p = none := (e2.trans e3).f p (by rw [hp']; exact fun z => nomatch z) gp'
      have eall := ((e0.trans e').trans e2).trans e3
      have hbn : (L2.upd H d (.frz o (.dK (fV f)))) p = none := by rw [upd_ne hdp]; exact hp1
      refine ⟨G3, ss.trans ((e'.g.trans e2.g).trans e3.g), eall.upd hbn gp3, some (.int kx), some (.int (c kx)), rfl, ?_, gp3⟩
      rw [upd_same, putK_fV, htake]
      congr 3
      have hnone : getI (iscL s m (f.take i)) kx = none := by
        cases q : getI (iscL s m (f.take i)) kx with
        | none => rfl
        | some v =>
          have := getI_key.mp (by rw [q]; rfl)
          have h2 := (iscL_keys s m (f.take i)).subset this
          have nd := hf.nd
          have h3 : (f.take (i + 1)).map (·.1) = (f.take i).map (·.1) ++ [kx] := by rw [htake, List.map_append]; rfl
          have nd2 : ((f.take (i + 1)).map (·.1)).Nodup := nd.sublist ((List.take_sublist _ _).map _)
          rw [h3, List.nodup_append] at nd2
          exact (nd2.2.2 _ h2 _ (List.mem_singleton.mpr rfl) rfl).elim
      unfold putI
      rw [hnone, if_neg (by simp)]
      unfold iscL
      rw [List.filter_append, List.map_append, List.filter_cons, if_pos (by simp [hne])]
      rfl
    · have hz : (c kx * s).fmod m = 0 := by simpa using hb'
      show D'.nx _ _
      rw [hD]
      have gp2 : G2 p = none := e2.f p (by rw [hp']; exact fun z => nomatch z) gp'
      refine ⟨G2, ss.trans (e'.g.trans e2.g), (e0.trans e').trans e2, some (.int kx), some (.int (c kx)), rfl, ?_, gp2⟩
      rw [e2.h _ _ hp', htake]
      unfold iscL
      rw [List.filter_append, List.map_append, List.filter_cons, if_neg (by simp [hz])]
      show some (HO.dK (fV _)) = some (HO.dK (fV (_ ++ [])))
      rw [List.append_nil]
  · obtain ⟨x, y, rfl, hp2, gp2⟩ := j
    rw [fV_len, List.take_length] at hp2
    have hp3 : L2.upd H' d (.dK (fV f)) p = some (.dK (fV (iscL s m f))) := by rw [upd_ne hdp]; exact hp2
    have gp3 : L2.upd G' d (.dK (fV f)) p = none := by rw [upd_ne hdp]; exact gp2
    have e3 := e2.know hp1 gp3 hp3
    exact s_ret (P := rC n (scF m s c)) (ev_var rfl ⟨p, _, rfl, upd_same, isF_isc s m hf⟩) e3.s fun v G4 H4 e4 p4 => k v G4 H4 (e3.trans e4) p4
end
end Eld
set_option maxRecDepth 100000
set_option maxHeartbeats 1000000
/-! Rows: scaled, items_added, mixed. -/
namespace Eld
open PySem PySem.Spec PyProof.Rows L2
/-- a row: its lefts, its right, its weights -/
structure Rw where
  c : Int → Int
  r : Int
  w : Int → Int
abbrev Rw.t (ρ : Rw) : (Int → Int) × Int × (Int → Int) := (ρ.c, ρ.r, ρ.w)
def rRow (n q : Nat) (ρ : Rw) : V → Hp → Prop := r3 (rC n) rI (rC q) ρ.t
instance {n q : Nat} {ρ : Rw} : MnP (rRow n q ρ) := inferInstanceAs (MnP (r3 (rC n) rI (rC q) ρ.t))
/-- all numbers are in [0, m) -/
structure Rw.In (m : Int) (ρ : Rw) : Prop where
  c : ∀ k, 0 ≤ ρ.c k ∧ ρ.c k < m
  r : 0 ≤ ρ.r ∧ ρ.r < m
  w : ∀ k, 0 ≤ ρ.w k ∧ ρ.w k < m
/-- all numbers are small -/
structure Rw.Sm (ρ : Rw) : Prop where
  c : Sml ρ.c
  r : sml ρ.r = true
  w : Sml ρ.w
theorem sml_of {x m : Int} (h : 0 ≤ x ∧ x < m) (hm : m ≤ 1000) : sml x = true := by
  unfold sml
  rw [decide_eq_true_eq]
  omega
theorem Rw.In.sm {m : Int} {ρ : Rw} (h : ρ.In m) (hm : m ≤ 1000) : ρ.Sm := ⟨fun k => sml_of (h.c k) hm, sml_of h.r hm, fun k => sml_of (h.w k) hm⟩
def Rw.sc (m s : Int) (ρ : Rw) : Rw := ⟨scF m s ρ.c, (ρ.r * s).fmod m, scF m s ρ.w⟩
def Rw.ad (m : Int) (ρ τ : Rw) : Rw := ⟨adF m ρ.c τ.c, (ρ.r + τ.r).fmod m, adF m ρ.w τ.w⟩
def Rw.mix (m : Int) (ρ : Rw) (f : Int) (τ : Rw) (g : Int) : Rw := (ρ.sc m f).ad m (τ.sc m g)
theorem fmod_in {m : Int} (hm : 0 < m) (x : Int) : 0 ≤ x.fmod m ∧ x.fmod m < m := ⟨Int.fmod_nonneg_of_pos x hm, Int.fmod_lt_of_pos x hm⟩
theorem Rw.sc_in {m s : Int} {ρ : Rw} (hm : 0 < m) : (ρ.sc m s).In m := ⟨fun _ => fmod_in hm _, fmod_in hm _, fun _ => fmod_in hm _⟩
theorem Rw.mix_in {m f g : Int} {ρ τ : Rw} (hm : 0 < m) : (ρ.mix m f τ g).In m := ⟨fun _ => fmod_in hm _, fmod_in hm _, fun _ => fmod_in hm _⟩
theorem adF_self {m : Int} {c : Int → Int} (h : ∀ k, 0 ≤ c k ∧ c k < m) (k : Int) : (c k + 0).fmod m = c k := by
  rw [Int.add_zero, Int.fmod_eq_emod_of_nonneg _ (by have := h k; omega), Int.emod_eq_of_lt (h k).1 (h k).2]
section
variable {P : Program} {w : World} {K : PySem.W.Frag} {mg : Str → Option Value} {base : Heap}
/-! scaled -/
abbrev N_scaled : List Str := ["row", "factor", "hours", "lefts", "right", "weights"]
theorem sc_scaled : FnScope N_scaled ["row", "factor", "hours"] (defScope s_scaled) := ⟨rfl, rfl, rfl, by decide +kernel, rfl, by decide +kernel, by decide +kernel⟩
structure ScA where
  n : Nat
  q : Nat
  ρ : Rw
  s : Int
  m : Int
abbrev sp_scaled : Sp := pSp (fun (a : ScA) vs G => (∃ v, vs = [v, .int a.s, .int a.m] ∧ rRow a.n a.q a.ρ v G) ∧ 0 < a.m ∧ a.n ≤ 1000 ∧ a.q ≤ 1000 ∧ a.ρ.Sm ∧ sml a.s = true) (fun a => rRow a.n a.q (a.ρ.sc a.m a.s))
theorem has_scaled (C : Ctx K mg) : Has P w K mg base "scaled" ["row", "factor", "hours"] 2 sp_scaled := by
  obtain ⟨fd, F⟩ := C.d_scaled
  refine has_pure F C.g_scaled sc_scaled (fun _ _ _ _ _ _ us hl => match us, hl with | [_, _, _], _ => rfl) (fun a vs G h => by obtain ⟨⟨v, rfl, _⟩, _⟩ := h; rfl) (fun cdv A outer st H vs Q E hr a G sG hp k => ?_)
  have hu := hu_of hr
  refine ⟨_, (pss_cons (ps_asg (pv 0) (pg_tup rfl (pgs_cons (pg_name (i := 3) sc_scaled.nd rfl (Or.inl rfl)) (pgs_cons (pg_name (i := 4) sc_scaled.nd rfl (Or.inl rfl)) (pgs_cons (pg_name (i := 5) sc_scaled.nd rfl (Or.inl rfl)) pgs_nil)))))
  (pss_one (ps_ret (pe_tup (pa_cons (pe_callH (has_items_scaled C) hr (by decide) rfl (pa_cons (pv 3) (pa_cons (pv 1) (pa_cons (pv 2) pa_nil)))) (pa_cons (pe_op op_modN (pe_op op_mulW (pv 4) (pv 1)) (pv 2)) (pa_cons (pe_callH (has_items_scaled C) hr (by decide) rfl (pa_cons (pv 5) (pa_cons (pv 1) (pa_cons (pv 2) pa_nil)))) pa_nil))))))), ?_⟩
  obtain ⟨n, q, ρ, s, m⟩ := a
  obtain ⟨⟨v, rfl, hv⟩, hm, hn, hq, hS, hs⟩ := hp
  have hm : 0 < m := hm
  refine q_asgG (P := rRow n q ρ) (ev_var rfl hv) sG fun u G1 H1 e1 p => ?_
  obtain ⟨x, y, z, px, py, pz, eg⟩ := eg_3 (K := K) (σ := start N_scaled [v, .int s, .int m]) (i := 3) (j := 4) (k := 5) p
  refine ⟨_, eg, ?_⟩
  cases (show y = .int ρ.r from py)
  exact s_ret (ev_t3 (R := rC n) (S := rI) (U := rC q)
    (ev_call3 (⟨n, ρ.c, s, m⟩ : ScArg) (ev_var rfl px) (ev_vi rfl) (ev_vi rfl) fun v u z G' _ p p' p'' => ⟨⟨v, by rw [show u = .int s from p', show z = .int m from p''], p⟩, hm, hn, hS.c, hs⟩)
    (ev_mod (ev_mul (ev_vi rfl) (ev_vi rfl) (cmulW_of hS.r hs)) (ev_vi rfl) (by omega))
    (ev_call3 (⟨q, ρ.w, s, m⟩ : ScArg) (ev_var rfl pz) (ev_vi rfl) (ev_vi rfl) fun v u z G' _ p p' p'' => ⟨⟨v, by rw [show u = .int s from p', show z = .int m from p''], p⟩, hm, hq, hS.w, hs⟩)) e1.s fun v G2 H2 e2 p2 => k v G2 H2 (e1.trans e2) p2
/-! items_added -/
abbrev N_items_added : List Str := ["items", "others", "hours", "found", "key", "number", "total"]
theorem sc_items_added : FnScope N_items_added ["items", "others", "hours"] (defScope s_items_added) := ⟨rfl, rfl, rfl, by decide +kernel, rfl, by decide +kernel, by decide +kernel⟩
structure AdArg where
  n : Nat
  c : Int → Int
  d : Int → Int
  m : Int
abbrev sp_items_added : Sp := pSp (fun (a : AdArg) vs G => (∃ v u, vs = [v, u, .int a.m] ∧ rC a.n a.c v G ∧ rC a.n a.d u G) ∧ 0 < a.m ∧ a.n ≤ 1000 ∧ ∀ k, 0 ≤ a.c k ∧ a.c k < a.m) (fun a => rC a.n (adF a.m a.c a.d))
theorem has_items_added (C : Ctx K mg) : Has P w K mg base "items_added" ["items", "others", "hours"] 1 sp_items_added := by
  obtain ⟨fd, F⟩ := C.d_items_added
  refine has_pure F C.g_items_added sc_items_added (fun _ _ _ _ _ _ us hl => match us, hl with | [_, _, _], _ => rfl) (fun a vs G h => by obtain ⟨⟨v, u, rfl, _⟩, _⟩ := h; rfl) (fun cdv A outer st H vs Q E hr a G sG hp k => ?_)
  have hu := hu_of hr
  refine ⟨_, (pss_cons (ps_set (i := 3) sc_items_added.nd rfl (Or.inl rfl) (pe_bm0 PySem.F.plainAttrs_dict PySem.F.slot_dict_copy PySem.F.type_dict_copy mt_copyK (pv 0)))
  (pss_cons (ps_lock (ps_for PassesOwn.never (by rfl) (pi_items (pv 1)) (pg_tup rfl (pgs_cons (pg_name (i := 4) sc_items_added.nd rfl (Or.inl rfl)) (pgs_cons (pg_name (i := 5) sc_items_added.nd rfl (Or.inl rfl)) pgs_nil)))
    (pss_cons (ps_set (i := 6) sc_items_added.nd rfl (Or.inl rfl) (pe_op op_modN (pe_op op_add (pe_dget2 hu (pv 3) (pv 4) pe_int ⟨rfl, rfl, rfl, rfl⟩) (pv 5)) (pv 2)))
  (pss_one (ps_if (pt_cmpR op_ne (pv 6) pe_int (nomark _))
    (pss_one (ps_dput hu (pv 3) (pv 4) (pv 6) rfl))
    (pss_one (ps_if (pt_cmp (pc_din hu (pv 4) (pv 3)))
    (pss_one (ps_expr (pe_dpop1 (pv 3) (pv 4) ⟨rfl, rfl, rfl, rfl⟩)))
    pss_nil)))))))
  (pss_one (ps_ret (pv 3))))), ?_⟩
  obtain ⟨n, c, dd, m⟩ := a
  obtain ⟨⟨v, u, rfl, hv, ⟨d, f, rfl, hd, hf⟩⟩, hm, hn, hc⟩ := hp
  have hm : 0 < m := hm
  have hlen := hf.len
  have hn : n ≤ 1000 := hn
  refine q_asgN (en_copyC (ev_var (P := rC n c) rfl hv)) sG fun p o G1 H1 e1 hp1 gp1 ho eo => ?_
  obtain ⟨f0, rfl, hf0⟩ := eo
  have hdp : p ≠ d := fun z => by subst z; rw [sG _ _ hd] at hp1; cases hp1
  refine s_items (D := { nx := _, rt := _, bk := _, ct := _ }) e1 sG hd rfl (fun i σ' G' H' => ∃ x y z fi, σ' = [some v, some (.ref d), some (.int m), some (.ref p), x, y, z] ∧ H' p = some (.dK (fV fi)) ∧ G' p = none ∧ IsF n (fun k => if k ∈ (f.take i).map (·.1) then (c k + dd k).fmod m else c k) fi)
    (fun o G2 H2 e2 => ?_) (fun o i kk v' σ' G0 H0 G' H' Gs D' hkv e0 j e' ss hD => ?_) (fun o σ' G' H' e2 e2' j => ?_)
  · exact ⟨none, none, none, f0, rfl, e2.h _ _ (by rw [upd_ne hdp]; exact ho), e2.f p (by rw [upd_ne hdp, ho]; exact fun z => nomatch z) (by rw [upd_ne hdp]; exact gp1), hf0.congr fun k => by simp⟩
  · obtain ⟨x, y, z, fi, rfl, hp0, gp0, hfi0⟩ := j
    obtain ⟨kx, b, hfi, rfl, rfl⟩ := fV_get hkv
    obtain ⟨rfl, hb⟩ := hf.at hfi
    have hi : i < f.length := (List.getElem?_eq_some_iff.mp hfi).1
    have hp' := e'.h _ _ hp0
    have gp' : G' p = none := e'.f p (by rw [hp0]; exact fun z => nomatch z) gp0
    have htake : f.take (i + 1) = f.take i ++ [(kx, dd kx)] := by
      rw [take_snoc hi]
      rw [List.getElem?_eq_getElem hi] at hfi
      rw [Option.some.inj hfi]
    have hkeys : (f.take (i + 1)).map (·.1) = (f.take i).map (·.1) ++ [kx] := by rw [htake, List.map_append]; rfl
    have hnk : kx ∉ (f.take i).map (·.1) := fun h2 => by
      have nd2 : ((f.take (i + 1)).map (·.1)).Nodup := hf.nd.sublist ((List.take_sublist _ _).map _)
      rw [hkeys, List.nodup_append] at nd2
      exact (nd2.2.2 _ h2 _ (List.mem_singleton.mpr rfl) rfl).elim
    have hcur : (getI fi kx).getD 0 = c kx := by rw [hfi0.getD]; simp only [if_neg hnk]
    have hbn : (L2.upd H d (.frz o (.dK (fV f)))) p = none := by rw [upd_ne hdp]; exact hp1
    have hkr := hf.rg kx hb
    have hnew : ∀ j, (if j = kx then (c kx + dd kx).fmod m else if j ∈ (f.take i).map (·.1) then (c j + dd j).fmod m else c j) = if j ∈ (f.take (i + 1)).map (·.1) then (c j + dd j).fmod m else c j := fun j => by
      rw [hkeys]
      by_cases e : j = kx
      · subst e; simp
      · simp [e]
    refine x_asg (ex_mod (ex_add (ex_dget2I hp' e'.s (ev_var rfl rfl) (ev_vi rfl) ev_int) fun G2 H2 e2 => (ev_vi (n := dd kx) rfl).at e2.s) (fun G2 H2 e2 => (ev_vi (n := m) rfl).at e2.s) (by omega)) fun v2 G2 H2 e2 p2 => ?_
    rw [hcur] at p2
    cases (show v2 = .int ((c kx + dd kx).fmod m) from p2)
    have hp2 := e2.h _ _ hp'
    have gp2 : G2 p = none := e2.f p (by rw [hp']; exact fun z => nomatch z) gp'
    refine s_if (et_val (ev_ne (ev_vi rfl) ev_int)) e2.s (fun hb' G3 H3 e3 => ?_) (fun hb' G3 H3 e3 => ?_)
    · have hne : ¬ (c kx + dd kx).fmod m = 0 := by simpa using hb'
      have hp3 := e3.h _ _ hp2
      have hlt : (fV fi).length < sizeLine := small1000 (by rw [fV_len]; have := hfi0.len; omega)
      refine s_dput (P := rI ((c kx + dd kx).fmod m)) (k := .inl kx) hp3 ((ev_vi rfl).at e3.s) (ev_var rfl rfl) (ev_var rfl rfl) hlt fun v G4 H4 e4 p4 hp4 => ?_
      cases (show v = .int ((c kx + dd kx).fmod m) from p4)
      rw [hD]
      have e24 := (e'.trans e2).trans (e3.trans e4)
      have gp4 : G4 p = none := (e3.trans e4).f p (by rw [hp2]; exact fun z => nomatch z) gp2
      refine ⟨G4, ss.trans e24.g, (e0.trans e24).upd hbn gp4, some (.int kx), some (.int (dd kx)), _, putI fi kx ((c kx + dd kx).fmod m), rfl, by rw [upd_same, putK_fV], gp4, ?_⟩
      exact (isF_put hfi0 hne hkr.1 hkr.2).congr hnew
    · have hz : (c kx + dd kx).fmod m = 0 := by simpa using hb'
      have hp3 := e3.h _ _ hp2
      have gp3 : G3 p = none := e3.f p (by rw [hp2]; exact fun z => nomatch z) gp2
      refine xs_if (xt_val (ex_dinK (k := .inl kx) hp3 e3.s (ev_var rfl rfl) (ev_var rfl rfl))) (fun hin G4 H4 e4 => ?_) (fun hin G4 H4 e4 => ?_)
      · rw [valV_fV, Option.isSome_map] at hin
        obtain ⟨v9, hv9⟩ := Option.isSome_iff_exists.mp hin
        refine s_dpop (k := .inl kx) (v := .int v9) (e4.h _ _ hp3) e4.s (ev_var rfl rfl) (ev_var rfl rfl) (by rw [valV_fV, hv9]; rfl) fun G5 H5 e5 hp5 => ?_
        rw [hD]
        have e25 := (e'.trans e2).trans ((e3.trans e4).trans e5)
        have gp5 : G5 p = none := (e4.trans e5).f p (by rw [hp3]; exact fun z => nomatch z) gp3
        refine ⟨G5, ss.trans e25.g, (e0.trans e25).upd hbn gp5, some (.int kx), some (.int (dd kx)), _, dropI fi kx, rfl, by rw [upd_same, dropK_fV], gp5, ?_⟩
        refine (isF_drop hfi0).congr fun j => ?_
        rw [← hnew j, hz]
      · rw [valV_fV, Option.isSome_map, hfi0.isSome] at hin
        show D'.nx _ _
        rw [hD]
        have e24 := (e'.trans e2).trans (e3.trans e4)
        have gp4 : G4 p = none := e4.f p (by rw [hp3]; exact fun z => nomatch z) gp3
        refine ⟨G4, ss.trans e24.g, e0.trans e24, some (.int kx), some (.int (dd kx)), _, fi, rfl, e4.h _ _ hp3, gp4, ?_⟩
        refine hfi0.congr fun j => ?_
        rw [← hnew j]
        by_cases e : j = kx
        · subst e
          have : ¬ (if j ∈ (f.take i).map (·.1) then (c j + dd j).fmod m else c j) ≠ 0 := of_decide_eq_false hin
          rw [if_pos rfl]
          exact (Decidable.not_not.mp this).trans hz.symm
        · rw [if_neg e]
  · obtain ⟨x, y, z, fi, rfl, hp2, gp2, hfi⟩ := j
    rw [fV_len, List.take_length] at hfi
    have hp3 : L2.upd H' d (.dK (fV f)) p = some (.dK (fV fi)) := by rw [upd_ne hdp]; exact hp2
    have gp3 : L2.upd G' d (.dK (fV f)) p = none := by rw [upd_ne hdp]; exact gp2
    have e3 := e2.know hp1 gp3 hp3
    refine s_ret (P := rC n (adF m c dd)) (ev_var rfl ⟨p, _, rfl, upd_same, hfi.congr fun j => ?_⟩) e3.s fun v G4 H4 e4 p4 => k v G4 H4 (e3.trans e4) p4
    unfold adF
    by_cases e : dd j = 0
    · rw [if_neg (fun q => hf.key.mp q e), e, adF_self hc]
    · rw [if_pos (hf.key.mpr e)]
/-! mixed -/
abbrev N_mixed : List Str := ["row", "factor", "other", "share", "hours", "one", "more", "lefts"]
theorem sc_mixed : FnScope N_mixed ["row", "factor", "other", "share", "hours"] (defScope s_mixed_clockrows) := ⟨rfl, rfl, rfl, by decide +kernel, rfl, by decide +kernel, by decide +kernel⟩
structure MixA where
  n : Nat
  q : Nat
  ρ : Rw
  f : Int
  τ : Rw
  g : Int
  m : Int
abbrev sp_mixed : Sp := pSp (fun (a : MixA) vs G => (∃ v u, vs = [v, .int a.f, u, .int a.g, .int a.m] ∧ rRow a.n a.q a.ρ v G ∧ rRow a.n a.q a.τ u G) ∧ 0 < a.m ∧ a.n ≤ 1000 ∧ a.q ≤ 1000 ∧ a.ρ.Sm ∧ a.τ.Sm ∧ sml a.f = true ∧ sml a.g = true) (fun a => rRow a.n a.q (a.ρ.mix a.m a.f a.τ a.g))
theorem has_mixed (C : Ctx K mg) : Has P w K mg base "mixed_clockrows" ["row", "factor", "other", "share", "hours"] 3 sp_mixed := by
  obtain ⟨fd, F⟩ := C.d_mixed_clockrows
  refine has_pure F C.g_mixed_clockrows sc_mixed (fun _ _ _ _ _ _ us hl => match us, hl with | [_, _, _, _, _], _ => rfl) (fun a vs G h => by obtain ⟨⟨v, u, rfl, _⟩, _⟩ := h; rfl) (fun cdv A outer st H vs Q E hr a G sG hp k => ?_)
  have hu := hu_of hr
  refine ⟨_, (pss_cons (ps_set (i := 5) sc_mixed.nd rfl (Or.inl rfl) (pe_callH (has_scaled C) hr (by decide) rfl (pa_cons (pv 0) (pa_cons (pv 1) (pa_cons (pv 4) pa_nil)))))
  (pss_cons (ps_set (i := 6) sc_mixed.nd rfl (Or.inl rfl) (pe_callH (has_scaled C) hr (by decide) rfl (pa_cons (pv 2) (pa_cons (pv 3) (pa_cons (pv 4) pa_nil)))))
  (pss_cons (ps_set (i := 7) sc_mixed.nd rfl (Or.inl rfl) (pe_callH (has_items_added C) hr (by decide) rfl (pa_cons (pe_ix ix_tup (pv 5) pe_int (fun _ _ => rfl)) (pa_cons (pe_ix ix_tup (pv 6) pe_int (fun _ _ => rfl)) (pa_cons (pv 4) pa_nil)))))
  (pss_one (ps_ret (pe_tup (pa_cons (pv 7) (pa_cons (pe_op op_modN (pe_op op_add (pe_ix ix_tup (pv 5) pe_int (fun _ _ => rfl)) (pe_ix ix_tup (pv 6) pe_int (fun _ _ => rfl))) (pv 4)) (pa_cons (pe_callH (has_items_added C) hr (by decide) rfl (pa_cons (pe_ix ix_tup (pv 5) pe_int (fun _ _ => rfl)) (pa_cons (pe_ix ix_tup (pv 6) pe_int (fun _ _ => rfl)) (pa_cons (pv 4) pa_nil)))) pa_nil))))))))), ?_⟩
  obtain ⟨n, q, ρ, f, τ, g, m⟩ := a
  obtain ⟨⟨v, u, rfl, hv, hu'⟩, hm, hn, hq, hρ, hτ, hf, hg⟩ := hp
  have hm : 0 < m := hm
  refine q_asg (ev_call3 (⟨n, q, ρ, f, m⟩ : ScA) (ev_var (P := rRow n q ρ) rfl hv) (ev_vi rfl) (ev_vi rfl) fun v u z G' _ p p' p'' => ⟨⟨v, by rw [show u = .int f from p', show z = .int m from p''], p⟩, hm, hn, hq, hρ, hf⟩) sG fun a G1 H1 e1 pa => ?_
  refine q_asg (ev_call3 (⟨n, q, τ, g, m⟩ : ScA) (ev_var (P := rRow n q τ) rfl (mn e1.g hu')) (ev_vi rfl) (ev_vi rfl) fun v u z G' _ p p' p'' => ⟨⟨v, by rw [show u = .int g from p', show z = .int m from p''], p⟩, hm, hn, hq, hτ, hg⟩) e1.s fun b G2 H2 e2 pb => ?_
  have pa2 : r3 (rC n) rI (rC q) (ρ.sc m f).t a G2 := mn e2.g pa
  have pb2 : r3 (rC n) rI (rC q) (τ.sc m g).t b G2 := pb
  have hin : (ρ.sc m f).In m := Rw.sc_in hm
  refine q_asg (ev_call3 (⟨n, (ρ.sc m f).c, (τ.sc m g).c, m⟩ : AdArg) (ev_31 (ev_var rfl pa2)) (ev_31 (ev_var rfl pb2)) (ev_vi rfl) fun v u z G' _ p p' p'' => ⟨⟨v, u, by rw [show z = .int m from p''], p, p'⟩, hm, hn, hin.c⟩) e2.s fun c G3 H3 e3 pc => ?_
  have pa3 := mn (P := r3 (rC n) rI (rC q) (ρ.sc m f).t) e3.g pa2
  have pb3 := mn (P := r3 (rC n) rI (rC q) (τ.sc m g).t) e3.g pb2
  exact s_ret (ev_t3 (R := rC n) (S := rI) (U := rC q) (ev_var rfl pc) (ev_mod (ev_add (ev_32 (ev_var rfl pa3)) (ev_32 (ev_var rfl pb3))) (ev_vi rfl) (by omega))
    (ev_call3 (⟨q, (ρ.sc m f).w, (τ.sc m g).w, m⟩ : AdArg) (ev_33 (ev_var rfl pa3)) (ev_33 (ev_var rfl pb3)) (ev_vi rfl) fun v u z G' _ p p' p'' => ⟨⟨v, u, by rw [show z = .int m from p''], p, p'⟩, hm, hq, hin.w⟩)) e3.s
    fun v G4 H4 e4 p => k v G4 H4 (((e1.trans e2).trans e3).trans e4) p
end
end Eld
set_option maxRecDepth 100000
set_option maxHeartbeats 1000000
/-! The plain law of the steps by a clock. -/
namespace Eld
theorem dmr {a b c : Int} (h : a ∣ c) : a ∣ b * c := let ⟨d, e⟩ := h; ⟨b * d, by rw [e]; grind⟩
theorem dml {a b c : Int} (h : a ∣ b) : a ∣ b * c := let ⟨d, e⟩ := h; ⟨d * c, by rw [e]; grind⟩
def lin : Nat → (Int → Int) → (Int → Int) → Int
  | 0, _, _ => 0
  | n + 1, c, x => lin n c x + c n * x n
theorem lin_lin (n : Nat) (a b : Int) (c d x : Int → Int) : lin n (fun k => a * c k + b * d k) x = a * lin n c x + b * lin n d x := by
  induction n with
  | zero => simp [lin]
  | succ n ih => simp only [lin, ih]; grind
theorem lin_mod {m : Int} (n : Nat) {c d x : Int → Int} (h : ∀ k, m ∣ c k - d k) : m ∣ lin n c x - lin n d x := by
  induction n with
  | zero => exact ⟨0, by simp [lin]⟩
  | succ n ih =>
    have : lin (n + 1) c x - lin (n + 1) d x = (lin n c x - lin n d x) + (c n - d n) * x n := by simp only [lin]; grind
    rw [this]
    exact Int.dvd_add ih (dml (h n))
theorem lin_set {n : Nat} {c x y : Int → Int} (h : ∀ k : Int, 0 ≤ k → k < n → c k ≠ 0 → x k = y k) : lin n c x = lin n c y := by
  induction n with
  | zero => rfl
  | succ n ih =>
    simp only [lin]
    rw [ih fun k h0 h1 h2 => h k h0 (by omega) h2]
    by_cases z : c n = 0
    · rw [z]; simp
    · rw [h n (by omega) (by omega) z]
/-- one place apart -/
theorem lin_at {n : Nat} {c x : Int → Int} {p : Int} (h0 : 0 ≤ p) (h1 : p < n) (v : Int) : lin n c (fun k => if k = p then v else x k) = lin n c x + c p * (v - x p) := by
  induction n with
  | zero => omega
  | succ n ih =>
    simp only [lin]
    by_cases e : p = n
    · subst e
      rw [lin_set (y := x) fun k _ hk _ => if_neg (by omega)]
      simp only [if_pos rfl]; grind
    · rw [ih (by omega), if_neg (fun z : (n : Int) = p => e z.symm)]; grind
theorem fmod_dvd (x m : Int) : m ∣ x.fmod m - x := by
  have := Int.mul_fdiv_add_fmod x m
  exact ⟨-(x.fdiv m), by grind⟩
theorem fmod_zero_iff {x m : Int} : x.fmod m = 0 ↔ m ∣ x := by
  have := Int.mul_fdiv_add_fmod x m
  constructor
  · intro h; exact ⟨x.fdiv m, by grind⟩
  · intro h; exact Int.fmod_eq_zero_of_dvd h
theorem fmod_small {x m : Int} (h0 : 0 ≤ x) (h1 : x < m) : x.fmod m = x := by
  rw [Int.fmod_eq_emod_of_nonneg _ (by omega), Int.emod_eq_of_lt h0 h1]
theorem fmod_congr {m x y : Int} (hm : 0 ≤ m) (h : m ∣ x - y) : x.fmod m = y.fmod m := by
  rw [Int.fmod_eq_emod_of_nonneg _ hm, Int.fmod_eq_emod_of_nonneg _ hm]
  obtain ⟨k, e⟩ := h
  rw [show x = y + m * k by omega, Int.add_mul_emod_self_left]
def Rw.val (n : Nat) (x : Int → Int) (ρ : Rw) : Int := lin n ρ.c x - ρ.r
def Sol (n : Nat) (m : Int) (x : Int → Int) (ρ : Rw) : Prop := m ∣ ρ.val n x
theorem dvd_to {m a b : Int} (h : m ∣ a - b) (k : m ∣ b) : m ∣ a := by
  have := Int.dvd_add h k
  rwa [show a - b + b = a by omega] at this
theorem dvd_iff {m a b : Int} (h : m ∣ a - b) : m ∣ a ↔ m ∣ b := ⟨fun k => dvd_to (by rw [show b - a = -(a - b) by omega]; exact Int.dvd_neg.mpr h) k, dvd_to h⟩
theorem val_sc {n : Nat} {m s : Int} {x : Int → Int} {ρ : Rw} : m ∣ (ρ.sc m s).val n x - s * ρ.val n x := by
  have h1 : m ∣ lin n (scF m s ρ.c) x - lin n (fun k => s * ρ.c k + 0 * ρ.c k) x := lin_mod n fun k => by
    have := fmod_dvd (ρ.c k * s) m
    show m ∣ (ρ.c k * s).fmod m - (s * ρ.c k + 0 * ρ.c k)
    rw [show s * ρ.c k + 0 * ρ.c k = ρ.c k * s by grind]
    exact this
  rw [lin_lin] at h1
  have h2 := Int.dvd_sub h1 (fmod_dvd (ρ.r * s) m)
  have : (ρ.sc m s).val n x - s * ρ.val n x = lin n (scF m s ρ.c) x - (s * lin n ρ.c x + 0 * lin n ρ.c x) - ((ρ.r * s).fmod m - ρ.r * s) := by
    show lin n (scF m s ρ.c) x - (ρ.r * s).fmod m - s * (lin n ρ.c x - ρ.r) = _
    grind
  rw [this]; exact h2
theorem val_ad {n : Nat} {m : Int} {x : Int → Int} {ρ τ : Rw} : m ∣ (ρ.ad m τ).val n x - (ρ.val n x + τ.val n x) := by
  have h1 : m ∣ lin n (adF m ρ.c τ.c) x - lin n (fun k => 1 * ρ.c k + 1 * τ.c k) x := lin_mod n fun k => by
    have := fmod_dvd (ρ.c k + τ.c k) m
    show m ∣ (ρ.c k + τ.c k).fmod m - (1 * ρ.c k + 1 * τ.c k)
    rw [show 1 * ρ.c k + 1 * τ.c k = ρ.c k + τ.c k by omega]
    exact this
  rw [lin_lin] at h1
  have h2 := Int.dvd_sub h1 (fmod_dvd (ρ.r + τ.r) m)
  have : (ρ.ad m τ).val n x - (ρ.val n x + τ.val n x) = lin n (adF m ρ.c τ.c) x - (1 * lin n ρ.c x + 1 * lin n τ.c x) - ((ρ.r + τ.r).fmod m - (ρ.r + τ.r)) := by
    show lin n (adF m ρ.c τ.c) x - (ρ.r + τ.r).fmod m - (lin n ρ.c x - ρ.r + (lin n τ.c x - τ.r)) = _
    grind
  rw [this]; exact h2
theorem val_mix {n : Nat} {m f g : Int} {x : Int → Int} {ρ τ : Rw} : m ∣ (ρ.mix m f τ g).val n x - (f * ρ.val n x + g * τ.val n x) := by
  have h1 := val_ad (n := n) (m := m) (x := x) (ρ := ρ.sc m f) (τ := τ.sc m g)
  have h2 := val_sc (n := n) (m := m) (x := x) (ρ := ρ) (s := f)
  have h3 := val_sc (n := n) (m := m) (x := x) (ρ := τ) (s := g)
  have := Int.dvd_add h1 (Int.dvd_add h2 h3)
  rw [show (ρ.mix m f τ g).val n x - (f * ρ.val n x + g * τ.val n x) = ((ρ.sc m f).ad m (τ.sc m g)).val n x - ((ρ.sc m f).val n x + (τ.sc m g).val n x) + ((ρ.sc m f).val n x - f * ρ.val n x + ((τ.sc m g).val n x - g * τ.val n x)) by
    show ((ρ.sc m f).ad m (τ.sc m g)).val n x - _ = _
    omega]
  exact this
theorem mix_at {m f g : Int} {ρ τ : Rw} {k : Int} : m ∣ (ρ.mix m f τ g).c k - (f * ρ.c k + g * τ.c k) := by
  have h1 := fmod_dvd (ρ.c k * f) m
  have h2 := fmod_dvd (τ.c k * g) m
  have h3 := fmod_dvd ((ρ.c k * f).fmod m + (τ.c k * g).fmod m) m
  have := Int.dvd_add h3 (Int.dvd_add h1 h2)
  show m ∣ ((ρ.c k * f).fmod m + (τ.c k * g).fmod m).fmod m - (f * ρ.c k + g * τ.c k)
  rw [show f * ρ.c k + g * τ.c k = ρ.c k * f + τ.c k * g by grind]
  rw [show ((ρ.c k * f).fmod m + (τ.c k * g).fmod m).fmod m - (ρ.c k * f + τ.c k * g) = ((ρ.c k * f).fmod m + (τ.c k * g).fmod m).fmod m - ((ρ.c k * f).fmod m + (τ.c k * g).fmod m) + ((ρ.c k * f).fmod m - ρ.c k * f + ((τ.c k * g).fmod m - τ.c k * g)) by omega]
  exact this
theorem sol_mix {n : Nat} {m f g : Int} {x : Int → Int} {ρ τ : Rw} : Sol n m x (ρ.mix m f τ g) ↔ m ∣ f * ρ.val n x + g * τ.val n x := dvd_iff val_mix
theorem sol_sc {n : Nat} {m s : Int} {x : Int → Int} {ρ : Rw} : Sol n m x (ρ.sc m s) ↔ m ∣ s * ρ.val n x := dvd_iff val_sc
theorem mix_zero {m f g : Int} {ρ τ : Rw} {k : Int} (h1 : f * ρ.c k + g * τ.c k = 0) : (ρ.mix m f τ g).c k = 0 := by
  have h := mix_at (m := m) (f := f) (g := g) (ρ := ρ) (τ := τ) (k := k)
  rw [h1] at h
  show (((ρ.c k * f).fmod m + (τ.c k * g).fmod m)).fmod m = 0
  have h2 : m ∣ ((ρ.c k * f).fmod m + (τ.c k * g).fmod m).fmod m := by
    have : (ρ.mix m f τ g).c k = ((ρ.c k * f).fmod m + (τ.c k * g).fmod m).fmod m := rfl
    rw [this] at h
    simpa using h
  rw [fmod_zero_iff]
  exact (dvd_iff (fmod_dvd _ m)).mp h2
theorem sc_zero {m s : Int} {ρ : Rw} {k : Int} (h : m ∣ ρ.c k * s) : (ρ.sc m s).c k = 0 := fmod_zero_iff.mpr h
/-! steps -/
abbrev Stp := Int → Option Rw
def Stp.put (st : Stp) (p : Int) (ρ : Rw) : Stp := fun q => if q = p then some ρ else st q
def half (m p : Int) (σ : Rw) : List Rw := if σ.c p = 1 then [] else [σ.sc m (m.fdiv (σ.c p))]
def putA (m p : Int) (row : Rw) (st : Stp) : Stp × List Rw :=
  match st p with
  | none => (st.put p (row.sc m (ouR (row.c p) m)), half m p (row.sc m (ouR (row.c p) m)))
  | some step =>
    if (row.c p).fmod (step.c p) = 0 then (st, [row.mix m 1 step (-((row.c p).fdiv (step.c p)))])
    else
      (st.put p (row.mix m (bzR (row.c p) (step.c p)).2.1 step (bzR (row.c p) (step.c p)).2.2),
        half m p (row.mix m (bzR (row.c p) (step.c p)).2.1 step (bzR (row.c p) (step.c p)).2.2) ++
          [step.mix m ((row.c p).fdiv (bzR (row.c p) (step.c p)).1) row (-((step.c p).fdiv (bzR (row.c p) (step.c p)).1))])
/-- a step at p -/
structure IsStep (n : Nat) (m p : Int) (ρ : Rw) : Prop where
  rg : 0 ≤ p ∧ p < n
  inn : ρ.In m
  lo : ∀ k, k < p → ρ.c k = 0
  pos : 0 < ρ.c p
  dv : ρ.c p ∣ m
def StpOk (n : Nat) (m : Int) (st : Stp) : Prop := ∀ p ρ, st p = some ρ → IsStep n m p ρ
structure Inv2 (n : Nat) (m : Int) (E : (Int → Int) → Prop) (st : Stp) (wt : List Rw) : Prop where
  i1 : ∀ x, E x ↔ (∀ p ρ, st p = some ρ → Sol n m x ρ) ∧ ∀ ρ ∈ wt, Sol n m x ρ
  i2 : ∀ p ρ, st p = some ρ → ∀ x, (∀ q τ, p < q → st q = some τ → Sol n m x τ) → (∀ τ ∈ wt, (∀ k, k ≤ p → τ.c k = 0) → Sol n m x τ) → Sol n m x (ρ.sc m (m.fdiv (ρ.c p)))
theorem stpOk_put {n : Nat} {m p : Int} {st : Stp} {σ : Rw} (h : StpOk n m st) (hs : IsStep n m p σ) : StpOk n m (st.put p σ) := fun q ρ e => by
  unfold Stp.put at e
  by_cases z : q = p
  · subst z; rw [if_pos rfl] at e; cases e; exact hs
  · rw [if_neg z] at e; exact h q ρ e
theorem half_mem {m p : Int} {σ τ : Rw} (h : τ ∈ half m p σ) : τ = σ.sc m (m.fdiv (σ.c p)) := by
  unfold half at h
  split at h
  · cases h
  · exact List.mem_singleton.mp h
theorem half_sol {n : Nat} {m p : Int} {σ : Rw} {x : Int → Int} (h : ∀ τ ∈ half m p σ, Sol n m x τ) : Sol n m x (σ.sc m (m.fdiv (σ.c p))) := by
  unfold half at h
  split at h
  · rename_i e
    rw [e, sol_sc]
    exact dml (by rw [Int.fdiv_one]; exact Int.dvd_refl m)
  · exact h _ (List.mem_singleton.mpr rfl)
theorem half_zero {n : Nat} {m p : Int} {σ τ : Rw} (hs : IsStep n m p σ) (h : τ ∈ half m p σ) : ∀ k, k ≤ p → τ.c k = 0 := fun k hk => by
  rw [half_mem h]
  refine sc_zero ?_
  by_cases z : k = p
  · subst z
    have := Int.fdiv_mul_cancel hs.dv
    rw [Int.mul_comm, this]
    exact Int.dvd_refl m
  · rw [hs.lo k (by omega)]; simp
/-- a new step at p in the place of the old one and the row -/
theorem inv_put {n : Nat} {m p : Int} {E : (Int → Int) → Prop} {st : Stp} {row σ : Rw} {wt rest : List Rw} (I : Inv2 n m E st (wt ++ [row])) (hp : row.c p ≠ 0) (hs : IsStep n m p σ)
    (hr : ∀ τ ∈ rest, ∀ k, k ≤ p → τ.c k = 0)
    (h : ∀ x, ((∀ τ, st p = some τ → Sol n m x τ) ∧ Sol n m x row) ↔ (Sol n m x σ ∧ ∀ τ ∈ rest, Sol n m x τ)) : Inv2 n m E (st.put p σ) (wt ++ (half m p σ ++ rest)) := by
  have pself : st.put p σ p = some σ := if_pos rfl
  have pne : ∀ q, q ≠ p → st.put p σ q = st q := fun q hq => if_neg hq
  constructor
  · intro x
    rw [I.i1 x]
    constructor
    · intro ⟨h1, h2⟩
      have hh := (h x).mp ⟨fun τ e => h1 p τ e, h2 row (List.mem_append_right _ (List.mem_singleton.mpr rfl))⟩
      refine ⟨fun q ρ e => ?_, fun ρ hρ => ?_⟩
      · by_cases z : q = p
        · subst z; rw [pself] at e; cases e; exact hh.1
        · rw [pne q z] at e; exact h1 q ρ e
      · rcases List.mem_append.mp hρ with h' | h'
        · exact h2 ρ (List.mem_append_left _ h')
        · rcases List.mem_append.mp h' with h' | h'
          · rw [half_mem h', sol_sc]; exact dmr hh.1
          · exact hh.2 ρ h'
    · intro ⟨h1, h2⟩
      have hh := (h x).mpr ⟨h1 p σ pself, fun τ ht => h2 τ (List.mem_append_right _ (List.mem_append_right _ ht))⟩
      refine ⟨fun q ρ e => ?_, fun ρ hρ => ?_⟩
      · by_cases z : q = p
        · subst z; exact hh.1 ρ e
        · exact h1 q ρ (by rw [pne q z]; exact e)
      · rcases List.mem_append.mp hρ with h' | h'
        · exact h2 ρ (List.mem_append_left _ h')
        · rw [List.mem_singleton.mp h']; exact hh.2
  · intro q ρ e x h1 h2
    by_cases z : q = p
    · subst z
      rw [pself] at e; cases e
      exact half_sol fun τ ht => h2 τ (List.mem_append_right _ (List.mem_append_left _ ht)) (half_zero hs ht)
    · rw [pne q z] at e
      by_cases lt : q < p
      · have hh := (h x).mpr ⟨h1 p σ lt pself, fun τ ht => h2 τ (List.mem_append_right _ (List.mem_append_right _ ht)) fun k hk => hr τ ht k (by omega)⟩
        refine I.i2 q ρ e x (fun q' τ lt' e' => ?_) fun τ ht hz => ?_
        · by_cases z' : q' = p
          · subst z'; exact hh.1 τ e'
          · exact h1 q' τ lt' (by rw [pne q' z']; exact e')
        · rcases List.mem_append.mp ht with h' | h'
          · exact h2 τ (List.mem_append_left _ h') hz
          · rw [List.mem_singleton.mp h']; exact hh.2
      · refine I.i2 q ρ e x (fun q' τ lt' e' => h1 q' τ lt' (by rw [pne q' (by omega)]; exact e')) fun τ ht hz => ?_
        rcases List.mem_append.mp ht with h' | h'
        · exact h2 τ (List.mem_append_left _ h') hz
        · rw [List.mem_singleton.mp h'] at hz
          exact (hp (hz p (by omega))).elim
/-- the row lessened by the step -/
theorem inv_less {n : Nat} {m p : Int} {E : (Int → Int) → Prop} {st : Stp} {row step τ : Rw} {wt : List Rw} (I : Inv2 n m E st (wt ++ [row])) (hp : row.c p ≠ 0) (hst : st p = some step)
    (hr : ∀ k, k ≤ p → τ.c k = 0) (h : ∀ x, Sol n m x step → (Sol n m x row ↔ Sol n m x τ)) : Inv2 n m E st (wt ++ [τ]) := by
  constructor
  · intro x
    rw [I.i1 x]
    constructor
    · intro ⟨h1, h2⟩
      refine ⟨h1, fun ρ hρ => ?_⟩
      rcases List.mem_append.mp hρ with h' | h'
      · exact h2 ρ (List.mem_append_left _ h')
      · rw [List.mem_singleton.mp h']
        exact (h x (h1 p step hst)).mp (h2 row (List.mem_append_right _ (List.mem_singleton.mpr rfl)))
    · intro ⟨h1, h2⟩
      refine ⟨h1, fun ρ hρ => ?_⟩
      rcases List.mem_append.mp hρ with h' | h'
      · exact h2 ρ (List.mem_append_left _ h')
      · rw [List.mem_singleton.mp h']
        exact (h x (h1 p step hst)).mpr (h2 τ (List.mem_append_right _ (List.mem_singleton.mpr rfl)))
  · intro q ρ e x h1 h2
    refine I.i2 q ρ e x h1 fun σ hs hz => ?_
    rcases List.mem_append.mp hs with h' | h'
    · exact h2 σ (List.mem_append_left _ h') hz
    · rw [List.mem_singleton.mp h'] at hz ⊢
      have lt : q < p := by
        rcases Int.lt_or_le q p with l | l
        · exact l
        · exact (hp (hz p l)).elim
      exact (h x (h1 p step lt hst)).mpr (h2 τ (List.mem_append_right _ (List.mem_singleton.mpr rfl)) fun k hk => hr k (by omega))
structure PutOk (n : Nat) (m p : Int) (E : (Int → Int) → Prop) (wt : List Rw) (o : Stp × List Rw) : Prop where
  ok : StpOk n m o.1
  inv : Inv2 n m E o.1 (wt ++ o.2)
  len : o.2.length ≤ 2
  new : ∀ τ ∈ o.2, τ.In m ∧ ∀ k, k ≤ p → τ.c k = 0
theorem half_len {m p : Int} {σ : Rw} : (half m p σ).length ≤ 1 := by unfold half; split <;> simp
theorem half_in {m p : Int} {σ τ : Rw} (hm : 0 < m) (h : τ ∈ half m p σ) : τ.In m := by rw [half_mem h]; exact Rw.sc_in hm
theorem putA_ok {n : Nat} {m p : Int} {E : (Int → Int) → Prop} {st : Stp} {row : Rw} {wt : List Rw} (hm : 2 ≤ m ∧ m ≤ 5) (hp : 0 ≤ p ∧ p < n) (hin : row.In m) (h0 : row.c p ≠ 0) (hlo : ∀ k, k < p → row.c k = 0)
    (ok : StpOk n m st) (I : Inv2 n m E st (wt ++ [row])) : PutOk n m p E wt (putA m p row st) := by
  have hm0 : 0 < m := by omega
  have ha : 1 ≤ row.c p ∧ row.c p < m := ⟨by have := (hin.c p).1; omega, (hin.c p).2⟩
  unfold putA
  split
  · rename_i hst
    have O := ou_ok hm ha
    have hc : (row.sc m (ouR (row.c p) m)).c p = (Int.gcd (row.c p) m : Nat) := O.mul
    have hs : IsStep n m p (row.sc m (ouR (row.c p) m)) := {
      rg := hp, inn := Rw.sc_in hm0
      lo := fun k hk => sc_zero (by rw [hlo k hk]; simp)
      pos := by rw [hc]; have := Int.gcd_pos_of_ne_zero_left m h0; omega
      dv := by rw [hc]; exact Int.gcd_dvd_right .. }
    refine ⟨stpOk_put ok hs, ?_, by have := half_len (m := m) (p := p) (σ := row.sc m (ouR (row.c p) m)); show (half _ _ _).length ≤ 2; omega, fun τ ht => ⟨half_in hm0 ht, half_zero hs ht⟩⟩
    have := inv_put (rest := []) I h0 hs (fun _ h => nomatch h) fun x => ?_
    · rwa [List.append_nil] at this
    · rw [hst]
      constructor
      · intro ⟨_, h⟩
        exact ⟨sol_sc.mpr (dmr h), (fun _ h => by cases h)⟩
      · intro ⟨h, _⟩
        refine ⟨(fun _ h => by cases h), ?_⟩
        obtain ⟨v, hv⟩ := O.inv
        have h1 := sol_sc.mp h
        have h2 := fmod_dvd (ouR (row.c p) m * v) m
        rw [hv] at h2
        have h3 : m ∣ v * (ouR (row.c p) m * row.val n x) := dmr h1
        have h4 := Int.dvd_add h3 (dml (c := row.val n x) h2)
        rwa [show v * (ouR (row.c p) m * row.val n x) + (1 - ouR (row.c p) m * v) * row.val n x = row.val n x by grind] at h4
  · rename_i step hst
    have S := ok p step hst
    have he : 1 ≤ step.c p ∧ step.c p < m := ⟨S.pos, (S.inn.c p).2⟩
    split
    · rename_i hz
      have hd := Int.fdiv_mul_cancel (fmod_zero_iff.mp hz)
      have hlo' : ∀ k, k ≤ p → (row.mix m 1 step (-((row.c p).fdiv (step.c p)))).c k = 0 := fun k hk => mix_zero (by
        by_cases z : k = p
        · subst z; grind
        · rw [hlo k (by omega), S.lo k (by omega)]; simp)
      refine ⟨ok, ?_, by simp, fun τ ht => by rw [List.mem_singleton.mp ht]; exact ⟨Rw.mix_in hm0, hlo'⟩⟩
      refine inv_less I h0 hst hlo' fun x hx => ?_
      rw [sol_mix]
      refine dvd_iff ?_
      rw [show row.val n x - (1 * row.val n x + -((row.c p).fdiv (step.c p)) * step.val n x) = (row.c p).fdiv (step.c p) * step.val n x by grind]
      exact dmr hx
    · rename_i hz
      have B := bz_ok (a := row.c p) (b := step.c p) (by omega) (by omega)
      generalize hbz : bzR (row.c p) (step.c p) = b at *
      have e1 : (bzR (row.c p) (step.c p)).1 = b.1 := by rw [hbz]
      have e2 : (bzR (row.c p) (step.c p)).2.1 = b.2.1 := by rw [hbz]
      have e3 : (bzR (row.c p) (step.c p)).2.2 = b.2.2 := by rw [hbz]
      have bpos := B.pos
      have bgcd := B.gcd
      have blin := B.lin
      rw [e1] at bpos bgcd
      rw [e1, e2, e3] at blin
      obtain ⟨d, f, g⟩ := b
      dsimp only at bpos bgcd blin e1 e2 e3 ⊢
      have da : d ∣ row.c p := by rw [bgcd]; exact Int.gcd_dvd_left ..
      have de : d ∣ step.c p := by rw [bgcd]; exact Int.gcd_dvd_right ..
      have dm : d ∣ m := Int.dvd_trans de S.dv
      have dle : d ≤ step.c p := Int.le_of_dvd S.pos de
      have qa := Int.fdiv_mul_cancel da
      have qe := Int.fdiv_mul_cancel de
      generalize hA : (row.c p).fdiv d = A at *
      generalize hB : (step.c p).fdiv d = Bq at *
      have piv : (row.mix m f step g).c p = d := by
        have h1 := mix_at (m := m) (f := f) (g := g) (ρ := row) (τ := step) (k := p)
        rw [show f * row.c p + g * step.c p = d by grind] at h1
        have h2 : ((row.mix m f step g).c p).fmod m = d.fmod m := fmod_congr (by omega) h1
        have h3 := (Rw.mix_in (m := m) (f := f) (g := g) (ρ := row) (τ := step) hm0).c p
        rw [fmod_small h3.1 h3.2, fmod_small (by omega) (by omega)] at h2
        exact h2
      have hs : IsStep n m p (row.mix m f step g) := {
        rg := hp, inn := Rw.mix_in hm0
        lo := fun k hk => mix_zero (by rw [hlo k hk, S.lo k hk]; simp)
        pos := by rw [piv]; exact bpos
        dv := by rw [piv]; exact dm }
      have hr : ∀ τ ∈ [step.mix m A row (-Bq)], ∀ k, k ≤ p → τ.c k = 0 := fun τ ht k hk => by
        rw [List.mem_singleton.mp ht]
        refine mix_zero ?_
        by_cases z : k = p
        · subst z; rw [← qa, ← qe]; grind
        · rw [hlo k (by omega), S.lo k (by omega)]; simp
      have hne : d ≠ 0 := by omega
      have det : A * f + Bq * g = 1 := by
        have : d * (A * f + Bq * g) = d * 1 := by grind
        exact Int.eq_of_mul_eq_mul_left hne this
      refine ⟨stpOk_put ok hs, inv_put I h0 hs hr fun x => ?_, ?_, fun τ ht => ?_⟩
      · constructor
        · intro ⟨h1, h2⟩
          have h1 := h1 step hst
          refine ⟨sol_mix.mpr (Int.dvd_add (dmr h2) (dmr h1)), fun τ ht => ?_⟩
          rw [List.mem_singleton.mp ht]
          exact sol_mix.mpr (Int.dvd_add (dmr h1) (dmr h2))
        · intro ⟨h1, h2⟩
          have h1 := sol_mix.mp h1
          have h2 := sol_mix.mp (h2 _ (List.mem_singleton.mpr rfl))
          constructor
          · intro τ ht
            rw [hst] at ht; cases ht
            have := Int.dvd_add (dmr (b := Bq) h1) (dmr (b := f) h2)
            rwa [show Bq * (f * row.val n x + g * step.val n x) + f * (A * step.val n x + -Bq * row.val n x) = step.val n x by grind] at this
          · have := Int.dvd_add (dmr (b := A) h1) (dmr (b := -g) h2)
            rwa [show A * (f * row.val n x + g * step.val n x) + -g * (A * step.val n x + -Bq * row.val n x) = row.val n x by grind] at this
      · have := half_len (m := m) (p := p) (σ := row.mix m f step g)
        rw [List.length_append]
        show _ + 1 ≤ 2
        omega
      · rcases List.mem_append.mp ht with h' | h'
        · exact ⟨half_in hm0 h', half_zero hs h'⟩
        · refine ⟨?_, hr τ h'⟩
          rw [List.mem_singleton.mp h']; exact Rw.mix_in hm0
/-- no row waits: there is a solution -/
theorem inv2_sol {n : Nat} {m : Int} {E : (Int → Int) → Prop} {st : Stp} (hm : 0 < m) (ok : StpOk n m st) (I : Inv2 n m E st []) : ∃ x, E x := by
  have key : ∀ j : Nat, j ≤ n → ∃ x : Int → Int, ∀ q τ, ((n - j : Nat) : Int) ≤ q → st q = some τ → Sol n m x τ := by
    intro j
    induction j with
    | zero =>
      intro _
      refine ⟨fun _ => 0, fun q τ hq e => ?_⟩
      have := (ok q τ e).rg
      omega
    | succ j ih =>
      intro hj
      obtain ⟨x, hx⟩ := ih (by omega)
      have ep : ((n - (j + 1) : Nat) : Int) = (n : Int) - j - 1 := by omega
      have ep2 : ((n - j : Nat) : Int) = (n : Int) - j := by omega
      generalize hp : ((n - (j + 1) : Nat) : Int) = p at *
      have hx' : ∀ (v : Int) q τ, p < q → st q = some τ → Sol n m (fun k => if k = p then v else x k) τ := fun v q τ hq e => by
        have h := hx q τ (by omega) e
        unfold Sol Rw.val at h ⊢
        rw [lin_set (y := x)]
        · exact h
        · intro k _ _ hk
          have : ¬ k = p := fun z => hk ((ok q τ e).lo k (by omega))
          show (if k = p then v else x k) = x k
          rw [if_neg this]
      cases hst : st p with
      | none =>
        refine ⟨x, fun q τ hq e => hx q τ ?_ e⟩
        have : q ≠ p := fun z => by subst z; rw [hst] at e; cases e
        omega
      | some ρ =>
        have S := ok p ρ hst
        obtain ⟨M, hM⟩ := S.dv
        have hMe : m.fdiv (ρ.c p) = M := by
          rw [hM]
          exact Int.mul_fdiv_cancel_left M (by have := S.pos; omega)
        have h1 := I.i2 p ρ hst (fun k => if k = p then 0 else x k) (fun q τ hq e => hx' 0 q τ hq e) fun _ h => nomatch h
        rw [hMe, sol_sc] at h1
        have hM0 : M ≠ 0 := fun z => by subst z; simp at hM; omega
        obtain ⟨t, ht⟩ := h1
        generalize hV : ρ.val n (fun k => if k = p then 0 else x k) = V at *
        have hV2 : V = ρ.c p * t := by
          have : M * V = M * (ρ.c p * t) := by grind
          exact Int.eq_of_mul_eq_mul_left hM0 this
        refine ⟨fun k => if k = p then -t else x k, fun q τ hq e => ?_⟩
        by_cases z : q = p
        · subst z
          rw [hst] at e; cases e
          have a1 := lin_at (c := ρ.c) (x := x) S.rg.1 S.rg.2 (-t)
          have a2 := lin_at (c := ρ.c) (x := x) S.rg.1 S.rg.2 0
          unfold Sol Rw.val
          unfold Rw.val at hV
          rw [a1]
          rw [a2] at hV
          exact ⟨0, by grind⟩
        · exact hx' _ q τ (by omega) e
  obtain ⟨x, hx⟩ := key n (Nat.le_refl n)
  refine ⟨x, (I.i1 x).mpr ⟨fun p ρ e => hx p ρ ?_ e, fun _ h => nomatch h⟩⟩
  have := (ok p ρ e).rg
  omega
theorem inv2_nil {n : Nat} {m : Int} : Inv2 n m (fun _ => True) (fun _ => none) [] := ⟨fun x => ⟨fun _ => ⟨fun _ _ e => (nomatch e), fun _ h => nomatch h⟩, fun _ => trivial⟩, fun _ _ e => nomatch e⟩
/-- a new row waits -/
theorem inv2_push {n : Nat} {m : Int} {E : (Int → Int) → Prop} {st : Stp} {row : Rw} (I : Inv2 n m E st []) : Inv2 n m (fun x => E x ∧ Sol n m x row) st [row] := by
  constructor
  · intro x
    rw [I.i1 x]
    constructor
    · intro ⟨⟨h1, _⟩, h2⟩
      exact ⟨h1, fun ρ h => by rw [List.mem_singleton.mp h]; exact h2⟩
    · intro ⟨h1, h2⟩
      exact ⟨⟨h1, fun _ h => nomatch h⟩, h2 _ (List.mem_singleton.mpr rfl)⟩
  · intro p ρ e x h1 h2
    exact I.i2 p ρ e x h1 fun _ h => nomatch h
/-- a row without unknowns and with right 0 -/
theorem inv2_pop {n : Nat} {m : Int} {E : (Int → Int) → Prop} {st : Stp} {wt : List Rw} {row : Rw} (I : Inv2 n m E st (wt ++ [row])) (hc : ∀ k, row.c k = 0) (hr : row.r = 0) : Inv2 n m E st wt := by
  have hs : ∀ x, Sol n m x row := fun x => by
    unfold Sol Rw.val
    rw [lin_set (y := fun _ => 0) fun k _ _ h => (h (hc k)).elim, hr]
    have : ∀ n, lin n row.c (fun _ => 0) = 0 := fun n => by induction n with
      | zero => rfl
      | succ n ih => simp [lin, ih]
    rw [this]; simp
  constructor
  · intro x
    rw [I.i1 x]
    constructor
    · intro ⟨h1, h2⟩
      exact ⟨h1, fun ρ h => h2 ρ (List.mem_append_left _ h)⟩
    · intro ⟨h1, h2⟩
      refine ⟨h1, fun ρ h => ?_⟩
      rcases List.mem_append.mp h with h' | h'
      · exact h2 ρ h'
      · rw [List.mem_singleton.mp h']; exact hs x
  · intro p ρ e x h1 h2
    refine I.i2 p ρ e x h1 fun τ h hz => ?_
    rcases List.mem_append.mp h with h' | h'
    · exact h2 τ h' hz
    · rw [List.mem_singleton.mp h']; exact hs x
/-- a row without unknowns and with another right -/
theorem inv2_bad {n : Nat} {m : Int} {E : (Int → Int) → Prop} {st : Stp} {wt : List Rw} {row : Rw} (I : Inv2 n m E st (wt ++ [row])) (hc : ∀ k, row.c k = 0) (hr : row.r ≠ 0) (hin : row.In m) : ∀ x, ¬ E x := fun x h => by
  have h1 := ((I.i1 x).mp h).2 row (List.mem_append_right _ (List.mem_singleton.mpr rfl))
  unfold Sol Rw.val at h1
  rw [lin_set (y := fun _ => 0) fun k _ _ h => (h (hc k)).elim] at h1
  have : ∀ n, lin n row.c (fun _ => 0) = 0 := fun n => by induction n with
    | zero => rfl
    | succ n ih => simp [lin, ih]
  rw [this] at h1
  have := hin.r
  have h2 : m ∣ row.r := by simpa using h1
  have := Int.le_of_dvd (by omega) h2
  omega
end Eld
set_option maxRecDepth 100000
set_option maxHeartbeats 1000000
/-! An object known for the time of one expression (ghost); bases that leave two objects out (hid). -/
namespace Eld
open PySem PySem.Spec PyProof.Rows L2
def del (G : Hp) (a : Addr) : Hp := fun p => if p = a then none else G p
theorem del_same {G : Hp} {a : Addr} : del G a a = none := if_pos rfl
theorem del_ne {G : Hp} {a p : Addr} (h : p ≠ a) : del G a p = G p := if_neg h
theorem del_of {G : Hp} {a p : Addr} {o : HO} (h : del G a p = some o) : G p = some o := by
  unfold del at h
  split at h
  · cases h
  · exact h
/-- an instance, forgotten, is not missed -/
class DelP (P : V → Hp → Prop) : Prop where
  del : ∀ {v : V} {G : Hp} {a c d : Addr} {fs : List (Str × V)}, G a = some (.ins c d fs) → P v G → P v (del G a)
instance {n : Int} : DelP (rI n) := ⟨fun _ h => h⟩
instance {x : Str} : DelP (rS x) := ⟨fun _ h => h⟩
instance {b : Bool} : DelP (rB b) := ⟨fun _ h => h⟩
instance : DelP rN := ⟨fun _ h => h⟩
instance {u : V} : DelP (rV u) := ⟨fun _ h => h⟩
instance : DelP rAny := ⟨fun _ h => h⟩
theorem del_keep {G : Hp} {a b c d : Addr} {fs : List (Str × V)} {o : HO} (ha : G a = some (.ins c d fs)) (hb : G b = some o) (h : ∀ c d fs, o ≠ .ins c d fs) : del G a b = some o := by
  rw [del_ne]
  · exact hb
  · intro e; subst e; rw [ha] at hb; exact h _ _ _ (Option.some.inj hb).symm
section
variable {α β γ δ : Type}
theorem all2_del {R : δ → V → Hp → Prop} [∀ d, DelP (R d)] {G : Hp} {a c d : Addr} {fs : List (Str × V)} (ha : G a = some (.ins c d fs)) {xs : List V} {ds : List δ} (h : All2 R G xs ds) : All2 R (del G a) xs ds := Paired.mapP h fun _ _ q => DelP.del ha q
instance {R : δ → V → Hp → Prop} [∀ d, DelP (R d)] {ds : List δ} : DelP (rL R ds) := ⟨fun ha ⟨a, xs, e, h, p⟩ => ⟨a, xs, e, del_keep ha h (fun _ _ _ z => nomatch z), all2_del ha p⟩⟩
instance {R : δ → V → Hp → Prop} [∀ d, DelP (R d)] {ds : List δ} : DelP (rT R ds) := ⟨fun ha ⟨a, xs, e, h, p⟩ => ⟨a, xs, e, del_keep ha h (fun _ _ _ z => nomatch z), all2_del ha p⟩⟩
instance {R : α → V → Hp → Prop} {S : β → V → Hp → Prop} [∀ d, DelP (R d)] [∀ d, DelP (S d)] {p : α × β} : DelP (r2 R S p) := ⟨fun ha ⟨a, x, y, e, h, p, q⟩ => ⟨a, x, y, e, del_keep ha h (fun _ _ _ z => nomatch z), DelP.del ha p, DelP.del ha q⟩⟩
instance {R : α → V → Hp → Prop} {S : β → V → Hp → Prop} {U : γ → V → Hp → Prop} [∀ d, DelP (R d)] [∀ d, DelP (S d)] [∀ d, DelP (U d)] {p : α × β × γ} : DelP (r3 R S U p) :=
  ⟨fun ha ⟨a, x, y, z, e, h, p, q, r⟩ => ⟨a, x, y, z, e, del_keep ha h (fun _ _ _ z => nomatch z), DelP.del ha p, DelP.del ha q, DelP.del ha r⟩⟩
instance {n : Nat} {c : Int → Int} : DelP (rC n c) := ⟨fun ha ⟨a, f, e, h, q⟩ => ⟨a, f, e, del_keep ha h (fun _ _ _ z => nomatch z), q⟩⟩
end
/-- .. for whole lists of arguments -/
class DelPP (P : List V → Hp → Prop) : Prop where
  del : ∀ {v : List V} {G : Hp} {a c d : Addr} {fs : List (Str × V)}, G a = some (.ins c d fs) → P v G → P v (del G a)
instance : DelPP pNil := ⟨fun _ h => h⟩
instance {P : V → Hp → Prop} {PP : List V → Hp → Prop} [DelP P] [DelPP PP] : DelPP (pCons P PP) := ⟨fun ha ⟨v, ws, e, p, q⟩ => ⟨v, ws, e, DelP.del ha p, DelPP.del ha q⟩⟩
/-! ghost -/
theorem ghost_same {G H : Hp} {x : Addr} {o : HO} (hx : H x = some o) (s : Same G H) : Same (upd G x o) H := fun b u e => by
  by_cases z : b = x
  · subst z; rw [upd_same] at e; rw [hx]; exact e
  · rw [upd_ne z] at e; exact s b u e
theorem ghost_ext {G H G' H' : Hp} {x : Addr} {o : HO} (hg : G x = none) (e : Ext (upd G x o) H G' H') : Ext G H (del G' x) H' := by
  refine ⟨fun b u q => ?_, e.h, fun b u q => e.s b u (del_of q), fun b hb gb => ?_⟩
  · have z : b ≠ x := fun z => by subst z; rw [hg] at q; cases q
    rw [del_ne z]
    exact e.g b u (by rw [upd_ne z]; exact q)
  · by_cases z : b = x
    · subst z; exact del_same
    · rw [del_ne z]; exact e.f b hb (by rw [upd_ne z]; exact gb)
theorem ghostX {K : PySem.W.Frag} {σ : St} {G H : Hp} {te : TE} {P : V → Hp → Prop} {x C dx : Addr} {fs : List (Str × V)} [DelP P] (hx : H x = some (.ins C dx fs)) (hg : G x = none) (h : EvX te σ (upd G x (.ins C dx fs)) H P) : EvX te σ G H P := fun Q q =>
  h Q fun v G' H' e p => q v _ H' (ghost_ext hg e) (DelP.del (e.g _ _ upd_same) p)
theorem ghostTX {σ : St} {G H : Hp} {tt : TT} {x : Addr} {o : HO} {b : Bool} (hx : H x = some o) (hg : G x = none) (h : EtX tt σ (upd G x o) H b) : EtX tt σ G H b := fun Q q =>
  h Q fun G' H' e => q _ H' (ghost_ext hg e)
def EvAX (t : TA) (σ : St) (G H : Hp) (PP : List V → Hp → Prop) : Prop := ∀ Q : List V → Hp → Prop, (∀ vs G' H', Ext G H G' H' → PP vs G' → Q vs H') → t σ H Q
section
variable {K : PySem.W.Frag} {σ : St} {G H : Hp} {te ta tb : TE} {tt : TT} {t : TA} {P P1 P2 : V → Hp → Prop} {D : Ends} {tz : TS}
theorem ghost {x C dx : Addr} {fs : List (Str × V)} [DelP P] (hx : H x = some (.ins C dx fs)) (hg : G x = none) (s : Same G H) (h : EvP te σ (upd G x (.ins C dx fs)) P) : EvX te σ G H P := fun Q q =>
  h H (ghost_same hx s) Q fun v G' H' e p => q v _ H' (ghost_ext hg e) (DelP.del (e.g _ _ upd_same) p)
theorem ghostA {x C dx : Addr} {fs : List (Str × V)} {PP : List V → Hp → Prop} [DelPP PP] (hx : H x = some (.ins C dx fs)) (hg : G x = none) (s : Same G H) (h : EvA t σ (upd G x (.ins C dx fs)) PP) : EvAX t σ G H PP := fun Q q =>
  h H (ghost_same hx s) Q fun v G' H' e p => q v _ H' (ghost_ext hg e) (DelPP.del (e.g _ _ upd_same) p)
theorem ghostT {x : Addr} {o : HO} {b : Bool} (hx : H x = some o) (hg : G x = none) (s : Same G H) (h : EvT tt σ (upd G x o) b) : EtX tt σ G H b := fun Q q =>
  h H (ghost_same hx s) Q fun G' H' e => q _ H' (ghost_ext hg e)
/-- any object, the value no heap matters to -/
theorem ghostV {x : Addr} {o : HO} {p : V → Prop} (hx : H x = some o) (hg : G x = none) (s : Same G H) (h : EvP te σ (upd G x o) fun v _ => p v) : EvX te σ G H fun v _ => p v := fun Q q =>
  h H (ghost_same hx s) Q fun v G' H' e p => q v _ H' (ghost_ext hg e) p
/-- a method of self, self not known -/
theorem x_methX {C a dx : Addr} {fs : List (Str × V)} {m : Str} {sp : Sp} {E : XK} {PP : List V → Hp → Prop} {Q : VK} (ha : H a = some (.ins C dx fs)) (s : Same G H) (hl : fs.lookup m = none) (h : EvP ta σ G (rV (.ref a))) (ht : ∀ G' H', Ext G H G' H' → EvAX t σ G' H' PP)
    (kk : ∀ vs G' H', Ext G H G' H' → PP vs G' → H' a = some (.ins C dx fs) → sp (.ref a :: vs) H' Q E) : tMeth C m sp [] E ta t σ H Q :=
  h H s _ fun x G1 H1 e1 p1 => by
    cases (show x = .ref a from p1)
    refine ⟨a, dx, fs, rfl, e1.h _ _ ha, hl, ht G1 H1 e1 _ fun vs G2 H2 e2 p2 => ?_⟩
    have e := e1.trans e2
    rw [List.append_nil]
    exact kk vs G2 H2 e p2 (e.h _ _ ha)
theorem eax (h : EvA t σ G PP) (s : Same G H) : EvAX t σ G H PP := h H s
theorem x_dput {td ty tv : TE} {a : Addr} {kvs : List (Key × V)} {k : Key} (ha : H a = some (.dK kvs)) (hv : EvX tv σ G H P) (hd : ∀ G' H', Ext G H G' H' → EvX td σ G' H' (rV (.ref a))) (hk : EvP ty σ G (rV (kV k))) (hz : kvs.length < sizeLine) [MnP P]
    (kk : ∀ v G' H', Ext G H G' H' → P v G' → H' a = some (.dK kvs) → tz D σ (upd H' a (.dK (putK kvs k v)))) : tSeq (sDPut td ty tv) tz D σ H :=
  hv _ fun v G1 H1 e1 p1 => hd G1 H1 e1 _ fun x G2 H2 e2 p2 => hk.mono (e1.g.trans e2.g) H2 e2.s _ fun y G3 H3 e3 p3 => by
    cases (show x = .ref a from p2)
    cases (show y = kV k from p3)
    have e := (e1.trans e2).trans e3
    exact ⟨a, _, rfl, DPut.k (e.h _ _ ha) hz, kk v G3 H3 e (mn e3.g (mn e2.g p1)) (e.h _ _ ha)⟩
theorem ev_call5 {α : Type} {pre : α → List V → Hp → Prop} {post : α → V → Hp → Prop} {E : XK} {tc td : TE} {P3 P4 : V → Hp → Prop} [MnP P] [MnP P1] [MnP P2] [MnP P3] [MnP P4] (a : α) (h : EvP te σ G P) (h1 : EvP ta σ G P1) (h2 : EvP tb σ G P2) (h3 : EvP tc σ G P3) (h4 : EvP td σ G P4) (hp : ∀ v w u z y G', Same G G' → P v G' → P1 w G' → P2 u G' → P3 z G' → P4 y G' → pre a [v, w, u, z, y] G') :
    EvP (tCall (pSp pre post) [] E (tCons te (tCons ta (tCons tb (tCons tc (tCons td tNil)))))) σ G (post a) :=
  ev_call a (ea_5 h h1 h2 h3 h4) fun vs G' s p => by
    obtain ⟨v, _, rfl, p1, w, _, rfl, p2, u, _, rfl, p3, z, _, rfl, p4, y, _, rfl, p5, rfl⟩ := p
    exact hp v w u z y G' s p1 p2 p3 p4 p5
theorem q_ifn {b : Bool} {t1 : TS} (h : EvT tt σ G b) (s : Same G H) (h1 : b = true → ∀ G' H', Ext G H G' H' → t1 { D with nx := tz D } σ H') (h2 : b = false → ∀ G' H', Ext G H G' H' → tz D σ H') : tSeq (tIfS tt t1 tNext) tz D σ H := q_if h s h1 h2
theorem x_ifn {b : Bool} {t1 : TS} (h : EtX tt σ G H b) (h1 : b = true → ∀ G' H', Ext G H G' H' → t1 { D with nx := tz D } σ H') (h2 : b = false → ∀ G' H', Ext G H G' H' → tz D σ H') : tSeq (tIfS tt t1 tNext) tz D σ H := x_if h h1 h2
theorem s_ifn {b : Bool} {t1 : TS} (h : EvT tt σ G b) (s : Same G H) (h1 : b = true → ∀ G' H', Ext G H G' H' → t1 D σ H') (h2 : b = false → ∀ G' H', Ext G H G' H' → D.nx σ H') : tIfS tt t1 tNext D σ H := s_if h s h1 h2
theorem xs_ifn {b : Bool} {t1 : TS} (h : EtX tt σ G H b) (h1 : b = true → ∀ G' H', Ext G H G' H' → t1 D σ H') (h2 : b = false → ∀ G' H', Ext G H G' H' → D.nx σ H') : tIfS tt t1 tNext D σ H := xs_if h h1 h2
/-- while, the test at one heap -/
theorem xs_while {Gb Hb : Hp} {tb : TS} (eb : Ext Gb Hb G H) (J : Nat → St → Hp → Hp → Prop) (m0 : Nat) (h0 : J m0 σ G H)
    (hs : ∀ m σ' G' H', Ext Gb Hb G' H' → J m σ' G' H' → ∃ b, EtX tt σ' G' H' b ∧ (b = true → ∀ G2 H2, Ext G' H' G2 H2 → tb { D with nx := LW Gb Hb J m, ct := LW Gb Hb J m, bk := D.nx } σ' H2) ∧ (b = false → ∀ G2 H2, Ext G' H' G2 H2 → D.nx σ' H2)) :
    tWhile tt tb D σ H :=
  ⟨fun m σ' H' => ∃ G', Ext Gb Hb G' H' ∧ J m σ' G' H', ⟨m0, G, eb, h0⟩, fun m σ' H' ⟨G', e', j⟩ => by
    obtain ⟨b, ht, h1, h2⟩ := hs m σ' G' H' e' j
    refine ht _ fun G2 H2 e2 => ?_
    cases b with
    | true => exact ⟨LW Gb Hb J m, fun σ3 H3 ⟨m', G3, hm, e3, j3⟩ => ⟨m', hm, G3, e3, j3⟩, h1 rfl G2 H2 e2⟩
    | false => exact h2 rfl G2 H2 e2⟩
end
/-! hid -/
def hid (H : Hp) (x s : Addr) : Hp := fun p => if p = x ∨ p = s then none else H p
section
variable {Gb Hb G H G' H' : Hp} {x s : Addr}
theorem hid_l : hid H x s x = none := if_pos (.inl rfl)
theorem hid_r : hid H x s s = none := if_pos (.inr rfl)
theorem hid_of {p : Addr} {o : HO} (h : hid H x s p = some o) : H p = some o := by
  unfold hid at h
  split at h
  · cases h
  · exact h
theorem hid_ne {p : Addr} (h1 : p ≠ x) (h2 : p ≠ s) : hid H x s p = H p := if_neg (fun h => h.elim h1 h2)
theorem Ext.hid0 (h : Same G H) : Ext G (hid H x s) G H := ⟨Same.refl _, fun b u e => hid_of e, h, fun _ _ g => g⟩
theorem Ext.hid (a : Ext Gb Hb G H) (hx : Hb x = none) (hs : Hb s = none) (b : Ext G (Eld.hid H x s) G' H') : Ext Gb Hb G' H' := by
  refine ⟨a.g.trans b.g, fun p o e => ?_, b.s, fun p hp gp => ?_⟩
  · have h1 : p ≠ x := fun z => by subst z; rw [hx] at e; cases e
    have h2 : p ≠ s := fun z => by subst z; rw [hs] at e; cases e
    exact b.h p o (by rw [hid_ne h1 h2]; exact a.h p o e)
  · have h1 : p ≠ x := fun z => hp (by subst z; exact hx)
    have h2 : p ≠ s := fun z => hp (by subst z; exact hs)
    obtain ⟨o, e⟩ := some_of_ne hp
    refine b.f p ?_ (a.f p hp gp)
    rw [hid_ne h1 h2, a.h p o e]
    exact fun z => nomatch z
end
end Eld
set_option maxRecDepth 100000
set_option maxHeartbeats 1000000
/-! ClockRows. -/
namespace Eld
open PySem PySem.Spec PyProof.Rows L2
abbrev CL (K : PySem.W.Frag) : Addr := He.ga K "ClockRows"
abbrev cfs (m : Int) (n : Nat) (sd : Addr) (rf : V) : List (Str × V) := [("hours", .int m), ("many", .int n), ("steps", .ref sd), ("refused", rf)]
instance {n q : Nat} {ρ : Rw} : DelP (rRow n q ρ) := inferInstanceAs (DelP (r3 (rC n) rI (rC q) ρ.t))
/-- a dict of steps -/
structure StRep (n q : Nat) (st : Stp) (kvs : List (Key × V)) (G : Hp) : Prop where
  nd : (kvs.map (·.1)).Nodup
  rg : ∀ k ∈ kvs.map (·.1), ∃ p : Int, k = .inl p ∧ 0 ≤ p ∧ p < n
  get : ∀ p ρ, st p = some ρ → ∃ v, valV kvs (.inl p) = some v ∧ rRow n q ρ v G
  non : ∀ p, st p = none → valV kvs (.inl p) = none
theorem StRep.mono {n q : Nat} {st : Stp} {kvs : List (Key × V)} {G G' : Hp} (s : Same G G') (h : StRep n q st kvs G) : StRep n q st kvs G' :=
  ⟨h.nd, h.rg, fun p ρ e => let ⟨v, a, b⟩ := h.get p ρ e; ⟨v, a, mn s b⟩, h.non⟩
theorem StRep.len {n q : Nat} {st : Stp} {kvs : List (Key × V)} {G : Hp} (h : StRep n q st kvs G) : kvs.length ≤ n := by
  have := nodup_le (l := kvs.map (·.1)) (m := (List.range n).map fun i : Nat => (Sum.inl (i : Int) : Key)) h.nd fun x hx => by
    obtain ⟨p, rfl, h1, h2⟩ := h.rg x hx
    exact List.mem_map.mpr ⟨p.toNat, List.mem_range.mpr (by omega), by rw [Int.toNat_of_nonneg h1]⟩
  simpa using this
theorem putK_keys {kvs : List (Key × V)} {k : Key} {v : V} (h : ¬ valV kvs k = none) : (putK kvs k v).map (·.1) = kvs.map (·.1) := by
  unfold putK
  rw [valV_any, if_pos (by cases e : valV kvs k with | none => exact (h e).elim | some x => rfl), List.map_map]
  refine List.map_congr_left fun p _ => ?_
  show (if p.1 = k then (p.1, v) else p).1 = p.1
  split <;> rfl
theorem StRep.put {n q : Nat} {st : Stp} {kvs : List (Key × V)} {G : Hp} {p : Int} {ρ : Rw} {v : V} (h : StRep n q st kvs G) (hp : 0 ≤ p ∧ p < n) (hv : rRow n q ρ v G) : StRep n q (st.put p ρ) (putK kvs (.inl p) v) G := by
  refine ⟨?_, ?_, fun k τ e => ?_, fun k e => ?_⟩
  · by_cases z : valV kvs (.inl p) = none
    · exact nd_putK v h.nd z
    · rw [putK_keys z]; exact h.nd
  · intro k hk
    by_cases z : valV kvs (.inl p) = none
    · rw [putK_new v z, List.map_append] at hk
      rcases List.mem_append.mp hk with hk | hk
      · exact h.rg k hk
      · exact ⟨p, by simpa using hk, hp⟩
    · rw [putK_keys z] at hk; exact h.rg k hk
  · unfold Stp.put at e
    rw [valV_put]
    by_cases z : k = p
    · subst z
      rw [if_pos rfl] at e ⊢
      exact ⟨v, rfl, Option.some.inj e ▸ hv⟩
    · rw [if_neg z] at e
      rw [if_neg (fun y => z (Sum.inl.inj y))]
      exact h.get k τ e
  · unfold Stp.put at e
    rw [valV_put]
    by_cases z : k = p
    · rw [if_pos z] at e; cases e
    · rw [if_neg z] at e
      rw [if_neg (fun y => z (Sum.inl.inj y))]
      exact h.non k e
/-- the rows at a heap, not known -/
structure CRow (K : PySem.W.Frag) (n q : Nat) (m : Int) (st : Stp) (rf : V) (kvs : List (Key × V)) (x dx sd : Addr) (G H : Hp) : Prop where
  hx : H x = some (.ins (CL K) dx (cfs m n sd rf))
  hs : H sd = some (.dK kvs)
  gx : G x = none
  gs : G sd = none
  ne : x ≠ sd
  st : StRep n q st kvs G
theorem CRow.ext {K : PySem.W.Frag} {n q : Nat} {m : Int} {st : Stp} {rf : V} {kvs : List (Key × V)} {x dx sd : Addr} {G H G' H' : Hp} (h : CRow K n q m st rf kvs x dx sd G H) (e : Ext G H G' H') : CRow K n q m st rf kvs x dx sd G' H' :=
  ⟨e.h _ _ h.hx, e.h _ _ h.hs, e.f _ (by rw [h.hx]; exact fun z => nomatch z) h.gx, e.f _ (by rw [h.hs]; exact fun z => nomatch z) h.gs, h.ne, h.st.mono e.g⟩
theorem CRow.put {K : PySem.W.Frag} {n q : Nat} {m : Int} {st : Stp} {rf : V} {kvs : List (Key × V)} {x dx sd : Addr} {G H : Hp} {p : Int} {ρ : Rw} {v : V} (h : CRow K n q m st rf kvs x dx sd G H) (hp : 0 ≤ p ∧ p < n) (hv : rRow n q ρ v G) :
    CRow K n q m (st.put p ρ) rf (putK kvs (.inl p) v) x dx sd G (upd H sd (.dK (putK kvs (.inl p) v))) :=
  ⟨by rw [upd_ne h.ne]; exact h.hx, upd_same, h.gx, h.gs, h.ne, h.st.put hp hv⟩
section
variable {P : Program} {w : World} {K : PySem.W.Frag} {mg : Str → Option Value} {base : Heap}
/-- what a method of the rows promises -/
def cSp (K : PySem.W.Frag) {α : Type} (n q : α → Nat) (m : α → Int) (st : α → Stp) (rf : α → V) (pre : α → List V → Hp → Prop) (st' : α → Stp) (post : α → V → V → Hp → Prop) : Sp := fun vs H Q _ =>
  ∃ (a : α) (kvs : List (Key × V)) (x dx sd : Addr) (args : List V) (G : Hp), Same G H ∧ vs = .ref x :: args ∧ CRow K (n a) (q a) (m a) (st a) (rf a) kvs x dx sd G H ∧ pre a args G ∧
    ∀ v rf' kvs' G' H', Ext G (hid H x sd) G' H' → CRow K (n a) (q a) (m a) (st' a) rf' kvs' x dx sd G' H' → post a v rf' G' → Q v H'
structure OpA where
  n : Nat
  q : Nat
  m : Int
  st : Stp
  rf : V
  p : Int
  ρ : Rw
abbrev sp_open (K : PySem.W.Frag) : Sp := cSp K OpA.n OpA.q OpA.m OpA.st OpA.rf (fun a vs G => (∃ v, vs = [.int a.p, v] ∧ rRow a.n a.q a.ρ v G) ∧ (0 ≤ a.p ∧ a.p < a.n) ∧ 0 < a.m ∧ a.m ≤ 1000 ∧ a.n ≤ 1000 ∧ a.q ≤ 1000 ∧ a.ρ.In a.m ∧ 0 < a.ρ.c a.p)
  (fun a => a.st.put a.p a.ρ) (fun a v rf' G => rf' = a.rf ∧ rL (rRow a.n a.q) (half a.m a.p a.ρ) v G)
abbrev N_open_step : List Str := ["self", "place", "row", "number"]
theorem sc_open_step : FnScope N_open_step ["self", "place", "row"] (defScope s_ClockRows_open_step) := ⟨rfl, rfl, rfl, by decide +kernel, rfl, by decide +kernel, by decide +kernel⟩
theorem sml_div {m d : Int} (hm : 0 < m) (hm2 : m ≤ 1000) (hd : 0 < d) : sml (m.fdiv d) = true := by
  unfold sml
  rw [decide_eq_true_eq, Int.fdiv_eq_ediv_of_nonneg _ (by omega)]
  have h1 : 0 ≤ m / d := Int.ediv_nonneg (by omega) (by omega)
  have h2 : m / d ≤ m := Int.ediv_le_self _ (by omega)
  omega
theorem has_ClockRows_open_step (C : Ctx K mg) : HasM P w K mg base (CL K) "open_step" ["self", "place", "row"] 3 (sp_open K) := by
  obtain ⟨fd, F⟩ := C.d_ClockRows_open_step
  refine hasM_mk F C.m_ClockRows_open_step sc_open_step (fun _ _ _ _ _ _ us hl => match us, hl with | [_, _, _], _ => rfl) (fun vs H Q E h => ?_) (fun cdv A outer s H vs Q E hr hsp => ?_)
  · obtain ⟨a, kvs, x, dx, sd, args, G, _, rfl, _, ⟨⟨v, rfl, _⟩, _⟩, _⟩ := h; rfl
  have hu := hu_of hr
  refine ⟨_, (pss_cons (ps_dput hu (pe_fld (pv 0) rfl) (pv 1) (pv 2) rfl)
  (pss_cons (ps_set (i := 3) sc_open_step.nd rfl (Or.inl rfl) (pe_dget hu (pe_ix ix_tup (pv 2) pe_int (fun _ _ => rfl)) (pv 1) (fun _ _ => rfl)))
  (pss_cons (ps_if (pt_cmpR op_eq (pv 3) pe_int (nomark _))
    (pss_one (ps_ret (pe_lst pa_nil)))
    pss_nil)
  (pss_one (ps_ret (pe_lst (pa_cons (pe_callH (has_scaled C) hr (by decide) rfl (pa_cons (pv 2) (pa_cons (pe_op op_fdivN (pe_fld (pv 0) rfl) (pv 3)) (pa_cons (pe_fld (pv 0) rfl) pa_nil)))) pa_nil))))))), ?_⟩
  obtain ⟨⟨n, q, m, st, rf, p, ρ⟩, kvs, x, dx, sd, args, G, sG, rfl, hc, ⟨⟨rv, rfl, hrv⟩, hp, hm, hm2, hn, hq, hin, hpos⟩, k⟩ := hsp
  dsimp only at hc hrv hp hm hm2 hn hq hin hpos k
  refine x_dput (P := rRow n q ρ) (k := .inl p) hc.hs ((ev_var rfl hrv).at sG) (fun G' H' e => ex_fld (P := rV (.ref sd)) (hc.ext e).hx e.s (ev_var rfl rfl) C.c_ClockRows C.n_ClockRows_steps rfl rfl) (ev_var rfl rfl) (small1000 (by have := hc.st.len; omega)) fun v G1 H1 e1 p1 hs1 => ?_
  have hc1 := (hc.ext e1).put hp p1
  have e01 : Ext G (hid H x sd) G1 (upd H1 sd (.dK (putK kvs (.inl p) v))) := ((Ext.hid0 sG).trans e1).upd hid_r (hc.ext e1).gs
  have s1 := e01.s
  refine q_asg (ev_dgetC (ev_31 (ev_var (P := rRow n q ρ) rfl (mn e01.g hrv))) (ev_vi rfl) (by have := hpos; show ρ.c p ≠ 0; omega)) s1 fun v2 G2 H2 e2 p2 => ?_
  cases (show v2 = .int (ρ.c p) from p2)
  have hc2 := hc1.ext e2
  have e02 := e01.trans e2
  refine q_ifn (et_val (ev_eq (ev_vi rfl) ev_int)) e2.s (fun hb G3 H3 e3 => ?_) (fun hb G3 H3 e3 => ?_)
  · have h1 : ρ.c p = 1 := of_decide_eq_true hb
    refine s_ret (P := rL (rRow n q) []) ev_l0 e3.s fun v G4 H4 e4 p4 => k v rf _ G4 H4 ((e02.trans e3).trans e4) (hc2.ext (e3.trans e4)) ⟨rfl, ?_⟩
    unfold half
    rw [if_pos h1]
    exact p4
  · have h1 : ¬ ρ.c p = 1 := of_decide_eq_false hb
    have hc3 := hc2.ext e3
    have gx3 : (upd G3 x (.ins (CL K) dx (cfs m n sd rf))) x = some (.ins (CL K) dx (cfs m n sd rf)) := upd_same
    have sg3 : Same G (upd G3 x (.ins (CL K) dx (cfs m n sd rf))) := (e02.trans e3).g.trans (Same.new hc3.gx)
    refine xs_ret (ghost (P := rL (rRow n q) [ρ.sc m (m.fdiv (ρ.c p))]) hc3.hx hc3.gx e3.s (ev_l1 (ev_call3 (⟨n, q, ρ, m.fdiv (ρ.c p), m⟩ : ScA) (ev_var (P := rRow n q ρ) rfl (mn sg3 hrv))
      (ev_div (ev_fld (P := rI m) (ev_var rfl rfl) gx3 C.c_ClockRows C.n_ClockRows_hours rfl rfl) (ev_vi rfl) (show CDivN m (ρ.c p) from ⟨by omega, by have := hin.c p; omega⟩)) (ev_fld (P := rI m) (ev_var rfl rfl) gx3 C.c_ClockRows C.n_ClockRows_hours rfl rfl)
      fun v u z G' _ p p' p'' => ⟨⟨v, by rw [show u = .int (m.fdiv (ρ.c _)) from p', show z = .int m from p''], p⟩, hm, hn, hq, hin.sm hm2, sml_div hm hm2 hpos⟩))) fun v G4 H4 e4 p4 => k v rf _ G4 H4 ((e02.trans e3).trans e4) (hc2.ext (e3.trans e4)) ⟨rfl, ?_⟩
    unfold half
    rw [if_neg h1]
    exact p4
theorem putA_none {m p : Int} {ρ : Rw} {st : Stp} (h : st p = none) : putA m p ρ st = (st.put p (ρ.sc m (ouR (ρ.c p) m)), half m p (ρ.sc m (ouR (ρ.c p) m))) := by unfold putA; rw [h]
theorem putA_less {m p : Int} {ρ τ : Rw} {st : Stp} (h : st p = some τ) (hz : (ρ.c p).fmod (τ.c p) = 0) : putA m p ρ st = (st, [ρ.mix m 1 τ (-((ρ.c p).fdiv (τ.c p)))]) := by unfold putA; rw [h]; exact if_pos hz
theorem putA_else {m p : Int} {ρ τ : Rw} {st : Stp} (h : st p = some τ) (hz : ¬ (ρ.c p).fmod (τ.c p) = 0) : putA m p ρ st = (st.put p (ρ.mix m (bzR (ρ.c p) (τ.c p)).2.1 τ (bzR (ρ.c p) (τ.c p)).2.2),
        half m p (ρ.mix m (bzR (ρ.c p) (τ.c p)).2.1 τ (bzR (ρ.c p) (τ.c p)).2.2) ++
          [τ.mix m ((ρ.c p).fdiv (bzR (ρ.c p) (τ.c p)).1) ρ (-((τ.c p).fdiv (bzR (ρ.c p) (τ.c p)).1))]) := by unfold putA; rw [h]; exact if_neg hz
theorem mix_piv {m p f g d : Int} {ρ τ : Rw} (hl : ρ.c p * f + τ.c p * g = d) (h0 : 0 ≤ d) (h1 : d < m) : (ρ.mix m f τ g).c p = d := by
  have h2 := mix_at (m := m) (f := f) (g := g) (ρ := ρ) (τ := τ) (k := p)
  rw [show f * ρ.c p + g * τ.c p = d by grind] at h2
  have h3 : ((ρ.mix m f τ g).c p).fmod m = d.fmod m := fmod_congr (by omega) h2
  have h4 := (Rw.mix_in (m := m) (f := f) (g := g) (ρ := ρ) (τ := τ) (by omega)).c p
  rw [fmod_small h4.1 h4.2, fmod_small h0 h1] at h3
  exact h3
structure PaA where
  n : Nat
  q : Nat
  m : Int
  st : Stp
  rf : V
  p : Int
  ρ : Rw
abbrev sp_put_at (K : PySem.W.Frag) : Sp := cSp K PaA.n PaA.q PaA.m PaA.st PaA.rf (fun a vs G => (∃ v, vs = [.int a.p, v] ∧ rRow a.n a.q a.ρ v G) ∧ (0 ≤ a.p ∧ a.p < a.n) ∧ (2 ≤ a.m ∧ a.m ≤ 5) ∧ a.n ≤ 1000 ∧ a.q ≤ 1000 ∧ a.ρ.In a.m ∧ a.ρ.c a.p ≠ 0 ∧ (∀ k, k < a.p → a.ρ.c k = 0) ∧ StpOk a.n a.m a.st)
  (fun a => (putA a.m a.p a.ρ a.st).1) (fun a v rf' G => rf' = a.rf ∧ rL (rRow a.n a.q) (putA a.m a.p a.ρ a.st).2 v G)
abbrev N_put_at : List Str := ["self", "place", "row", "number", "step", "divisor", "first", "second", "rest"]
theorem sc_put_at : FnScope N_put_at ["self", "place", "row"] (defScope s_ClockRows_put_at) := ⟨rfl, rfl, rfl, by decide +kernel, rfl, by decide +kernel, by decide +kernel⟩
theorem sml_fdiv {a d : Int} (ha : 0 ≤ a) (hm2 : a ≤ 1000) (hd : 0 < d) : sml (a.fdiv d) = true := by
  unfold sml
  rw [decide_eq_true_eq, Int.fdiv_eq_ediv_of_nonneg _ (by omega)]
  have h1 : 0 ≤ a / d := Int.ediv_nonneg (by omega) (by omega)
  have h2 : a / d ≤ a := Int.ediv_le_self _ (by omega)
  omega
theorem sml_neg {a : Int} (h : sml a = true) : sml (-a) = true := by
  unfold sml at h ⊢
  rw [decide_eq_true_eq] at h ⊢
  omega
theorem sml_abs {a : Int} (h : a.natAbs ≤ 100) : sml a = true := by
  unfold sml
  rw [decide_eq_true_eq]
  omega
theorem has_ClockRows_put_at (C : Ctx K mg) : HasM P w K mg base (CL K) "put_at" ["self", "place", "row"] 4 (sp_put_at K) := by
  obtain ⟨fd, F⟩ := C.d_ClockRows_put_at
  refine hasM_mk F C.m_ClockRows_put_at sc_put_at (fun _ _ _ _ _ _ us hl => match us, hl with | [_, _, _], _ => rfl) (fun vs H Q E h => ?_) (fun cdv A outer s H vs Q E hr hsp => ?_)
  · obtain ⟨a, kvs, x, dx, sd, args, G, _, rfl, _, ⟨⟨v, rfl, _⟩, _⟩, _⟩ := h; rfl
  have hu := hu_of hr
  refine ⟨_, (pss_cons (ps_set (i := 3) sc_put_at.nd rfl (Or.inl rfl) (pe_dget hu (pe_ix ix_tup (pv 2) pe_int (fun _ _ => rfl)) (pv 1) (fun _ _ => rfl)))
  (pss_cons (ps_if (pt_cmp (pc_dnotin hu (pv 1) (pe_fld (pv 0) rfl)))
    (pss_one (ps_ret (pe_methH (has_ClockRows_open_step C) C.c_ClockRows hr (by decide) (pv 0) (pa_cons (pv 1) (pa_cons (pe_callH (has_scaled C) hr (by decide) rfl (pa_cons (pv 2) (pa_cons (pe_callH (has_opening_unit C) hr (by decide) rfl (pa_cons (pv 3) (pa_cons (pe_fld (pv 0) rfl) pa_nil))) (pa_cons (pe_fld (pv 0) rfl) pa_nil)))) pa_nil)))))
    pss_nil)
  (pss_cons (ps_set (i := 4) sc_put_at.nd rfl (Or.inl rfl) (pe_dget hu (pe_fld (pv 0) rfl) (pv 1) (fun _ _ => rfl)))
  (pss_cons (ps_if (pt_cmpR op_eq (pe_op op_modN (pv 3) (pe_dget hu (pe_ix ix_tup (pv 4) pe_int (fun _ _ => rfl)) (pv 1) (fun _ _ => rfl))) pe_int (nomark _))
    (pss_one (ps_ret (pe_lst (pa_cons (pe_callH (has_mixed C) hr (by decide) rfl (pa_cons (pv 2) (pa_cons pe_int (pa_cons (pv 4) (pa_cons (pe_un un_neg (pe_op op_fdivN (pv 3) (pe_dget hu (pe_ix ix_tup (pv 4) pe_int (fun _ _ => rfl)) (pv 1) (fun _ _ => rfl)))) (pa_cons (pe_fld (pv 0) rfl) pa_nil)))))) pa_nil))))
    pss_nil)
  (pss_cons (ps_asg (pe_callH (has_bezout C) hr (by decide) rfl (pa_cons (pv 3) (pa_cons (pe_dget hu (pe_ix ix_tup (pv 4) pe_int (fun _ _ => rfl)) (pv 1) (fun _ _ => rfl)) pa_nil))) (pg_tup rfl (pgs_cons (pg_name (i := 5) sc_put_at.nd rfl (Or.inl rfl)) (pgs_cons (pg_name (i := 6) sc_put_at.nd rfl (Or.inl rfl)) (pgs_cons (pg_name (i := 7) sc_put_at.nd rfl (Or.inl rfl)) pgs_nil)))))
  (pss_cons (ps_set (i := 8) sc_put_at.nd rfl (Or.inl rfl) (pe_callH (has_mixed C) hr (by decide) rfl (pa_cons (pv 4) (pa_cons (pe_op op_fdivN (pv 3) (pv 5)) (pa_cons (pv 2) (pa_cons (pe_un un_neg (pe_op op_fdivN (pe_dget hu (pe_ix ix_tup (pv 4) pe_int (fun _ _ => rfl)) (pv 1) (fun _ _ => rfl)) (pv 5))) (pa_cons (pe_fld (pv 0) rfl) pa_nil)))))))
  (pss_one (ps_ret (pe_op op_cat (pe_methH (has_ClockRows_open_step C) C.c_ClockRows hr (by decide) (pv 0) (pa_cons (pv 1) (pa_cons (pe_callH (has_mixed C) hr (by decide) rfl (pa_cons (pv 2) (pa_cons (pv 6) (pa_cons (pv 4) (pa_cons (pv 7) (pa_cons (pe_fld (pv 0) rfl) pa_nil)))))) pa_nil))) (pe_lst (pa_cons (pv 8) pa_nil))))))))))), ?_⟩
  obtain ⟨⟨n, q, m, st, rf, p, ρ⟩, kvs, x, dx, sd, args, G, sG, rfl, hc, ⟨⟨rv, rfl, hrv⟩, hp, hm, hn, hq, hin, hne, hlo, hok⟩, k⟩ := hsp
  dsimp only at hc hrv hp hm hn hq hin hne hlo hok k
  have ha : 1 ≤ ρ.c p ∧ ρ.c p < m := ⟨by have := (hin.c p).1; omega, (hin.c p).2⟩
  have fld : ∀ {G1 : Hp} {σ : St}, σ[0]? = some (some (.ref x)) → G1 x = some (.ins (CL K) dx (cfs m n sd rf)) → EvP (tFld K (tVar 0) "hours") σ G1 (rI m) := fun h h' => ev_fld (P := rI m) (ev_var h rfl) h' C.c_ClockRows C.n_ClockRows_hours rfl rfl
  refine q_asg (ev_dgetC (ev_31 (ev_var (P := rRow n q ρ) rfl hrv)) (ev_vi rfl) hne) sG fun v1 G1 H1 e1 p1 => ?_
  cases (show v1 = .int (ρ.c p) from p1)
  have hc1 := hc.ext e1
  refine x_ifn (b := !(valV kvs (.inl p)).isSome) (ghostTX hc1.hx hc1.gx (xt_val (ex_dnotinK (k := .inl p) hc1.hs (ghost_same hc1.hx e1.s) (ev_var rfl rfl) (ev_fld (P := rV (.ref sd)) (ev_var rfl rfl) upd_same C.c_ClockRows C.n_ClockRows_steps rfl rfl)))) (fun hb G2 H2 e2 => ?_) (fun hb G2 H2 e2 => ?_)
  · have hst : st p = none := by
      cases e : st p with
      | none => rfl
      | some τ =>
        obtain ⟨v, hv, _⟩ := hc.st.get p τ e
        rw [hv] at hb; simp at hb
    have O := ou_ok hm ha
    have e12 := e1.trans e2
    refine x_methX (PP := pCons (rI p) (pCons (rRow n q (ρ.sc m (ouR (ρ.c p) m))) pNil)) (hc1.ext e2).hx e2.s rfl (ev_var rfl rfl) (fun G' H' e => ?_) fun vs G3 H3 e3 pp hx3 => ?_
    · have hc3 := (hc1.ext e2).ext e
      refine ghostA hc3.hx hc3.gx e.s ?_
      have sg : Same G (upd G' x (.ins (CL K) dx (cfs m n sd rf))) := (e12.trans e).g.trans (Same.new hc3.gx)
      exact ea_2 (ev_vi rfl) (ev_call3 (⟨n, q, ρ, ouR (ρ.c p) m, m⟩ : ScA) (ev_var (P := rRow n q ρ) rfl (mn sg hrv))
        (ev_call2 ((ρ.c p, m) : Int × Int) (ev_vi (n := ρ.c p) rfl) (fld rfl upd_same) fun v u G' _ p p' => ⟨by rw [show v = .int (ρ.c _) from p, show u = .int m from p'], hm, ha⟩)
        (fld rfl upd_same) fun v u z G' _ p p' p'' => ⟨⟨v, by rw [show u = .int (ouR (ρ.c _) m) from p', show z = .int m from p''], p⟩, by show 0 < m; omega, hn, hq, hin.sm (by omega), sml_of ⟨O.lo, O.hi⟩ (by omega)⟩)
    · obtain ⟨_, _, rfl, p1, rv2, _, rfl, p2, rfl⟩ := pp
      cases p1
      have hc3 := (hc1.ext e2).ext e3
      refine ⟨⟨n, q, m, st, rf, p, ρ.sc m (ouR (ρ.c p) m)⟩, kvs, x, dx, sd, _, G3, e3.s, rfl, hc3, ⟨⟨rv2, rfl, p2⟩, hp, by show 0 < m; omega, by show m ≤ 1000; omega, hn, hq, Rw.sc_in (show 0 < m by omega), ?_⟩, fun v rf' kvs' G4 H4 e4 hc4 po => ?_⟩
      · show 0 < (ρ.c p * ouR (ρ.c p) m).fmod m
        rw [O.mul]
        have := Int.gcd_pos_of_ne_zero_left m hne
        omega
      · refine k v rf' kvs' G4 H4 (((Ext.hid0 sG).trans (e12.trans e3)).hid hid_l hid_r e4) ?_ ?_
        · rw [putA_none hst]; exact hc4
        · rw [putA_none hst]; exact po
  · obtain ⟨τ, hst⟩ : ∃ τ, st p = some τ := by
      cases e : st p with
      | none => rw [hc.st.non p e] at hb; simp at hb
      | some τ => exact ⟨τ, rfl⟩
    have S := hok p τ hst
    have hc2 := hc1.ext e2
    have e12 := e1.trans e2
    have he : 1 ≤ τ.c p ∧ τ.c p < m := ⟨S.pos, (S.inn.c p).2⟩
    obtain ⟨tv, htv, rtv⟩ := hc2.st.get p τ hst
    refine x_asg (P := rRow n q τ) (ghostX (K := K) hc2.hx hc2.gx (ex_dgetK (k := .inl p) hc2.hs (ghost_same hc2.hx e2.s) (ev_fld (P := rV (.ref sd)) (ev_var rfl rfl) upd_same C.c_ClockRows C.n_ClockRows_steps rfl rfl) (ev_var rfl rfl) htv (mn (Same.new hc2.gx) rtv))) fun tv3 G3 H3 e3 p3 => ?_
    have hc3 := hc2.ext e3
    have e13 := e12.trans e3
    have sh : Same G3 (upd G3 x (.ins (CL K) dx (cfs m n sd rf))) := Same.new hc3.gx
    have tget : ∀ {σ : St} {G5 : Hp}, σ[4]? = some (some tv3) → σ[1]? = some (some (.int p)) → Same G3 G5 → EvP (tDGet (tOp (rIxT K) (tVar 4) (tC (.int 0))) (tVar 1)) σ G5 (rI (τ.c p)) := fun h1 h2 s => ev_dgetC (ev_31 (ev_var (P := rRow n q τ) h1 (mn s p3))) (ev_vi h2) (show τ.c p ≠ 0 by omega)
    refine q_ifn (b := decide ((ρ.c p).fmod (τ.c p) = 0)) (et_val (ev_eq (ev_mod (ev_vi rfl) (tget rfl rfl (Same.refl _)) (show τ.c p ≠ 0 by omega)) ev_int)) e3.s (fun hb G4 H4 e4 => ?_) (fun hb G4 H4 e4 => ?_)
    · have hz : (ρ.c p).fmod (τ.c p) = 0 := of_decide_eq_true hb
      have hc4 := hc3.ext e4
      refine xs_ret (ghost (P := rL (rRow n q) [ρ.mix m 1 τ (-((ρ.c p).fdiv (τ.c p)))]) hc4.hx hc4.gx e4.s (ev_l1 (ev_call5 (⟨n, q, ρ, 1, τ, -((ρ.c p).fdiv (τ.c p)), m⟩ : MixA) (ev_var (P := rRow n q ρ) rfl (mn ((e13.trans e4).g.trans (Same.new hc4.gx)) hrv)) ev_int (ev_var (P := rRow n q τ) rfl (mn (e4.g.trans (Same.new hc4.gx)) p3))
        (ev_neg (ev_div (ev_vi rfl) (tget rfl rfl (e4.g.trans (Same.new hc4.gx))) (show CDivN (ρ.c p) (τ.c p) from ⟨by omega, by omega⟩))) (fld rfl upd_same)
        fun v u z y t G' _ p p' p'' p3 p4 => ⟨⟨v, z, by rw [show u = .int 1 from p', show y = .int (-((ρ.c _).fdiv (τ.c _))) from p3, show t = .int m from p4], p, p''⟩, by show 0 < m; omega, hn, hq, hin.sm (by omega), S.inn.sm (by omega), (show sml 1 = true by decide), sml_neg (sml_fdiv (by omega) (by omega) S.pos)⟩))) fun v G5 H5 e5 p5 => ?_
      refine k v rf kvs G5 H5 ((Ext.hid0 sG).trans ((e13.trans e4).trans e5)) ?_ ?_
      · rw [putA_less hst hz]; exact hc4.ext e5
      · rw [putA_less hst hz]; exact ⟨rfl, p5⟩
    · have hz : ¬ (ρ.c p).fmod (τ.c p) = 0 := of_decide_eq_false hb
      have B := bz_ok (a := ρ.c p) (b := τ.c p) (by omega) (by omega)
      refine q_asgG (P := r3 rI rI rI (bzR (ρ.c p) (τ.c p))) (ev_call2 ((ρ.c p, τ.c p) : Int × Int) (ev_vi (n := ρ.c p) rfl) (tget rfl rfl e4.g) fun v u G' _ p p' => ⟨by rw [show v = .int (ρ.c _) from p, show u = .int (τ.c _) from p'], by show 1 ≤ ρ.c _ ∧ ρ.c _ ≤ 5; omega, by show 1 ≤ τ.c _ ∧ τ.c _ ≤ 5; omega⟩) e4.s fun v5 G5 H5 e5 p5 => ?_
      obtain ⟨y1, y2, y3, q1, q2, q3, eg⟩ := eg_3 (K := K) (σ := start N_put_at [.ref x, .int p, rv] |>.set 3 (some (.int (ρ.c p))) |>.set 4 (some tv3)) (i := 5) (j := 6) (k := 7) p5
      refine ⟨_, eg, ?_⟩
      generalize hbz : bzR (ρ.c p) (τ.c p) = b at *
      have bpos := B.pos
      have bl1 := B.l1
      have bl2 := B.l2
      rw [hbz] at bpos bl1 bl2
      obtain ⟨d, f, g⟩ := b
      dsimp only at bpos bl1 bl2 q1 q2 q3
      cases (show y1 = .int d from q1)
      cases (show y2 = .int f from q2)
      cases (show y3 = .int g from q3)
      have hlin := B.lin
      have hg := B.gcd
      rw [hbz] at hlin hg
      have hle : d ≤ τ.c p := by
          have h1 : d ∣ τ.c p := by
            have : d = (Int.gcd (ρ.c p) (τ.c p) : Nat) := hg
            rw [this]; exact Int.gcd_dvd_right ..
          exact Int.le_of_dvd S.pos h1
      have hpiv : 0 < (ρ.mix m f τ g).c p := by
        rw [mix_piv hlin (by omega) (by omega)]
        exact bpos
      have hc5 := (hc3.ext e4).ext e5
      have e15 := (e13.trans e4).trans e5
      have g35 : Same G3 G5 := e4.g.trans e5.g
      refine x_asg (P := rRow n q (τ.mix m ((ρ.c p).fdiv d) ρ (-((τ.c p).fdiv d)))) (ghost hc5.hx hc5.gx e5.s (ev_call5 (⟨n, q, τ, (ρ.c p).fdiv d, ρ, -((τ.c p).fdiv d), m⟩ : MixA) (ev_var (P := rRow n q τ) rfl (mn (g35.trans (Same.new hc5.gx)) p3))
        (ev_div (ev_vi (n := ρ.c p) rfl) (ev_vi (n := d) rfl) (show CDivN (ρ.c p) d from ⟨by omega, by omega⟩)) (ev_var (P := rRow n q ρ) rfl (mn (e15.g.trans (Same.new hc5.gx)) hrv))
        (ev_neg (ev_div (tget rfl rfl (g35.trans (Same.new hc5.gx))) (ev_vi (n := d) rfl) (show CDivN (τ.c p) d from ⟨by omega, by omega⟩))) (fld rfl upd_same)
        fun v u z y t G' _ p p' p'' p3 p4 => ⟨⟨v, z, by rw [show u = .int ((ρ.c _).fdiv d) from p', show y = .int (-((τ.c _).fdiv d)) from p3, show t = .int m from p4], p, p''⟩, by show 0 < m; omega, hn, hq, S.inn.sm (by omega), hin.sm (by omega), sml_fdiv (by omega) (by omega) bpos, sml_neg (sml_fdiv (by omega) (by omega) bpos)⟩)) fun v6 G6 H6 e6 p6 => ?_
      have hc6 := hc5.ext e6
      have e16 := e15.trans e6
      refine x_methX (PP := pCons (rI p) (pCons (rRow n q (ρ.mix m f τ g)) pNil)) hc6.hx e6.s rfl (ev_var rfl rfl) (fun G' H' e => ?_) fun vs G7 H7 e7 pp hx7 => ?_
      · have hc7 := hc6.ext e
        refine ghostA hc7.hx hc7.gx e.s ?_
        have sg : Same G (upd G' x (.ins (CL K) dx (cfs m n sd rf))) := (e16.trans e).g.trans (Same.new hc7.gx)
        exact ea_2 (ev_vi rfl) (ev_call5 (⟨n, q, ρ, f, τ, g, m⟩ : MixA) (ev_var (P := rRow n q ρ) rfl (mn sg hrv)) (ev_vi (n := f) rfl)
          (ev_var (P := rRow n q τ) rfl (mn (((g35.trans e6.g).trans e.g).trans (Same.new hc7.gx)) p3)) (ev_vi (n := g) rfl) (fld rfl upd_same)
          fun v u z y t G' _ p p' p'' p3 p4 => ⟨⟨v, z, by rw [show u = .int f from p', show y = .int g from p3, show t = .int m from p4], p, p''⟩, by show 0 < m; omega, hn, hq, hin.sm (by omega), S.inn.sm (by omega), sml_abs bl1, sml_abs bl2⟩)
      · obtain ⟨_, _, rfl, p1, rv2, _, rfl, p2, rfl⟩ := pp
        cases p1
        have hc7 := hc6.ext e7
        refine ⟨⟨n, q, m, st, rf, p, ρ.mix m f τ g⟩, kvs, x, dx, sd, _, G7, e7.s, rfl, hc7, ⟨⟨rv2, rfl, p2⟩, hp, by show 0 < m; omega, by show m ≤ 1000; omega, hn, hq, Rw.mix_in (show 0 < m by omega), hpiv⟩, fun v rf' kvs' G8 H8 e8 hc8 po => ?_⟩
        obtain ⟨erf, po⟩ := po
        have e18 := ((Ext.hid0 sG).trans (e16.trans e7)).hid hid_l hid_r e8
        have sg68 : Same G6 G8 := e7.g.trans e8.g
        refine ev_l1 (R := rRow n q) (ev_var (P := rRow n q (τ.mix m ((ρ.c p).fdiv d) ρ (-((τ.c p).fdiv d)))) rfl (mn sg68 p6)) H8 e8.s _ fun w G9 H9 e9 p9 => ?_
        obtain ⟨l1, xs, rfl, hl1, al1⟩ := mn e9.g po
        obtain ⟨l2, zs, rfl, hl2, al2⟩ := p9
        have hlen1 := al1.length
        have hlen2 := al2.length
        have := half_len (m := m) (p := p) (σ := ρ.mix m f τ g)
        refine ⟨l1, l2, xs, zs, rfl, rfl, e9.s _ _ hl1, e9.s _ _ hl2, ?_, fun a ha => ?_⟩
        · rw [hlen1, hlen2]
          show (half m p (ρ.mix m f τ g)).length + 1 ≤ sizeLine
          exact Nat.le_of_lt (small1000 (by omega))
        · have e10 := Ext.new (o := .lst (xs ++ zs)) e9.s ha
          refine k _ rf' kvs' _ _ (e18.trans (e9.trans e10)) ?_ ?_
          · rw [putA_else hst hz, hbz]; exact (hc8.ext e9).ext e10
          · rw [putA_else hst hz, hbz]
            exact ⟨erf, a, _, rfl, upd_same, (al1.append al2).mono (Same.new (e9.s.free ha))⟩
end
end Eld
set_option maxRecDepth 100000
set_option maxHeartbeats 1000000
/-! ClockRows: __init__, put. -/
namespace Eld
open PySem PySem.Spec PyProof.Rows L2
section
variable {P : Program} {w : World} {K : PySem.W.Frag} {mg : Str → Option Value} {base : Heap}
/-! ### __init__ -/
def sp_cinit (K : PySem.W.Frag) : Sp := fun vs H Q _ => ∃ (m : Int) (n : Nat) (Gb Hb G : Hp) (x dx : Addr), Ext Gb Hb G H ∧ vs = [.ref x, .int m, .int n] ∧ H x = some (.ins (CL K) dx []) ∧ G x = none ∧ Hb x = none ∧
  ∀ sd G' H', Ext Gb Hb G' H' → (∀ q, CRow K n q m (fun _ => none) .non [] x dx sd G' H') → Hb sd = none → Q .non H'
abbrev N_cinit : List Str := ["self", "hours", "many"]
theorem sc_cinit : FnScope N_cinit ["self", "hours", "many"] (defScope s_ClockRows___init__) := ⟨rfl, rfl, rfl, by decide +kernel, rfl, by decide +kernel, by decide +kernel⟩
theorem has_ClockRows (C : Ctx K mg) : HasI P w K mg base (CL K) ["self", "hours", "many"] 1 (sp_cinit K) := by
  obtain ⟨fd, F⟩ := C.d_ClockRows___init__
  refine hasI_mk F C.mk_ClockRows sc_cinit (fun _ _ _ _ _ _ us hl => match us, hl with | [_, _, _], _ => rfl) (fun vs H Q E h => ?_) (fun cdv A outer s H vs Q E hr hsp => ?_)
  · obtain ⟨m, n, Gb, Hb, G, x, dx, _, rfl, _⟩ := h; rfl
  have hu := hu_of hr
  refine ⟨_, (pss_cons (ps_fld (pv 0) (pv 1) rfl)
  (pss_cons (ps_fld (pv 0) (pv 2) rfl)
  (pss_cons (ps_fld (pv 0) pe_dnewK rfl)
  (pss_one (ps_fld (pv 0) pe_non rfl))))), ?_⟩
  obtain ⟨m, n, Gb, Hb, G, x, dx, e0, rfl, hx, gx, hbx, k⟩ := hsp
  refine q_fldP (P := rI m) hx e0.s (ev_vi rfl) (ev_var rfl rfl) C.c_ClockRows C.n_ClockRows_hours (by decide) fun v G1 H1 e1 p1 hx1 => ?_
  cases (show v = .int m from p1)
  have gx1 := e1.f x (by rw [hx]; exact fun z => nomatch z) gx
  have e01 := (e0.trans e1).upd (o := .ins (CL K) dx (putF "hours" (.int m) [])) hbx gx1
  refine q_fldP (P := rI n) (C := CL K) (dx := dx) upd_same e01.s (ev_vi rfl) (ev_var rfl rfl) C.c_ClockRows C.n_ClockRows_many (show 1 < 1000 by decide) fun v G2 H2 e2 p2 hx2 => ?_
  cases (show v = .int n from p2)
  have gx2 := e2.f x (by rw [upd_same]; exact fun z => nomatch z) gx1
  have e02 := (e01.trans e2).upd (o := .ins (CL K) dx (putF "many" (.int n) (putF "hours" (.int m) []))) hbx gx2
  refine q_fldN (C := CL K) (dx := dx) upd_same e02.s en_dK (ev_var rfl rfl) C.c_ClockRows C.n_ClockRows_steps (show 2 < 1000 by decide) fun sd G3 H3 e3 hs2 gs3 hs3 hx3 => ?_
  have gx3 := e3.f x (by rw [upd_same]; exact fun z => nomatch z) gx2
  have hbs : Hb sd = none := e02.h.free hs2
  have ne : x ≠ sd := fun z => by subst z; rw [hx3] at hs3; cases hs3
  have e03 := (e02.trans e3).upd (o := .ins (CL K) dx (putF "steps" (.ref sd) (putF "many" (.int n) (putF "hours" (.int m) [])))) hbx gx3
  refine s_fldP (P := rN) (C := CL K) (dx := dx) upd_same e03.s ev_non (ev_var rfl rfl) C.c_ClockRows C.n_ClockRows_refused (show 3 < 1000 by decide) fun v G4 H4 e4 p4 hx4 => ?_
  cases (show v = .non from p4)
  have gx4 := e4.f x (by rw [upd_same]; exact fun z => nomatch z) gx3
  have e04 := (e03.trans e4).upd (o := .ins (CL K) dx (putF "refused" .non (putF "steps" (.ref sd) (putF "many" (.int n) (putF "hours" (.int m) []))))) hbx gx4
  have hs33 : upd H3 x (.ins (CL K) dx (putF "steps" (.ref sd) (putF "many" (.int n) (putF "hours" (.int m) [])))) sd = some (.dK []) := by rw [upd_ne ne.symm]; exact hs3
  refine k sd G4 _ e04 (fun q => ⟨by rw [upd_same]; rfl, ?_, gx4, ?_, ne, ⟨List.nodup_nil, (fun k h => nomatch h), (fun p ρ h => nomatch h), fun _ _ => rfl⟩⟩) hbs
  · rw [upd_ne ne.symm]; exact e4.h _ _ hs33
  · exact e4.f sd (by rw [hs33]; exact fun z => nomatch z) gs3
/-! ### put -/
def RfOk (q : Nat) (rf : V) (G : Hp) : Prop := rf = .non ∨ ∃ w, rC q w rf G
theorem RfOk.mono {q : Nat} {rf : V} {G G' : Hp} (s : Same G G') (h : RfOk q rf G) : RfOk q rf G' := h.elim .inl fun ⟨w, h⟩ => .inr ⟨w, mn s h⟩
/-- what the rows tell of E -/
structure Good (n : Nat) (m : Int) (E : (Int → Int) → Prop) (st : Stp) (rf : V) (wt : List Rw) : Prop where
  ok : StpOk n m st
  no : rf = .non → Inv2 n m E st wt
  yes : rf ≠ .non → ∀ x, ¬ E x
structure PuA where
  n : Nat
  q : Nat
  m : Int
  E : (Int → Int) → Prop
  ρ : Rw
def sp_put (K : PySem.W.Frag) : Sp := fun vs H Q _ => ∃ (a : PuA) (st : Stp) (rf : V) (kvs : List (Key × V)) (x dx sd : Addr) (rv : V) (G : Hp), Same G H ∧ vs = [.ref x, rv] ∧ CRow K a.n a.q a.m st rf kvs x dx sd G H ∧ rRow a.n a.q a.ρ rv G ∧
  (2 ≤ a.m ∧ a.m ≤ 5) ∧ a.n ≤ 900 ∧ a.q ≤ 1000 ∧ a.ρ.In a.m ∧ RfOk a.q rf G ∧ Good a.n a.m a.E st rf [] ∧
  ∀ v st' rf' kvs' G' H', Ext G (hid H x sd) G' H' → CRow K a.n a.q a.m st' rf' kvs' x dx sd G' H' → RfOk a.q rf' G' → Good a.n a.m (fun y => a.E y ∧ Sol a.n a.m y a.ρ) st' rf' [] → Q v H'
def meas (n : Nat) (ws : List (Rw × Nat)) : Nat := (ws.map fun e => 3 ^ (n - e.2)).sum
structure GS (n : Nat) (m : Int) (ws : List (Rw × Nat)) : Prop where
  inn : ∀ e ∈ ws, e.1.In m ∧ (∀ k, k < (e.2 : Int) → e.1.c k = 0) ∧ e.2 ≤ n
  len : ∀ i e, ws[i]? = some e → i ≤ e.2 + 1
theorem GS.size {n : Nat} {m : Int} {ws : List (Rw × Nat)} (h : GS n m ws) : ws.length ≤ n + 2 := by
  rcases Nat.eq_zero_or_pos ws.length with z | z
  · omega
  · have e : ws[ws.length - 1]? = some ws[ws.length - 1] := List.getElem?_eq_getElem (by omega)
    have a := h.len _ _ e
    have b := (h.inn _ (List.getElem_mem (by omega : ws.length - 1 < ws.length))).2.2
    omega
theorem meas_snoc {n : Nat} {ws : List (Rw × Nat)} {e : Rw × Nat} : meas n (ws ++ [e]) = meas n ws + 3 ^ (n - e.2) := by
  unfold meas
  rw [List.map_append, List.sum_append]
  simp
theorem meas_new {n b : Nat} {ws : List (Rw × Nat)} {new : List Rw} : meas n (ws ++ new.map fun τ => (τ, b)) = meas n ws + new.length * 3 ^ (n - b) := by
  unfold meas
  rw [List.map_append, List.sum_append]
  congr 1
  induction new with
  | nil => simp
  | cons a t ih => simp only [List.map_cons, List.sum_cons, List.length_cons, ih]; grind
theorem meas_lt {n b p : Nat} {ws : List (Rw × Nat)} {new : List Rw} {ρ : Rw} (hb : b ≤ p) (hp : p < n) (hl : new.length ≤ 2) : meas n (ws ++ new.map fun τ => (τ, p + 1)) < meas n (ws ++ [(ρ, b)]) := by
  rw [meas_new, meas_snoc]
  have h1 : 3 ^ (n - p) ≤ 3 ^ (n - b) := Nat.pow_le_pow_right (by omega) (by omega)
  have h2 : 3 ^ (n - p) = 3 * 3 ^ (n - (p + 1)) := by
    rw [show n - p = n - (p + 1) + 1 by omega, Nat.pow_succ, Nat.mul_comm]
  have h3 : 0 < 3 ^ (n - (p + 1)) := Nat.pow_pos (by omega)
  have h4 : new.length * 3 ^ (n - (p + 1)) ≤ 2 * 3 ^ (n - (p + 1)) := Nat.mul_le_mul_right _ hl
  show _ < meas n ws + 3 ^ (n - b)
  omega
theorem GS.pop {n : Nat} {m : Int} {ws : List (Rw × Nat)} {e : Rw × Nat} (h : GS n m (ws ++ [e])) : GS n m ws :=
  ⟨fun x hx => h.inn x (List.mem_append_left _ hx), fun i x hx => h.len i x (by rw [List.getElem?_append_left (List.getElem?_eq_some_iff.mp hx).1]; exact hx)⟩
theorem GS.push {n b p : Nat} {m : Int} {ws : List (Rw × Nat)} {new : List Rw} {ρ : Rw} (h : GS n m (ws ++ [(ρ, b)])) (hb : b ≤ p) (hp : p < n) (hl : new.length ≤ 2) (hn : ∀ τ ∈ new, τ.In m ∧ ∀ k : Int, k ≤ p → τ.c k = 0) : GS n m (ws ++ new.map fun τ => (τ, p + 1)) := by
  refine ⟨fun x hx => ?_, fun i x hx => ?_⟩
  · rcases List.mem_append.mp hx with hx | hx
    · exact h.pop.inn x hx
    · obtain ⟨τ, ht, rfl⟩ := List.mem_map.mp hx
      exact ⟨(hn τ ht).1, fun k hk => (hn τ ht).2 k (by simp at hk; omega), by show p + 1 ≤ n; omega⟩
  · by_cases z : i < ws.length
    · rw [List.getElem?_append_left z] at hx
      exact h.pop.len i x hx
    · have a := h.len ws.length (ρ, b) (by simp)
      rw [List.getElem?_append_right (by omega)] at hx
      have hi : i - ws.length < 2 := by
        have := (List.getElem?_eq_some_iff.mp hx).1
        rw [List.length_map] at this
        omega
      obtain ⟨τ, ht, rfl⟩ := List.mem_map.mp (List.mem_of_getElem? hx)
      show i ≤ p + 1 + 1
      have a : ws.length ≤ b + 1 := a
      omega
abbrev N_put : List Str := ["self", "row", "waiting", "lefts", "right", "weights"]
theorem sc_put : FnScope N_put ["self", "row"] (defScope s_ClockRows_put) := ⟨rfl, rfl, rfl, by decide +kernel, rfl, by decide +kernel, by decide +kernel⟩
theorem ex_lenU {σ : St} {G H : Hp} {ta : TE} {l : Addr} {xs : List V} (hl : H l = some (.lst xs)) (s : Same G H) (h : EvP ta σ G (rV (.ref l))) : EvX (tCB (fun xs H Q => ∃ p ys, xs = [.ref p] ∧ (SqL K H p ys ∨ SqT K H p ys) ∧ Q (.int ys.length) H) (tCons ta tNil)) σ G H (rI (xs.length : Int)) := fun Q q =>
  h H s _ fun x G1 H1 e1 p1 => by
    cases (show x = .ref l from p1)
    exact ⟨l, xs, rfl, .inl (SqL.of (e1.h _ _ hl)), q _ G1 H1 e1 rfl⟩
theorem least {n : Nat} {c : Int → Int} (hr : ∀ k, c k ≠ 0 → 0 ≤ k ∧ k < n) (h : ¬ ∀ k, c k = 0) : ∃ p : Nat, p < n ∧ c p ≠ 0 ∧ ∀ k, c k ≠ 0 → (p : Int) ≤ k := by
  have key : ∀ j : Nat, (∀ k : Int, k < j → c k = 0) ∨ ∃ p : Nat, c p ≠ 0 ∧ ∀ k, c k ≠ 0 → (p : Int) ≤ k := by
    intro j
    induction j with
    | zero =>
      refine .inl fun k hk => ?_
      by_cases z : c k = 0
      · exact z
      · have := hr k z; omega
    | succ j ih =>
      rcases ih with ih | ih
      · by_cases z : c j = 0
        · refine .inl fun k hk => ?_
          by_cases e : k = j
          · rw [e]; exact z
          · exact ih k (by omega)
        · refine .inr ⟨j, z, fun k hk => ?_⟩
          rcases Int.lt_or_le k j with l | l
          · exact (hk (ih k l)).elim
          · exact l
      · exact .inr ih
  rcases key n with a | ⟨p, h1, h2⟩
  · exact (h fun k => by
      by_cases z : c k = 0
      · exact z
      · have := hr k z
        exact a k this.2).elim
  · exact ⟨p, by have := hr p h1; omega, h1, h2⟩
theorem all2_split {δ : Type} {R : δ → V → Hp → Prop} {G : Hp} : ∀ {xs : List V} {ds : List δ} {v : V} {d : δ}, All2 R G (xs ++ [v]) (ds ++ [d]) → xs.length = ds.length → All2 R G xs ds ∧ R d v G
  | [], [], v, d, h, _ => by
    cases h with
    | cons r t => exact ⟨.nil, r⟩
  | x :: xs, e :: ds, v, d, h, hl => by
    cases h with
    | cons r t =>
      have := all2_split (xs := xs) (ds := ds) t (by simpa using hl)
      exact ⟨.cons r this.1, this.2⟩
  | [], _ :: _, _, _, _, hl => by simp at hl
  | _ :: _, [], _, _, _, hl => by simp at hl
theorem x_pop {σ : St} {G H : Hp} {ta : TE} {g : TG} {tz : TS} {D : Ends} {l : Addr} {xs : List V} {v : V} (hl : H l = some (.lst (xs ++ [v]))) (gl : G l = none) (s : Same G H) (h : EvP ta σ G (rV (.ref l)))
    (kk : ∀ G' H', Ext G H G' H' → ∃ σ', EvG g v σ G' σ' ∧ tz D σ' (upd H' l (.lst xs))) : tSeq (tAsg (tBM0 K "list" rPop ta) g) tz D σ H :=
  h H s _ fun x G1 H1 e1 p1 => by
    cases (show x = .ref l from p1)
    have hl1 := e1.h _ _ hl
    have gl1 := e1.f l (by rw [hl]; exact fun z => nomatch z) gl
    obtain ⟨σ', eg, k⟩ := kk G1 H1 e1
    refine ⟨.inl ⟨rfl, _, SqL.of hl1⟩, l, _, v, rfl, rfl, hl1, by simp, ?_⟩
    rw [List.dropLast_concat]
    refine eg _ (fun b u q => ?_) _ k
    rw [upd_ne (fun z => by subst z; rw [gl1] at q; cases q)]
    exact e1.s b u q
theorem s_extZ {σ : St} {G H : Hp} {ta tm : TE} {D : Ends} {l : Addr} {xs : List V} (hl : H l = some (.lst xs)) (s : Same G H) (hv : EvP ta σ G (rV (.ref l)))
    (k : ∀ G1 H1, Ext G H G1 H1 → tm σ H1 fun v H2 => rExtend (.ref l) [v] H2 fun _ H3 => D.nx σ H3) : tDrop (tBM K "list" rExtend ta (tCons tm tNil)) D σ H :=
  hv H s _ fun v G1 H1 e1 p1 => by
    cases (show v = .ref l from p1)
    exact ⟨Or.inl ⟨rfl, xs, SqL.of (e1.h l _ hl)⟩, k G1 H1 e1⟩
theorem CRow.other {n q : Nat} {m : Int} {st : Stp} {rf : V} {kvs : List (Key × V)} {x dx sd p : Addr} {o : HO} {G H : Hp} (h : CRow K n q m st rf kvs x dx sd G H) (h1 : p ≠ x) (h2 : p ≠ sd) : CRow K n q m st rf kvs x dx sd G (upd H p o) :=
  ⟨by rw [upd_ne (Ne.symm h1)]; exact h.hx, by rw [upd_ne (Ne.symm h2)]; exact h.hs, h.gx, h.gs, h.ne, h.st⟩
theorem has_ClockRows_put (C : Ctx K mg) : HasM P w K mg base (CL K) "put" ["self", "row"] 5 (sp_put K) := by
  obtain ⟨fd, F⟩ := C.d_ClockRows_put
  refine hasM_mk F C.m_ClockRows_put sc_put (fun _ _ _ _ _ _ us hl => match us, hl with | [_, _], _ => rfl) (fun vs H Q E h => ?_) (fun cdv A outer s H vs Q E hr hsp => ?_)
  · obtain ⟨a, st, rf, kvs, x, dx, sd, rv, G, _, rfl, _⟩ := h; rfl
  have hu := hu_of hr
  refine ⟨_, (pss_cons (ps_set (i := 2) sc_put.nd rfl (Or.inl rfl) (pe_lst (pa_cons (pv 1) pa_nil)))
  (pss_one (ps_while PassesOwn.never (PW.pt (pw_and (pt_cmpR op_gt (pe_callB call_len_seq (by rfl) C.f_len (by decide +kernel) (pa_cons (pv 2) pa_nil)) pe_int (nomark _)) (pw_and1 (pt_cmpR op_isN (pe_fld (pv 0) rfl) pe_non (nomark _)))))
    (pss_cons (ps_asg (pe_bm0 PySem.F.plainAttrs_list PySem.F.slot_list_pop PySem.F.type_list_pop mt_pop (pv 2)) (pg_tup rfl (pgs_cons (pg_name (i := 3) sc_put.nd rfl (Or.inl rfl)) (pgs_cons (pg_name (i := 4) sc_put.nd rfl (Or.inl rfl)) (pgs_cons (pg_name (i := 5) sc_put.nd rfl (Or.inl rfl)) pgs_nil)))))
  (pss_one (ps_if (pt_cmpR op_eq (pe_callB call_lenD (by rfl) C.f_len (by decide +kernel) (pa_cons (pv 3) pa_nil)) pe_int (nomark _))
    (pss_one (ps_if (pt_cmpR op_ne (pv 4) pe_int (nomark _))
    (pss_one (ps_fld (pv 0) (pv 5) rfl))
    pss_nil))
    (pss_one (ps_expr (pe_bm PySem.F.plainAttrs_list PySem.F.slot_list_extend PySem.F.type_list_extend mt_extend (pv 2) (pa_cons (pe_methH (has_ClockRows_put_at C) C.c_ClockRows hr (by decide) (pv 0) (pa_cons (pe_callB (cr_minK rfl) (by rfl) C.f_min (by decide +kernel) (pa_cons (pv 3) pa_nil)) (pa_cons (pe_tup (pa_cons (pv 3) (pa_cons (pv 4) (pa_cons (pv 5) pa_nil)))) pa_nil))) pa_nil)))))))))), ?_⟩
  obtain ⟨⟨n, q, m, E0, ρ⟩, st, rf, kvs, x, dx, sd, rv, G, sG, rfl, hc, hrv, hm, hn, hq, hin, hrf, hgood, k⟩ := hsp
  dsimp only at hc hrv hm hn hq hin hrf hgood k
  refine q_asgN (en_l1 (R := rRow n q) (x := ρ) (ev_var rfl hrv)) sG fun wl o G1 H1 e1 hp1 gp1 ho oo => ?_
  obtain ⟨xs0, rfl, al0⟩ := oo
  have hbw : hid H x sd wl = none := by
    cases z : hid H x sd wl with
    | none => rfl
    | some u => rw [hid_of z] at hp1; cases hp1
  refine xs_while (Gb := G) (Hb := hid H x sd) ((Ext.hid0 sG).trans e1) (fun mm σ' G' H' => ∃ st rf kvs, ∃ ws : List (Rw × Nat), ∃ xs a b c, σ' = [some (.ref x), some rv, some (.ref wl), a, b, c] ∧ H' wl = some (.lst xs) ∧ G' wl = none ∧ All2 (rRow n q) G' xs (ws.map Prod.fst) ∧
      CRow K n q m st rf kvs x dx sd G' H' ∧ RfOk q rf G' ∧ Good n m (fun y => E0 y ∧ Sol n m y ρ) st rf (ws.map Prod.fst) ∧ GS n m ws ∧ mm = meas n ws) (meas n [(ρ, 0)])
    ⟨st, rf, kvs, [(ρ, 0)], xs0, none, none, none, rfl, ho, gp1, al0, hc.ext e1, hrf.mono e1.g, ⟨hgood.ok, fun h => inv2_push (hgood.no h), fun h y hy => hgood.yes h y hy.1⟩, ⟨fun e he => ?_, fun i e he => ?_⟩, rfl⟩ fun mm σ' G' H' e' j => ?_
  · rw [List.mem_singleton.mp he]
    refine ⟨hin, fun z hz => ?_, Nat.zero_le _⟩
    by_cases y : ρ.c z = 0
    · exact y
    · obtain ⟨_, _, _, _, _, _, ⟨a, f, _, _, hf⟩, _⟩ := hrv
      have := hf.rg z y
      simp at hz; omega
  · have := (List.getElem?_eq_some_iff.mp he).1
    simp at this
    omega
  obtain ⟨st, rf, kvs, ws, xs, a, b, c, rfl, hw, gw, al, hc, hrf, hgood, gs, rfl⟩ := j
  have hwx : wl ≠ x := fun z => by subst z; rw [hc.hx] at hw; cases hw
  have hws : wl ≠ sd := fun z => by subst z; rw [hc.hs] at hw; cases hw
  refine ⟨decide ((0 : Int) < xs.length) && decide (rf = .non), xt_and (xt_val (ex_opI0 (P := rB (decide ((0 : Int) < xs.length))) (ex_lenU hw e'.s (ev_var rfl rfl)) (fun G2 H2 e2 => ev_int.at e2.s) fun _ => rfl))
    (fun _ G2 H2 e2 => ghostT (hc.ext e2).hx (hc.ext e2).gx e2.s (et_val (ev_isN (x := rf) (ev_fld (P := rV rf) (ev_var rfl rfl) upd_same C.c_ClockRows C.n_ClockRows_refused rfl rfl) ev_non))), fun hb G2 H2 e2 => ?_, fun hb G2 H2 e2 => ?_⟩
  · rw [Bool.and_eq_true, decide_eq_true_eq, decide_eq_true_eq] at hb
    obtain ⟨hpos, hnon⟩ := hb
    subst hnon
    have hlen := al.length
    rw [List.length_map] at hlen
    have hwne : ws ≠ [] := fun z => by subst z; simp at hlen; rw [hlen] at hpos; simp at hpos
    obtain ⟨ws', ⟨τ, b0⟩, rfl⟩ : ∃ ws' e, ws = ws' ++ [e] := ⟨ws.dropLast, ws.getLast hwne, (List.dropLast_concat_getLast hwne).symm⟩
    rw [List.map_append] at al hgood
    obtain ⟨xs', v, rfl, al', rv'⟩ : ∃ xs' v, xs = xs' ++ [v] ∧ All2 (rRow n q) G' xs' (ws'.map Prod.fst) ∧ rRow n q τ v G' := by
      have hxne : xs ≠ [] := fun z => by subst z; simp at hpos
      obtain ⟨xs', v, e⟩ : ∃ xs' v, xs = xs' ++ [v] := ⟨xs.dropLast, xs.getLast hxne, (List.dropLast_concat_getLast hxne).symm⟩
      subst e
      refine ⟨xs', v, rfl, ?_⟩
      have hl2 : xs'.length = (ws'.map Prod.fst).length := by simp at hlen; simp; omega
      exact all2_split al hl2
    have hc2 := hc.ext e2
    have hw2 := e2.h _ _ hw
    have gw2 := e2.f wl (by rw [hw]; exact fun z => nomatch z) gw
    have I := hgood.no rfl
    refine x_pop hw2 gw2 e2.s (ev_var rfl rfl) fun G3 H3 e3 => ?_
    have hc3 := (hc2.ext e3).other (o := .lst xs') hwx hws
    have gw3 := e3.f wl (by rw [hw2]; exact fun z => nomatch z) gw2
    have e23 := e2.trans e3
    have e03 := (e'.trans e23).upd (o := .lst xs') hbw gw3
    have rv3 : r3 (rC n) rI (rC q) τ.t v G3 := mn (P := rRow n q τ) e23.g rv'
    obtain ⟨y1, y2, y3, q1, q2, q3, eg⟩ := eg_3 (K := K) (σ := [some (.ref x), some rv, some (.ref wl), a, b, c]) (i := 3) (j := 4) (k := 5) rv3
    refine ⟨_, eg, ?_⟩
    cases (show y2 = .int τ.r from q2)
    have hτ := gs.inn (τ, b0) (List.mem_append_right _ (List.mem_singleton.mpr rfl))
    have al3 := al'.mono e23.g
    by_cases hz : ∀ z, τ.c z = 0
    · refine s_yes (et_val (ev_lenC0 (b := true) (ev_var rfl q1) ⟨fun _ => hz, fun _ => rfl⟩)) e03.s fun G4 H4 e4 => ?_
      have hc4 := hc3.ext e4
      have hw4 : H4 wl = some (.lst xs') := e4.h _ _ upd_same
      have gw4 := e4.f wl (by rw [upd_same]; exact fun z => nomatch z) gw3
      have e04 := e03.trans e4
      refine s_ifn (b := !decide (τ.r = 0)) (et_val (ev_ne (ev_vi rfl) ev_int)) e4.s (fun hb G5 H5 e5 => ?_) (fun hb G5 H5 e5 => ?_)
      · have hne : τ.r ≠ 0 := by simpa using hb
        have hc5 := hc4.ext e5
        refine s_fldP (P := rC q τ.w) hc5.hx e5.s (ev_var rfl (mn (e4.g.trans e5.g) q3)) (ev_var rfl rfl) C.c_ClockRows C.n_ClockRows_refused (show 4 < 1000 by decide) fun z G6 H6 e6 p6 hx6 => ?_
        have hc6 := hc5.ext e6
        have e06 := ((e04.trans e5).trans e6).upd (o := .ins (CL K) dx (putF "refused" z (cfs m n sd .non))) hid_l hc6.gx
        refine ⟨meas n ws', G6, ?_, e06, st, z, kvs, ws', xs', _, _, _, rfl, ?_, ?_, al3.mono ((e4.trans (e5.trans e6)).g), ⟨by rw [upd_same]; rfl, by rw [upd_ne (Ne.symm hc6.ne)]; exact hc6.hs, hc6.gx, hc6.gs, hc6.ne, hc6.st⟩, .inr ⟨_, p6⟩, ⟨hgood.ok, fun h => ?_, fun _ => inv2_bad I hz hne hτ.1⟩, gs.pop, rfl⟩
        · rw [meas_snoc]; have : 0 < 3 ^ (n - b0) := Nat.pow_pos (by omega); show _ < _ + 3 ^ (n - b0); omega
        · rw [upd_ne hwx]; exact (e5.trans e6).h _ _ hw4
        · exact (e5.trans e6).f wl (by rw [hw4]; exact fun z => nomatch z) gw4
        · subst h
          obtain ⟨_, _, h, _⟩ := p6
          cases h
      · have hr0 : τ.r = 0 := by simpa using hb
        refine ⟨meas n ws', G5, ?_, e04.trans e5, st, .non, kvs, ws', xs', _, _, _, rfl, (e5).h _ _ hw4, e5.f wl (by rw [hw4]; exact fun z => nomatch z) gw4, al3.mono (e4.trans e5).g, hc4.ext e5, .inl rfl, ⟨hgood.ok, fun h => inv2_pop I hz hr0, fun h => (h rfl).elim⟩, gs.pop, rfl⟩
        rw [meas_snoc]; have : 0 < 3 ^ (n - b0) := Nat.pow_pos (by omega); show _ < _ + 3 ^ (n - b0); omega
    · obtain ⟨p, hpn, hp0, hpl⟩ : ∃ p : Nat, p < n ∧ τ.c p ≠ 0 ∧ ∀ k, τ.c k ≠ 0 → (p : Int) ≤ k := by
        obtain ⟨_, _, _, _, hf⟩ := q1
        exact least hf.rg hz
      refine s_no (et_val (ev_lenC0 (b := false) (ev_var rfl q1) ⟨(fun h => by cases h), fun h => (hz h).elim⟩)) e03.s fun G4 H4 e4 => ?_
      have hc4 := hc3.ext e4
      have hw4 : H4 wl = some (.lst xs') := e4.h _ _ upd_same
      have gw4 := e4.f wl (by rw [upd_same]; exact fun z => nomatch z) gw3
      have e04 := e03.trans e4
      refine s_extZ hw4 e4.s (ev_var rfl rfl) fun G5 H5 e5 => ?_
      have hw5 := e5.h _ _ hw4
      have hc5 := hc4.ext e5
      have g35 : Same G3 G5 := e4.g.trans e5.g
      refine x_methX (PP := pCons (rI (p : Int)) (pCons (rRow n q τ) pNil)) hc5.hx e5.s rfl (ev_var rfl rfl) (fun G' H' e => eax (ea_2 (ev_minC (ev_var rfl (mn (g35.trans e.g) q1)) hp0 hpl) (ev_t3 (R := rC n) (S := rI) (U := rC q) (ev_var rfl (mn (g35.trans e.g) q1)) (ev_vi rfl) (ev_var rfl (mn (g35.trans e.g) q3)))) e.s) fun vs G6 H6 e6 pp hx6 => ?_
      obtain ⟨_, _, rfl, pi, rv6, _, rfl, pr, rfl⟩ := pp
      cases (show _ = V.int p from pi)
      have hc6 := hc5.ext e6
      have hbl : b0 ≤ p := by
        rcases Nat.lt_or_ge p b0 with l | l
        · exact (hp0 (hτ.2.1 p (by omega))).elim
        · exact l
      have PO := putA_ok (n := n) (p := (p : Int)) hm ⟨by omega, by omega⟩ hτ.1 hp0 (fun k hk => by
        by_cases z : τ.c k = 0
        · exact z
        · have := hpl k z; omega) hgood.ok I
      refine ⟨⟨n, q, m, st, .non, (p : Int), τ⟩, kvs, x, dx, sd, _, G6, e6.s, rfl, hc6, ⟨⟨rv6, rfl, pr⟩, ⟨by show (0 : Int) ≤ p; omega, by show (p : Int) < n; omega⟩, hm, by show n ≤ 1000; omega, hq, hτ.1, hp0, (fun k hk => by
        by_cases z : τ.c k = 0
        · exact z
        · have := hpl k z; have hk : k < (p : Int) := hk; omega), hgood.ok⟩, fun v7 rf7 kvs7 G7 H7 e7 hc7 po => ?_⟩
      obtain ⟨rfl, lb, ys, rfl, hlb, al7⟩ := po
      have hw6 := e6.h _ _ hw5
      have hw7 : H7 wl = some (.lst xs') := e7.h _ _ (by rw [hid_ne hwx hws]; exact hw6)
      have gw7 : G7 wl = none := e7.f wl (by rw [hid_ne hwx hws, hw6]; exact fun z => nomatch z) ((e5.trans e6).f wl (by rw [hw4]; exact fun z => nomatch z) gw4)
      have e07 := (e04.trans (e5.trans e6)).hid hid_l hid_r e7
      have sz : xs'.length + ys.length ≤ sizeLine := by
        have h1 := gs.pop.size
        have h2 := al'.length
        have h3 := al7.length
        have h4 := PO.len
        rw [List.length_map] at h2
        rw [h3]
        have : (putA m p τ st).2.length ≤ 2 := h4
        have h5 : xs'.length + (putA m p τ st).2.length ≤ 1000 := by omega
        exact Nat.le_of_lt (small1000 h5)
      refine ⟨wl, lb, xs', ys, rfl, rfl, hw7, e7.s _ _ hlb, sz, ?_⟩
      refine ⟨meas n (ws' ++ (putA m p τ st).2.map fun τ => (τ, p + 1)), G7, meas_lt hbl hpn PO.len, e07.upd hbw gw7, (putA m p τ st).1, .non, kvs7, ws' ++ (putA m p τ st).2.map fun τ => (τ, p + 1), xs' ++ ys, _, _, _, rfl, upd_same, gw7, ?_, hc7.other hwx hws, .inl rfl, ?_, gs.push hbl hpn PO.len PO.new, rfl⟩
      · have e : (ws' ++ (putA m p τ st).2.map fun τ => (τ, p + 1)).map Prod.fst = ws'.map Prod.fst ++ (putA m p τ st).2 := by
          rw [List.map_append, List.map_map]
          congr 1
          exact List.map_id _
        rw [e]
        exact (al3.mono (((e4.g.trans e5.g).trans e6.g).trans e7.g)).append al7
      · have e : (ws' ++ (putA m p τ st).2.map fun τ => (τ, p + 1)).map Prod.fst = ws'.map Prod.fst ++ (putA m p τ st).2 := by
          rw [List.map_append, List.map_map]
          congr 1
          exact List.map_id _
        rw [e]
        exact ⟨PO.ok, fun _ => PO.inv, fun h => (h rfl).elim⟩
  · have hc2 := hc.ext e2
    refine k .non st rf kvs G2 H2 (e'.trans e2) hc2 (hrf.mono e2.g) ⟨hgood.ok, fun h => ?_, hgood.yes⟩
    subst h
    have hx0 : xs.length = 0 := by simpa using hb
    have hlen := al.length
    rw [List.length_map, hx0] at hlen
    have : ws = [] := List.eq_nil_of_length_eq_zero hlen.symm
    subst this
    exact hgood.no rfl
end
end Eld
set_option maxRecDepth 100000
set_option maxHeartbeats 1000000
/-! ClockRows: number_at, settle, solution. -/
namespace Eld
open PySem PySem.Spec PyProof.Rows L2
section
variable {P : Program} {w : World} {K : PySem.W.Frag} {mg : Str → Option Value} {base : Heap}
/-- the rows, known -/
structure KRow (K : PySem.W.Frag) (n q : Nat) (m : Int) (st : Stp) (rf : V) (v : V) (G : Hp) : Prop where
  ex : ∃ x dx sd kvs, v = .ref x ∧ G x = some (.ins (CL K) dx (cfs m n sd rf)) ∧ G sd = some (.dK kvs) ∧ StRep n q st kvs G
  rf : RfOk q rf G
instance {n q : Nat} {m : Int} {st : Stp} {rf : V} : MnP (KRow K n q m st rf) := ⟨fun s ⟨⟨x, dx, sd, kvs, e, h1, h2, h3⟩, r⟩ => ⟨⟨x, dx, sd, kvs, e, s _ _ h1, s _ _ h2, h3.mono s⟩, r.mono s⟩⟩
theorem CRow.know {n q : Nat} {m : Int} {st : Stp} {rf : V} {kvs : List (Key × V)} {x dx sd : Addr} {Gb Hb G H : Hp} (h : CRow K n q m st rf kvs x dx sd G H) (hr : RfOk q rf G) (e : Ext Gb Hb G H) (hx : Hb x = none) (hs : Hb sd = none) :
    ∃ G', Ext Gb Hb G' H ∧ Same G G' ∧ KRow K n q m st rf (.ref x) G' := by
  have e1 := e.know hx h.gx h.hx
  have gs1 : L2.upd G x (.ins (CL K) dx (cfs m n sd rf)) sd = none := by rw [upd_ne h.ne.symm]; exact h.gs
  have s1 : Same G (L2.upd G x (.ins (CL K) dx (cfs m n sd rf))) := Same.new h.gx
  have s2 : Same (L2.upd G x (.ins (CL K) dx (cfs m n sd rf))) _ := Same.new (o := .dK kvs) gs1
  exact ⟨_, e1.know hs gs1 h.hs, s1.trans s2, ⟨x, dx, sd, kvs, rfl, by rw [upd_ne h.ne]; exact upd_same, upd_same, h.st.mono (s1.trans s2)⟩, hr.mono (s1.trans s2)⟩
theorem ev_of {te : TE} {σ : St} {G : Hp} {PP : V → Hp → Prop} (h : ∀ H, Same G H → EvX te σ G H PP) : EvP te σ G PP := fun H s => h H s
structure NaA where
  n : Nat
  q : Nat
  m : Int
  st : Stp
  rf : V
  p : Int
  f : Its
abbrev sp_number_at (K : PySem.W.Frag) : Sp := pSp (fun (a : NaA) vs G => (∃ G0 v d, Same G0 G ∧ vs = [v, .int a.p, .ref d, .bl false] ∧ KRow K a.n a.q a.m a.st a.rf v G0 ∧ G0 d = none ∧ G d = some (.dK (fV a.f))) ∧ (∀ k, a.p < k → k < a.n → ∃ i, getI a.f k = some i ∧ 0 ≤ i ∧ i < a.m) ∧ (2 ≤ a.m ∧ a.m ≤ 5) ∧ StpOk a.n a.m a.st)
  (fun a v _ => ∃ i, v = .int i ∧ 0 ≤ i ∧ i < a.m)
abbrev N_number_at : List Str := ["self", "place", "found", "free", "lefts", "right", "weights", "total", "key", "factor"]
theorem sc_number_at : FnScope N_number_at ["self", "place", "found", "free"] (defScope s_ClockRows_number_at) := ⟨rfl, rfl, rfl, by decide +kernel, rfl, by decide +kernel, by decide +kernel⟩
theorem has_ClockRows_number_at (C : Ctx K mg) : HasM P w K mg base (CL K) "number_at" ["self", "place", "found", "free"] 1 (sp_number_at K) := by
  obtain ⟨fd, F⟩ := C.d_ClockRows_number_at
  refine hasM_mk F C.m_ClockRows_number_at sc_number_at (fun _ _ _ _ _ _ us hl => match us, hl with | [_, _, _, _], _ => rfl) (fun vs H Q E h => ?_) (fun cdv A outer s H vs Q E hr hsp => ?_)
  · obtain ⟨a, G, _, ⟨⟨G0, v, d, _, rfl, _⟩, _⟩, _⟩ := h; rfl
  have hu := hu_of hr
  refine ⟨_, (pss_cons (ps_if (pt_cmp (pc_dnotin hu (pv 1) (pe_fld (pv 0) rfl)))
    (pss_one (ps_ret pe_int))
    pss_nil)
  (pss_cons (ps_asg (pe_dget hu (pe_fld (pv 0) rfl) (pv 1) (fun _ _ => rfl)) (pg_tup rfl (pgs_cons (pg_name (i := 4) sc_number_at.nd rfl (Or.inl rfl)) (pgs_cons (pg_name (i := 5) sc_number_at.nd rfl (Or.inl rfl)) (pgs_cons (pg_name (i := 6) sc_number_at.nd rfl (Or.inl rfl)) pgs_nil)))))
  (pss_cons (ps_set (i := 7) sc_number_at.nd rfl (Or.inl rfl) (pe_ifExp (pt_val (pv 3)) pe_int (pv 5)))
  (pss_cons (ps_lock (ps_for PassesOwn.never (by rfl) (pi_items (pv 4)) (pg_tup rfl (pgs_cons (pg_name (i := 8) sc_number_at.nd rfl (Or.inl rfl)) (pgs_cons (pg_name (i := 9) sc_number_at.nd rfl (Or.inl rfl)) pgs_nil)))
    (pss_one (ps_if (pt_cmpR op_ne (pv 8) (pv 1) (nomark _))
    (pss_one (ps_aug (i := 7) sc_number_at.nd rfl (Or.inl rfl) (pe_op op_mulW (pv 9) (pe_dget hu (pv 2) (pv 8) (fun _ _ => rfl))) ip_sub))
    pss_nil))))
  (pss_one (ps_ret (pe_op op_fdivN (pe_op op_modN (pv 7) (pe_fld (pv 0) rfl)) (pe_dget hu (pv 4) (pv 1) (fun _ _ => rfl))))))))), ?_⟩
  obtain ⟨⟨n, q, m, st, rf, p, f⟩, G, sG, ⟨⟨G0, v, d, s0, rfl, ⟨⟨x, dx, sd, kvs, rfl, hx, hs, hst⟩, hrf⟩, hd0, hd⟩, hf, hm, hok⟩, k⟩ := hsp
  dsimp only at hx hs hst hrf hd hf hm hok k
  have hst1 := hst.mono s0
  have hx1 := s0 _ _ hx
  have hs1 := s0 _ _ hs
  have stp : ∀ {G1 : Hp} {σ : St}, σ[0]? = some (some (.ref x)) → Same G G1 → EvP (tFld K (tVar 0) "steps") σ G1 (rV (.ref sd)) := fun h s => ev_fld (P := rV (.ref sd)) (ev_var h rfl) (s _ _ hx1) C.c_ClockRows C.n_ClockRows_steps rfl rfl
  have hou : ∀ {G1 : Hp} {σ : St}, σ[0]? = some (some (.ref x)) → Same G G1 → EvP (tFld K (tVar 0) "hours") σ G1 (rI m) := fun h s => ev_fld (P := rI m) (ev_var h rfl) (s _ _ hx1) C.c_ClockRows C.n_ClockRows_hours rfl rfl
  refine x_ifn (b := !(valV kvs (.inl p)).isSome) (xt_val (ex_dnotinK (k := .inl p) (sG _ _ hs1) sG (ev_var rfl rfl) (stp rfl (Same.refl _)))) (fun hb G2 H2 e2 => ?_) (fun hb G2 H2 e2 => ?_)
  · exact s_ret ev_int e2.s fun v G3 H3 e3 p3 => k v G3 H3 (e2.trans e3) ⟨0, p3, by omega, by omega⟩
  · obtain ⟨τ, hτ⟩ : ∃ τ, st p = some τ := by
      cases e : st p with
      | none => rw [hst.non p e] at hb; simp at hb
      | some τ => exact ⟨τ, rfl⟩
    have S := hok p τ hτ
    obtain ⟨tv, htv, rtv0⟩ := hst.get p τ hτ
    have rtv := mn s0 rtv0
    refine q_asgG (P := rV tv) (ev_of fun H' s' => ex_dgetK (k := .inl p) (s' _ _ (e2.g _ _ hs1)) s' (stp rfl e2.g) (ev_var rfl rfl) htv rfl) e2.s fun v3 G3 H3 e3 p3 => ?_
    cases (show v3 = tv from p3)
    have e23 := e2.trans e3
    obtain ⟨a0, y1, y2, y3, ea0, h30, q10, q20, q30⟩ := (show r3 (rC n) rI (rC q) τ.t tv G0 from rtv0)
    subst ea0
    obtain ⟨dl, fl, rfl, hdl0, hfl⟩ := q10
    cases (show y2 = .int τ.r from q20)
    have hdl : G dl = some (.dK (fV fl)) := s0 _ _ hdl0
    have hdd : d ≠ dl := fun z => by subst z; rw [hd0] at hdl0; cases hdl0
    refine ⟨([some (.ref x), some (.int p), some (.ref d), some (.bl false), some (.ref dl), some (.int τ.r), some y3, none, none, none] : St), fun H' s' Q' q' => ⟨a0, _, rfl, SqT.of ((s0.trans (e23.g.trans s')) _ _ h30), rfl, _, [_, _], rfl, _, [_], rfl, _, [], rfl, rfl, q'⟩, ?_⟩
    refine q_asg (P := rI τ.r) (ev_if (b := false) (et_val (ev_vb rfl)) (fun h => nomatch h) (fun _ => ev_vi rfl)) e3.s fun v4 G4 H4 e4 p4 => ?_
    cases (show v4 = .int τ.r from p4)
    have e24 := e23.trans e4
    refine s_items (D := { nx := _, rt := _, bk := _, ct := _ }) e24 sG hdl rfl (fun i σ' G' H' => ∃ t y z, σ' = [some (.ref x), some (.int p), some (.ref d), some (.bl false), some (.ref dl), some (.int τ.r), some y3, some (.int t), y, z])
      (fun o G2 H2 e2 => ⟨τ.r, none, none, rfl⟩) (fun o i kk v' σ' G0' H0' G' H' Gs D' hkv e0 j e' ss hD => ?_) (fun o σ' G' H' e5 e5' j => ?_)
    · obtain ⟨t, y, z, rfl⟩ := j
      obtain ⟨kx, b, hfi, rfl, rfl⟩ := fV_get hkv
      obtain ⟨rfl, hb'⟩ := hfl.at hfi
      refine s_ifn (b := !decide (kx = p)) (et_val (ev_ne (ev_vi rfl) (ev_vi rfl))) e'.s (fun hb2 G5 H5 e5 => ?_) (fun hb2 G5 H5 e5 => ?_)
      · have hne : kx ≠ p := by simpa using hb2
        have hlt : p < kx := by
          rcases Int.lt_or_le kx p with l | l
          · exact (hb' (S.lo kx l)).elim
          · omega
        obtain ⟨i2, hi2, h0i, h1i⟩ := hf kx hlt (hfl.rg kx hb').2
        have hdG : G5 d = some (.dK (fV f)) := ((e0.trans e').trans e5).g _ _ (by rw [upd_ne hdd]; exact hd)
        have hc := S.inn.c kx
        refine s_aug (b := τ.c kx * i2) rfl (ev_mul (i := τ.c kx) (j := i2) (ev_vi rfl) (ev_of fun H' s' => ex_dgetK (P := rI i2) (k := .inl kx) (s' _ _ hdG) s' (ev_var rfl rfl) (ev_var rfl rfl) (by rw [valV_fV, hi2]; rfl) rfl) (cmulW_of (sml_of (m := m) hc (by omega)) (sml_of (m := m) ⟨h0i, h1i⟩ (by omega)))) e5.s fun G6 H6 e6 => ?_
        rw [hD]
        exact ⟨G6, ss.trans ((e'.trans e5).trans e6).g, ((e0.trans e').trans e5).trans e6, _, _, _, rfl⟩
      · rw [hD]
        exact ⟨G5, ss.trans (e'.trans e5).g, (e0.trans e').trans e5, t, _, _, rfl⟩
    · obtain ⟨t, y, z, rfl⟩ := j
      have hdlG : (L2.upd G' dl (.dK (fV fl))) dl = some (.dK (fV fl)) := upd_same
      have hcp : τ.c p ≠ 0 := by have := S.pos; omega
      have hcb := S.inn.c p
      refine s_ret (ev_div (i := t.fmod m) (j := τ.c p) (ev_mod (ev_vi rfl) (hou rfl e5.g) (show m ≠ 0 by omega)) (ev_dgetC (n := n) (c := τ.c) (ev_var rfl ⟨dl, fl, rfl, upd_same, hfl⟩) (ev_vi rfl) hcp) (show CDivN _ (τ.c p) from ⟨hcp, by omega⟩)) e5.s fun v G6 H6 e6 p6 => k v G6 H6 (e5.trans e6) ⟨_, p6, ?_, ?_⟩
      · have := Int.fmod_nonneg_of_pos t (show 0 < m by omega)
        rw [Int.fdiv_eq_ediv_of_nonneg _ (by omega)]
        exact Int.ediv_nonneg this (by omega)
      · have h1 := Int.fmod_nonneg_of_pos t (show 0 < m by omega)
        have h2 := Int.fmod_lt_of_pos t (show 0 < m by omega)
        rw [Int.fdiv_eq_ediv_of_nonneg _ (by omega)]
        have := Int.ediv_le_self (a := t.fmod m) (τ.c p) h1
        show _ < m
        omega
end
end Eld
set_option maxRecDepth 100000
set_option maxHeartbeats 1000000
/-! settle, solution, clock_rows. -/
namespace Eld
open PySem PySem.Spec PyProof.Rows L2
section
variable {P : Program} {w : World} {K : PySem.W.Frag} {mg : Str → Option Value} {base : Heap}
theorem ev_methK {α : Type} {pre : α → List V → Hp → Prop} {post : α → V → Hp → Prop} {σ : St} {G : Hp} {ta : TE} {t : TA} {PP : List V → Hp → Prop} {E : XK} {C x dx : Addr} {fs : List (Str × V)} {m : Str} (a : α) (hx : G x = some (.ins C dx fs)) (hl : fs.lookup m = none) (h : EvP ta σ G (rV (.ref x)))
    (ht : ∀ G', Same G G' → EvA t σ G' PP) (hp : ∀ vs G', Same G G' → PP vs G' → pre a (.ref x :: vs) G') : EvP (tMeth C m (pSp pre post) [] E ta t) σ G (post a) := fun H s Q q =>
  x_meth (s _ _ hx) s hl h ht fun vs G' H' e p _ => ⟨a, G', e.s, hp vs G' e.g p, fun v G2 H2 e2 po => q v G2 H2 (e.trans e2) po⟩
theorem xs_dputV {σ : St} {G H : Hp} {D : Ends} {td ty tv : TE} {a : Addr} {kvs : List (Key × V)} {k : Key} {p : V → Prop} (ha : H a = some (.dK kvs)) (hv : EvX tv σ G H fun v _ => p v) (hd : EvP td σ G (rV (.ref a))) (hk : EvP ty σ G (rV (kV k))) (hz : kvs.length < sizeLine)
    (kk : ∀ v G' H', Ext G H G' H' → p v → H' a = some (.dK kvs) → D.nx σ (upd H' a (.dK (putK kvs k v)))) : sDPut td ty tv D σ H :=
  haveI : MnP (fun v _ => p v : V → Hp → Prop) := ⟨fun _ h => h⟩
  s_dput ha hv hd hk hz kk
def downTo (n : Nat) : List Int := (List.range n).map fun i : Nat => (n : Int) - 1 - (i : Nat)
theorem downTo_len (n : Nat) : (downTo n).length = n := by unfold downTo; rw [List.length_map, List.length_range]
theorem downTo_get {n i : Nat} {d : Int} (h : (downTo n)[i]? = some d) : i < n ∧ d = (n : Int) - 1 - (i : Nat) := by
  have hi : i < n := by
    have := (List.getElem?_eq_some_iff.mp h).1
    rwa [downTo_len] at this
  unfold downTo at h
  rw [List.getElem?_map, List.getElem?_range hi] at h
  exact ⟨hi, (Option.some.inj h).symm⟩
theorem ei_down {σ : St} {G : Hp} {ta tb tc : TE} {n : Nat} (h1 : EvP ta σ G (rI ((n : Int) - 1))) (h2 : EvP tb σ G (rI (-1))) (h3 : EvP tc σ G (rI (-1))) (hn : n ≤ 1000) : EvI (iRng3 (tCons ta (tCons tb (tCons tc tNil)))) σ G rI (downTo n) := fun H s Rr k =>
  ea_3 h1 h2 h3 H s _ fun vs G1 H1 e p => by
    obtain ⟨v, _, rfl, p1, v2, _, rfl, p2, v3, _, rfl, p3, rfl⟩ := p
    cases (show v = .int ((n : Int) - 1) from p1)
    cases (show v2 = .int (-1) from p2)
    cases (show v3 = .int (-1) from p3)
    refine ⟨_, _, _, n, rfl, ?_, k _ G1 H1 e ⟨fun i H hi s => ?_, fun H s => ?_, fun i d G' H' x H'' hd s s' y => ?_⟩⟩
    · have := RgC.neg (i := (n : Int) - 1) (j := -1) (by omega) (by omega) (by omega) (by omega)
      rwa [show ((n : Int) - 1 - -1).toNat = n by omega] at this
    · rw [downTo_len] at hi; exact hi
    · rw [downTo_len]; exact Nat.le_refl _
    · obtain ⟨rfl, rfl⟩ := y
      refine ⟨G', Ext.refl s', ?_⟩
      rw [(downTo_get hd).2]
      show V.int _ = V.int _
      congr 1
      omega
/-- a dict from ints to ints -/
def rF : V → Hp → Prop := fun v G => ∃ d f, v = .ref d ∧ G d = some (.dK (fV f))
instance : MnP rF := ⟨fun s ⟨d, f, e, h⟩ => ⟨d, f, e, s _ _ h⟩⟩
structure SeA where
  n : Nat
  q : Nat
  m : Int
  st : Stp
  rf : V
def sp_settle (K : PySem.W.Frag) : Sp := fun vs H Q _ => ∃ (a : SeA) (Gb Hb G : Hp) (v : V) (d : Addr), Ext Gb Hb G H ∧ vs = [v, .ref d, .bl false] ∧ KRow K a.n a.q a.m a.st a.rf v G ∧ Hb d = none ∧ G d = none ∧ H d = some (.dK []) ∧ (2 ≤ a.m ∧ a.m ≤ 5) ∧ a.n ≤ 900 ∧ StpOk a.n a.m a.st ∧
  ∀ v G' H', Ext Gb Hb G' H' → rF v G' → Q v H'
abbrev N_settle : List Str := ["self", "found", "free", "place"]
theorem sc_settle : FnScope N_settle ["self", "found", "free"] (defScope s_ClockRows_settle) := ⟨rfl, rfl, rfl, by decide +kernel, rfl, by decide +kernel, by decide +kernel⟩
theorem has_ClockRows_settle (C : Ctx K mg) : HasM P w K mg base (CL K) "settle" ["self", "found", "free"] 2 (sp_settle K) := by
  obtain ⟨fd, F⟩ := C.d_ClockRows_settle
  refine hasM_mk F C.m_ClockRows_settle sc_settle (fun _ _ _ _ _ _ us hl => match us, hl with | [_, _, _], _ => rfl) (fun vs H Q E h => ?_) (fun cdv A outer s H vs Q E hr hsp => ?_)
  · obtain ⟨a, Gb, Hb, G, v, d, _, rfl, _⟩ := h; rfl
  have hu := hu_of hr
  refine ⟨_, (pss_cons (ps_for PassesOwn.never (by rfl) (pi_range3 rfl C.f_range (pa_cons (pe_op op_sub (pe_fld (pv 0) rfl) pe_int) (pa_cons (pe_un un_neg pe_int) (pa_cons (pe_un un_neg pe_int) pa_nil)))) (pg_name (i := 3) sc_settle.nd rfl (Or.inl rfl))
    (pss_one (ps_if (pt_cmp (pc_dnotin hu (pv 3) (pv 1)))
    (pss_one (ps_dput hu (pv 1) (pv 3) (pe_methH (has_ClockRows_number_at C) C.c_ClockRows hr (by decide) (pv 0) (pa_cons (pv 3) (pa_cons (pv 1) (pa_cons (pv 2) pa_nil)))) rfl))
    pss_nil)))
  (pss_one (ps_ret (pv 1)))), ?_⟩
  obtain ⟨⟨n, q, m, st, rf⟩, Gb, Hb, G, v, d, e0, rfl, ⟨⟨x, dx, sd, kvs, rfl, hx, hs, hst⟩, hrf⟩, hbd, gd, hd, hm, hn, hok, k⟩ := hsp
  dsimp only at hx hs hst hrf hm hn hok k
  refine q_for e0 (ei_down (n := n) (ev_sub (ev_fld (P := rI n) (ev_var rfl rfl) hx C.c_ClockRows C.n_ClockRows_many rfl rfl) ev_int) (ev_neg ev_int) (ev_neg ev_int) (by omega))
    (fun i σ' G' H' => ∃ f z, σ' = [some (.ref x), some (.ref d), some (.bl false), z] ∧ H' d = some (.dK (fV f)) ∧ G' d = none ∧ f.length = i ∧ (∀ k : Int, (n : Int) - 1 - i < k → k < n → ∃ v, getI f k = some v ∧ 0 ≤ v ∧ v < m) ∧ ∀ k : Int, k ≤ (n : Int) - 1 - i → getI f k = none)
    (fun G1 H1 e1 => ⟨[], none, rfl, e1.h _ _ hd, e1.f d (by rw [hd]; exact fun z => nomatch z) gd, rfl, fun k _ _ => by omega, fun _ _ => rfl⟩) (fun G1 sG1 i dd v' σ' G0 H0 G' H' hk s0 e0' j e' r => ?_) (fun G1 σ' G' H' sG1 s1 e1 j => ?_)
  · obtain ⟨f, z, rfl, hd0, gd0, hlen, hf1, hf2⟩ := j
    obtain ⟨hi, rfl⟩ := downTo_get hk
    cases (show v' = .int _ from r)
    have hd1 := e'.h _ _ hd0
    have gd1 : G' d = none := e'.f d (by rw [hd0]; exact fun z => nomatch z) gd0
    have hnone : getI f ((n : Int) - 1 - i) = none := hf2 _ (Int.le_refl _)
    have sGG : Same G G' := (sG1.trans s0).trans e'.g
    refine xs_ifn (G := G') (b := true) (xt_val (G := G') ?_) (fun _ G2 H2 e2 => ?_) (fun h => nomatch h)
    · have := ex_dnotinK (σ := ([some (.ref x), some (.ref d), some (.bl false), z] : St).set 3 (some (V.int ((n : Int) - 1 - i)))) (ty := tVar 3) (td := tVar 1) (k := .inl ((n : Int) - 1 - i)) hd1 e'.s (ev_var rfl rfl) (ev_var rfl rfl)
      rw [valV_fV, hnone] at this
      exact this
    · have hd2 := e2.h _ _ hd1
      have gd2 : G2 d = none := e2.f d (by rw [hd1]; exact fun z => nomatch z) gd1
      have sg2 : Same G2 (upd G2 d (.dK (fV f))) := Same.new gd2
      refine xs_dputV (p := fun v => ∃ i, v = .int i ∧ 0 ≤ i ∧ i < m) (k := .inl ((n : Int) - 1 - i)) hd2 (ghostV (p := fun v => ∃ i, v = .int i ∧ 0 ≤ i ∧ i < m) hd2 gd2 e2.s (ev_methK (⟨n, q, m, st, rf, (n : Int) - 1 - i, f⟩ : NaA) (sg2 _ _ (e2.g _ _ (sGG _ _ hx))) rfl (ev_var rfl rfl)
        (fun G' s => ea_3 (ev_vi rfl) (ev_var (P := rV (.ref d)) rfl rfl) (ev_vb rfl)) fun vs G' s pp => ?_)) (ev_var rfl rfl) (ev_var rfl rfl) (by refine small1000 ?_; rw [fV_len]; omega) fun v3 G3 H3 e3 p3 hd3 => ?_
      · obtain ⟨v1, _, rfl, p1, v2, _, rfl, p2, v3, _, rfl, p3, rfl⟩ := pp
        refine ⟨⟨G2, .ref x, d, sg2.trans s, ?_, ⟨⟨x, dx, sd, kvs, rfl, e2.g _ _ (sGG _ _ hx), e2.g _ _ (sGG _ _ hs), hst.mono (sGG.trans e2.g)⟩, hrf.mono (sGG.trans e2.g)⟩, gd2, s _ _ upd_same⟩, fun k h1 h2 => hf1 k h1 h2, hm, hok⟩
        rw [show v1 = .int ((n : Int) - 1 - i) from p1, show v2 = .ref d from p2, show v3 = .bl false from p3]
      · obtain ⟨i2, rfl, h0, h1⟩ := p3
        have gd3 := e3.f d (by rw [hd2]; exact fun z => nomatch z) gd2
        refine ⟨G3, (s0.trans e'.g).trans (e2.trans e3).g, ((e0'.trans e').trans (e2.trans e3)).upd hbd gd3, putI f ((n : Int) - 1 - i) i2, _, rfl, by rw [upd_same, putK_fV], gd3, ?_, fun k h2 h3 => ?_, fun k h2 => ?_⟩
        · unfold putI
          rw [hnone, if_neg (by simp), List.length_append]
          show _ + 1 = _
          omega
        · rw [getI_put]
          by_cases z : k = (n : Int) - 1 - i
          · rw [if_pos z]; exact ⟨i2, rfl, h0, h1⟩
          · rw [if_neg z]; exact hf1 k (by omega) h3
        · rw [getI_put, if_neg (by omega)]
          exact hf2 k (by omega)
  · obtain ⟨f, z, rfl, hd0, gd0, _⟩ := j
    have e2 := e1.know hbd gd0 hd0
    exact s_ret (P := rF) (ev_var rfl ⟨d, f, rfl, upd_same⟩) e2.s fun v G3 H3 e3 p3 => k v G3 H3 (e2.trans e3) p3
abbrev sp_solution (K : PySem.W.Frag) : Sp := pSp (fun (a : SeA) vs G => ∃ v, vs = [v] ∧ KRow K a.n a.q a.m a.st a.rf v G ∧ (2 ≤ a.m ∧ a.m ≤ 5) ∧ a.n ≤ 900 ∧ StpOk a.n a.m a.st) (fun _ => rF)
abbrev N_solution : List Str := ["self"]
theorem sc_solution : FnScope N_solution ["self"] (defScope s_ClockRows_solution) := ⟨rfl, rfl, rfl, by decide +kernel, rfl, by decide +kernel, by decide +kernel⟩
theorem has_ClockRows_solution (C : Ctx K mg) : HasM P w K mg base (CL K) "solution" ["self"] 3 (sp_solution K) := by
  obtain ⟨fd, F⟩ := C.d_ClockRows_solution
  refine hasM_mk F C.m_ClockRows_solution sc_solution (fun _ _ _ _ _ _ us hl => match us, hl with | [_], _ => rfl) (fun vs H Q E h => ?_) (fun cdv A outer s H vs Q E hr hsp => ?_)
  · obtain ⟨a, G, _, ⟨v, rfl, _⟩, _⟩ := h; rfl
  have hu := hu_of hr
  refine ⟨_, (pss_one (ps_ret (pe_methH (has_ClockRows_settle C) C.c_ClockRows hr (by decide) (pv 0) (pa_cons pe_dnewK (pa_cons pe_bl pa_nil))))), ?_⟩
  obtain ⟨⟨n, q, m, st, rf⟩, G, sG, ⟨v, rfl, ⟨⟨x, dx, sd, kvs, rfl, hx, hs, hst⟩, hrf⟩, hm, hn, hok⟩, k⟩ := hsp
  dsimp only at hx hs hst hrf hm hn hok k
  refine ⟨.ref x, rfl, x, dx, _, rfl, sG _ _ hx, rfl, fun p hp => ?_⟩
  have e1 := Ext.newH (o := .dK []) sG hp
  exact ⟨⟨n, q, m, st, rf⟩, G, H, G, .ref x, p, e1, rfl, ⟨⟨x, dx, sd, kvs, rfl, hx, hs, hst⟩, hrf⟩, hp, sG.free hp, upd_same, hm, hn, hok, fun v G' H' e r => k v G' H' e r⟩
/-! ### clock_rows -/
/-- an equation by the indexes of its unknowns -/
abbrev Eqn := (Int → Int) × Int
def Eqn.at (n : Nat) (m : Int) (e : Eqn) (x : Int → Int) : Prop := m ∣ lin n e.1 x - e.2
def Eqn.row (m : Int) (i : Nat) (e : Eqn) : Rw := ⟨scF m 1 e.1, e.2.fmod m, fun k => if k = (i : Int) then 1 else 0⟩
theorem Eqn.row_sol {n i : Nat} {m : Int} {e : Eqn} {x : Int → Int} : Sol n m x (e.row m i) ↔ e.at n m x := by
  unfold Sol Rw.val Eqn.at Eqn.row
  have h1 : m ∣ lin n (scF m 1 e.1) x - lin n e.1 x := lin_mod n fun k => by
    have := fmod_dvd (e.1 k * 1) m
    show m ∣ (e.1 k * 1).fmod m - e.1 k
    rwa [Int.mul_one] at this ⊢
  refine dvd_iff ?_
  have h2 := Int.dvd_sub h1 (fmod_dvd e.2 m)
  show m ∣ lin n (scF m 1 e.1) x - e.2.fmod m - (lin n e.1 x - e.2)
  rw [show lin n (scF m 1 e.1) x - e.2.fmod m - (lin n e.1 x - e.2) = lin n (scF m 1 e.1) x - lin n e.1 x - (e.2.fmod m - e.2) by omega]
  exact h2
theorem Eqn.row_in {i : Nat} {m : Int} {e : Eqn} (hm : 2 ≤ m) : (e.row m i).In m := ⟨fun _ => fmod_in (by omega) _, fmod_in (by omega) _, fun k => by show 0 ≤ (if k = (i : Int) then (1 : Int) else 0) ∧ (if k = (i : Int) then (1 : Int) else 0) < m; split <;> omega⟩
def rEq (n : Nat) (e : Eqn) : V → Hp → Prop := r2 (rC n) rI e
instance {n : Nat} {e : Eqn} : MnP (rEq n e) := inferInstanceAs (MnP (r2 (rC n) rI e))
structure CrA where
  n : Nat
  m : Int
  es : List Eqn
def CrPost (K : PySem.W.Frag) (a : CrA) : V → Hp → Prop := fun v G => ∃ st rf, KRow K a.n a.es.length a.m st rf v G ∧ Good a.n a.m (fun x => ∀ e ∈ a.es, e.at a.n a.m x) st rf []
abbrev sp_clock_rows (K : PySem.W.Frag) : Sp := pSp (fun (a : CrA) vs G => (∃ v, vs = [.int a.m, .int a.n, v] ∧ rL (rEq a.n) a.es v G) ∧ (2 ≤ a.m ∧ a.m ≤ 5) ∧ a.n ≤ 900 ∧ a.es.length ≤ 900 ∧ ∀ e ∈ a.es, Sml e.1) (CrPost K)
abbrev N_clock_rows : List Str := ["hours", "many", "equations", "rows", "index", "pair", "lefts"]
theorem sc_clock_rows : FnScope N_clock_rows ["hours", "many", "equations"] (defScope s_clock_rows) := ⟨rfl, rfl, rfl, by decide +kernel, rfl, by decide +kernel, by decide +kernel⟩
theorem get_zip {δ : Type} {ds : List δ} {i : Nat} {d : Int × δ} (h : ((upTo 0 ds.length).zip ds)[i]? = some d) : d.1 = (i : Nat) ∧ ds[i]? = some d.2 := by
  rw [List.getElem?_zip_eq_some] at h
  have := upTo_get h.1
  exact ⟨by omega, h.2⟩
theorem q_makeC {σ : St} {G H : Hp} {D : Ends} {tz : TS} {E : XK} {t : TA} {i n : Nat} {m : Int} (h : EvA t σ G (pCons (rI m) (pCons (rI n) pNil))) (s : Same G H)
    (kk : ∀ x dx sd G' H', Ext G H G' H' → H x = none → H sd = none → (∀ q, CRow K n q m (fun _ => none) .non [] x dx sd G' H') → tz D (σ.set i (some (.ref x))) H') : tSeq (tAsg (tMake (CL K) (sp_cinit K) [] E t) (gName i)) tz D σ H :=
  h H s _ fun vs G1 H1 e1 pp => by
    obtain ⟨v1, _, rfl, p1, v2, _, rfl, p2, rfl⟩ := pp
    cases (show v1 = .int m from p1)
    cases (show v2 = .int n from p2)
    intro x dx hx hdx hne
    have e2 := e1.trans (Ext.newH (o := .own x) e1.s hdx)
    have hx2 : upd H1 dx (.own x) x = none := by rw [upd_ne (Ne.symm hne)]; exact hx
    have e3 := e2.trans (Ext.newH (o := .ins (CL K) dx []) e2.s hx2)
    have hHx := e1.h.free hx
    exact ⟨m, n, G, H, G1, x, dx, e3, rfl, upd_same, e1.s.free hx, hHx, fun sd G2 H2 e4 hc hsd => ⟨rfl, kk x dx sd G2 H2 e4 hHx hsd hc⟩⟩
theorem has_clock_rows (C : Ctx K mg) : Has P w K mg base "clock_rows" ["hours", "many", "equations"] 6 (sp_clock_rows K) := by
  obtain ⟨fd, F⟩ := C.d_clock_rows
  refine has_pure F C.g_clock_rows sc_clock_rows (fun _ _ _ _ _ _ us hl => match us, hl with | [_, _, _], _ => rfl) (fun a vs G h => by obtain ⟨⟨v, rfl, _⟩, _⟩ := h; rfl) (fun cdv A outer st H vs Q E hr a G sG hp k => ?_)
  have hu := hu_of hr
  refine ⟨_, (pss_cons (ps_set (i := 3) sc_clock_rows.nd rfl (Or.inl rfl) (pe_makeH (has_ClockRows C) hr (by decide) rfl C.g_ClockRows (pa_cons (pv 0) (pa_cons (pv 1) pa_nil))))
  (pss_cons (ps_for PassesOwn.never (by rfl) (pi_enum rfl C.f_enumerate (pa_cons (pv 2) pa_nil)) (pg_tup rfl (pgs_cons (pg_name (i := 4) sc_clock_rows.nd rfl (Or.inl rfl)) (pgs_cons (pg_name (i := 5) sc_clock_rows.nd rfl (Or.inl rfl)) pgs_nil)))
    (pss_cons (ps_set (i := 6) sc_clock_rows.nd rfl (Or.inl rfl) (pe_callH (has_items_scaled C) hr (by decide) rfl (pa_cons (pe_ix ix_tup (pv 5) pe_int (fun _ _ => rfl)) (pa_cons pe_int (pa_cons (pv 0) pa_nil)))))
  (pss_one (ps_expr (pe_methH (has_ClockRows_put C) C.c_ClockRows hr (by decide) (pv 3) (pa_cons (pe_tup (pa_cons (pv 6) (pa_cons (pe_op op_modN (pe_ix ix_tup (pv 5) pe_int (fun _ _ => rfl)) (pv 0)) (pa_cons (pe_disp (pps_cons (pv 4) pe_int pps_nil) rfl rfl (fun e => nomatch e) (by decide)) pa_nil)))) pa_nil))))))
  (pss_one (ps_ret (pv 3))))), ?_⟩
  obtain ⟨n, m, es⟩ := a
  obtain ⟨⟨v, rfl, hv⟩, hm, hn, hes, hsm⟩ := hp
  dsimp only at hv hm hn hes hsm
  have hm0 : 0 < m := by omega
  refine q_makeC (m := m) (n := n) (ea_2 (ev_vi rfl) (ev_vi rfl)) sG fun x dx sd G2 H2 e4 hHx hsd hc => ?_
  have hvL : rL (rEq n) es v G2 := mn e4.g hv
  refine q_for (Gb := G) (Hb := H) e4 (ei_enum (ev_var rfl hvL)) (fun i σ' G' H' => ∃ st rf kvs y z u, σ' = [some (.int m), some (.int n), some v, some (.ref x), y, z, u] ∧ CRow K n es.length m st rf kvs x dx sd G' H' ∧ RfOk es.length rf G' ∧ Good n m (fun x => ∀ e ∈ es.take i, e.at n m x) st rf [])
    (fun G3 H3 e => ⟨_, .non, [], none, none, none, rfl, (hc es.length).ext e, .inl rfl, ⟨fun _ _ h => (nomatch h), fun _ => by simpa using inv2_nil, fun h => (h rfl).elim⟩⟩) (fun G3 sG3 i d v' σ' G0 H0 G' H' hk s0 e0' j e' r => ?_) (fun G3 σ' G' H' sG3 s3 e5 j => ?_)
  · obtain ⟨st', rf, kvs, y, z, u, rfl, hc0, hrf0, hg⟩ := j
    obtain ⟨ei, c, r0⟩ := d
    obtain ⟨he1, he2⟩ := get_zip hk
    have he1 : ei = (i : Int) := he1
    subst he1
    have hi : i < es.length := (List.getElem?_eq_some_iff.mp he2).1
    have hmem : (c, r0) ∈ es := List.mem_of_getElem? he2
    obtain ⟨w1, w2, q1, q2, eg⟩ := eg_2 (K := K) (σ := [some (.int m), some (.int n), some v, some (.ref x), y, z, u]) (i := 4) (j := 5) r
    refine eg _ e'.s _ ?_
    cases (show w1 = .int (i : Int) from q1)
    have hc1 := hc0.ext e'
    have q2 : r2 (rC n) rI (c, r0) w2 G' := q2
    refine q_asg (ev_call3 (⟨n, c, 1, m⟩ : ScArg) (ev_fst (ev_var (P := r2 (rC n) rI (c, r0)) rfl q2)) ev_int (ev_vi rfl) fun v u z G' _ p p' p'' => ⟨⟨v, by rw [show u = .int 1 from p', show z = .int m from p''], p⟩, hm0, by show n ≤ 1000; omega, hsm _ hmem, (show sml 1 = true by decide)⟩) e'.s fun w6 G6 H6 e6 p6 => ?_
    have hc6 := hc1.ext e6
    have q26 : r2 (rC n) rI (c, r0) w2 G6 := mn (P := r2 (rC n) rI (c, r0)) e6.g q2
    show tMeth _ _ _ _ _ _ _ _ _ _
    refine x_methX (PP := pCons (rRow n es.length (Eqn.row m i (c, r0))) pNil) hc6.hx e6.s rfl (ev_var rfl rfl) (fun G' H' e => eax (ea_1 (P := rRow n es.length (Eqn.row m i (c, r0))) (ev_t3 (R := rC n) (S := rI) (U := rC es.length) (ev_var rfl (mn e.g p6)) (ev_mod (ev_snd (ev_var (P := r2 (rC n) rI (c, r0)) rfl (mn e.g q26))) (ev_vi rfl) (by omega))
      (EvN.rc (en_disp1 (i := (i : Int)) (j := 1) (ev_vi rfl) ev_int) fun p o G e => ⟨_, e, isF_one (by omega) (by omega) (by decide)⟩))) e.s) fun vs G7 H7 e7 pp hx7 => ?_
    obtain ⟨rv7, _, rfl, pr, rfl⟩ := pp
    have hc7 := hc6.ext e7
    refine ⟨⟨n, es.length, m, fun x => ∀ e ∈ es.take i, e.at n m x, Eqn.row m i (c, r0)⟩, st', rf, kvs, x, dx, sd, rv7, G7, e7.s, rfl, hc7, pr, hm, hn, by show es.length ≤ 1000; omega, Eqn.row_in hm.1, hrf0.mono ((e'.trans e6).trans e7).g, hg, fun v8 st8 rf8 kvs8 G8 H8 e8 hc8 hr8 hg8 => ?_⟩
    refine ⟨G8, s0.trans (((e'.trans e6).trans e7).g.trans e8.g), (((e0'.trans e').trans e6).trans e7).hid hHx hsd e8, st8, rf8, kvs8, _, _, _, rfl, hc8, hr8, ?_⟩
    have : (fun y => (∀ e ∈ es.take i, Eqn.at n m e y) ∧ Sol n m y (Eqn.row m i (c, r0))) = fun x => ∀ e ∈ es.take (i + 1), Eqn.at n m e x := by
      funext y
      have ht : es.take (i + 1) = es.take i ++ [(c, r0)] := by
        rw [take_snoc hi]
        rw [List.getElem?_eq_getElem hi] at he2
        rw [Option.some.inj he2]
      rw [Eqn.row_sol, ht]
      apply propext
      constructor
      · intro ⟨h1, h2⟩ e he
        rcases List.mem_append.mp he with he | he
        · exact h1 e he
        · rw [List.mem_singleton.mp he]; exact h2
      · intro h
        exact ⟨fun e he => h e (List.mem_append_left _ he), h _ (List.mem_append_right _ (List.mem_singleton.mpr rfl))⟩
    rw [← this]
    exact hg8
  · obtain ⟨st', rf, kvs, y, z, u, rfl, hc0, hrf0, hg⟩ := j
    rw [List.length_zip, upTo_len, Nat.min_self, List.take_length] at hg
    obtain ⟨G6, e6, s6, hk⟩ := hc0.know hrf0 e5 hHx hsd
    refine s_ret (P := KRow K n es.length m st' rf) (ev_var rfl hk) e6.s fun v G7 H7 e7 p7 => k v G7 H7 (e6.trans e7) ⟨st', rf, p7, hg⟩
end
end Eld
set_option maxRecDepth 100000
set_option maxHeartbeats 2000000
/-! dict(zip(..)) over a text and a tuple, over a list and a tuple. -/
namespace PySem
open Sem (wp)
section
variable {prog : Program} {w : World} {A : Around} {E : Value → Shared → Prop} {s : Shared} {z TI TO i1 i2 : Addr} {fp1 fp2 : List Addr} {n1 n2 i : Nat} {P1 P2 : Nat → Value → Prop} {St1 St2 : Nat → Heap → Prop} {a1 a2 : Value}
theorem zipD_next_item_held {T : Addr} {f : Bool} {oT : Obj} {Q : Value → Shared → Prop} (S : ZipSep2 z TI TO i1 i2 fp1 fp2) (D1 : Draws prog w A i1 fp1 n1 P1 St1) (D2 : Draws prog w A i2 fp2 n2 P2 St2)
    (hz : IsZipHeld s.heap z TI TO T f) (hT : s.heap.get? T = some oT) (hTI : IsTupOf2 s.heap TI (.ref i1) (.ref i2)) (st1 : St1 i s.heap) (st2 : St2 i s.heap) (hlt1 : i < n1) (hlt2 : i < n2)
    (hQ : ∀ x1 x2 h' tk, P1 i x1 → P2 i x2 → IsZipHeld h' z TI TO T true → St1 (i + 1) h' → St2 (i + 1) h' → IsTupOf2 h' s.heap.objs.size x1 x2 → h'.objs.size = s.heap.objs.size + 1 →
      (∀ c o, c ≠ z → c ≠ i1 → c ≠ i2 → s.heap.get? c = some o → h'.get? c = some o) → Q (.ref s.heap.objs.size) { s with heap := h', toks := tk }) :
    wpAny (model prog w) A (Builtin.«zip.__next__» ⟨[.ref z], []⟩) (fun fin s' => ∃ v, fin = .done (.ret v) ∧ Q v s') E s := by
  obtain ⟨hp, g, d, tk0, os⟩ := s
  show wpAny _ _ (field (.ref z) 2 >>= _) _ _ _
  refine wpAny_bind (wpAny_field hz rfl (x := .bool false) rfl ?_)
  show wpAny _ _ (field (.ref z) 3 >>= _) _ _ _
  refine wpAny_bind (wpAny_field hz rfl (x := .ref TI) rfl ?_)
  refine wpAny_bind (wpAny_seqItems hTI rfl ?_)
  show wpAny _ _ (Builtin.SmallTypes.ownedTupleIsFree (.ref z) >>= _) _ _ _
  refine wpAny_bind (wpAny_tupleHeld_zip hz hT fun h₁ hz₁ hs₁ => ?_)
  simp only [Bool.false_eq_true, if_false]
  replace hs₁ : Heap.SameBut z hp h₁ := hs₁
  refine wpAny_bind ?_
  rw [← Array.forIn_toList]
  simp only [List.forIn_cons, List.forIn_nil]
  refine wpAny_bind (wpAny_bind (wpAny_holding ?_))
  show wpAny _ _ (Builtin.SmallTypes.nextOf (.ref i1) >>= _) _ _ ⟨h₁, g, d, tk0, os⟩
  refine wpAny_bind (D1.item i _ _ _ hlt1 (D1.over st1 hs₁ S.zf1) fun x1 h₂ tk1 hx1 sn1 hs₂ => wpAny_pure ?_)
  replace hs₂ : Heap.SameBut i1 h₁ h₂ := hs₂
  refine wpAny_pure ?_
  refine wpAny_bind (wpAny_bind (wpAny_holding ?_))
  show wpAny _ _ (Builtin.SmallTypes.nextOf (.ref i2) >>= _) _ _ ⟨h₂, g, d, tk1, os⟩
  refine wpAny_bind (D2.item i _ _ _ hlt2 (D2.over (D2.over st2 hs₁ S.zf2) hs₂ S.sep1_2) fun x2 h₃ tk2 hx2 sn2 hs₃ => wpAny_pure ?_)
  replace hs₃ : Heap.SameBut i2 h₂ h₃ := hs₃
  refine wpAny_pure (wpAny_pure ?_)
  show wpAny _ _ (newTuple [x1, x2] >>= _) _ _ _
  refine wpAny_bind (wpAny_newTuple ?_)
  have hsz : h₃.objs.size = hp.objs.size := by rw [hs₃.1, hs₂.1, hs₁.1]
  have hz₃ : IsZipHeld h₃ z TI TO T true := hs₃.extBut _ _ S.zi2 (hs₂.extBut _ _ S.zi1 hz₁)
  have hk : ∀ c o, c ≠ z → c ≠ i1 → c ≠ i2 → hp.get? c = some o → h₃.get? c = some o := fun c o c1 c2 c3 e => hs₃.extBut _ _ c3 (hs₂.extBut _ _ c2 (hs₁.extBut _ _ c1 e))
  refine wpAny_pure ⟨_, rfl, ?_⟩
  show Q (.ref h₃.objs.size) _
  have hp' : IsTupOf2 (h₃.push { cls := .type "tuple", data := .seq #[x1, x2] }) h₃.objs.size x1 x2 := Heap.get?_push_size _ rfl
  have hz4 : (h₃.push { cls := .type "tuple", data := .seq #[x1, x2] }).objs.size = h₃.objs.size + 1 := Heap.size_push ..
  rw [hsz] at hp' hz4 ⊢
  exact hQ x1 x2 _ tk2 hx1 hx2 (Heap.get?_push_of_some _ hz₃) (D1.frame _ _ _ (D1.over sn1 hs₃ S.sep2_1) fun b hb o e => Heap.get?_push_of_some _ e) (D2.frame _ _ _ sn2 fun b hb o e => Heap.get?_push_of_some _ e) hp' hz4 fun c o c1 c2 c3 e => Heap.get?_push_of_some _ (hk c o c1 c2 c3 e)
theorem zipD_next_end_held {T : Addr} {f : Bool} {oT : Obj} {Q : Fin → Shared → Prop} (S : ZipSep2 z TI TO i1 i2 fp1 fp2) (D1 : Draws prog w A i1 fp1 n1 P1 St1) (D2 : Draws prog w A i2 fp2 n2 P2 St2)
    (hz : IsZipHeld s.heap z TI TO T f) (hT : s.heap.get? T = some oT) (hTI : IsTupOf2 s.heap TI (.ref i1) (.ref i2)) (st1 : St1 i s.heap) (st2 : St2 i s.heap) (hle1 : i ≤ n1) (hle2 : i ≤ n2) (hend : i = n1 ∨ i = n2)
    (hE : ∀ h' tk e, (∀ c o, c ≠ z → c ≠ i1 → c ≠ i2 → s.heap.get? c = some o → h'.get? c = some o) → (∃ o, h'.get? e = some o ∧ o.cls = .type "StopIteration") → E (.ref e) { s with heap := h', toks := tk }) :
    wpAny (model prog w) A (Builtin.«zip.__next__» ⟨[.ref z], []⟩) Q E s := by
  obtain ⟨hp, g, d, tk0, os⟩ := s
  show wpAny _ _ (field (.ref z) 2 >>= _) _ _ _
  refine wpAny_bind (wpAny_field hz rfl (x := .bool false) rfl ?_)
  show wpAny _ _ (field (.ref z) 3 >>= _) _ _ _
  refine wpAny_bind (wpAny_field hz rfl (x := .ref TI) rfl ?_)
  refine wpAny_bind (wpAny_seqItems hTI rfl ?_)
  show wpAny _ _ (Builtin.SmallTypes.ownedTupleIsFree (.ref z) >>= _) _ _ _
  refine wpAny_bind (wpAny_tupleHeld_zip hz hT fun h₁ hz₁ hs₁ => ?_)
  simp only [Bool.false_eq_true, if_false]
  replace hs₁ : Heap.SameBut z hp h₁ := hs₁
  refine wpAny_bind ?_
  rw [← Array.forIn_toList]
  simp only [List.forIn_cons, List.forIn_nil]
  refine wpAny_bind (wpAny_bind (wpAny_holding ?_))
  show wpAny _ _ (Builtin.SmallTypes.nextOf (.ref i1) >>= _) _ _ ⟨h₁, g, d, tk0, os⟩
  by_cases hlt1 : i < n1
  · refine wpAny_bind (D1.item i _ _ _ hlt1 (D1.over st1 hs₁ S.zf1) fun x1 h₂ tk1 hx1 sn1 hs₂ => wpAny_pure ?_)
    replace hs₂ : Heap.SameBut i1 h₁ h₂ := hs₂
    refine wpAny_pure ?_
    have hi2 : i = n2 := by omega
    refine wpAny_bind (wpAny_bind (wpAny_holding ?_))
    show wpAny _ _ (Builtin.SmallTypes.nextOf (.ref i2) >>= _) _ _ ⟨h₂, g, d, tk1, os⟩
    refine wpAny_bind (D2.done ⟨h₂, g, d, tk1, os⟩ _ _ (by rw [← hi2]; exact (D2.over (D2.over st2 hs₁ S.zf2) hs₂ S.sep1_2)) fun q e hq he => ?_)
    replace hq : Heap.ExtBut i2 h₂ q := hq
    exact hE q tk1 e (fun c o c1 c2 c3 x => hq _ _ c3 (hs₂.extBut _ _ c2 (hs₁.extBut _ _ c1 x))) he
  · have hi1 : i = n1 := by omega
    refine wpAny_bind (D1.done ⟨h₁, g, d, tk0, os⟩ _ _ (by rw [← hi1]; exact (D1.over st1 hs₁ S.zf1)) fun q e hq he => ?_)
    replace hq : Heap.ExtBut i1 h₁ q := hq
    exact hE q tk0 e (fun c o c1 c2 _ x => hq _ _ c2 (hs₁.extBut _ _ c1 x)) he
theorem wpAny_pyNext_zipD_item_held {T : Addr} {f : Bool} {oT : Obj} {Q : Option Value → Shared → Prop} (S : ZipSep2 z TI TO i1 i2 fp1 fp2) (D1 : Draws prog w A.in1 i1 fp1 n1 P1 St1) (D2 : Draws prog w A.in1 i2 fp2 n2 P2 St2)
    (hz : IsZipHeld s.heap z TI TO T f) (hT : s.heap.get? T = some oT) (hTI : IsTupOf2 s.heap TI (.ref i1) (.ref i2)) (st1 : St1 i s.heap) (st2 : St2 i s.heap) (hlt1 : i < n1) (hlt2 : i < n2)
    (hQ : ∀ x1 x2 h' tk, P1 i x1 → P2 i x2 → IsZipHeld h' z TI TO T true → St1 (i + 1) h' → St2 (i + 1) h' → IsTupOf2 h' s.heap.objs.size x1 x2 → h'.objs.size = s.heap.objs.size + 1 →
      (∀ c o, c ≠ z → c ≠ i1 → c ≠ i2 → s.heap.get? c = some o → h'.get? c = some o) → Q (some (.ref s.heap.objs.size)) { s with heap := h', toks := tk }) :
    wpAny (model prog w) A (pyNext (.ref z)) Q E s := by
  have hTy : s.TypeIs (.ref z) "zip" := ⟨_, hz, rfl⟩
  unfold pyNext
  exact wpAny_bind (wpAny_attempt (wpAny_callSpecial?_slot (name := Str.ofString "__next__") hTy F.slot_zip_next
    (wpAny_call_entry F.slot_zip_next hTy F.entry_zip_next
      (zipD_next_item_held S D1 D2 hz hT hTI st1 st2 hlt1 hlt2 fun x1 x2 h' tk y1 y2 a1 a3 a4 a5 a6 a7 => wpAny_pure (hQ x1 x2 h' tk y1 y2 a1 a3 a4 a5 a6 a7)) (F.args_zip_next_1 _))))
theorem wpAny_pyNext_zipD_end_held {T : Addr} {f : Bool} {oT : Obj} {Q : Option Value → Shared → Prop} (S : ZipSep2 z TI TO i1 i2 fp1 fp2) (D1 : Draws prog w A.in1 i1 fp1 n1 P1 St1) (D2 : Draws prog w A.in1 i2 fp2 n2 P2 St2)
    (hz : IsZipHeld s.heap z TI TO T f) (hT : s.heap.get? T = some oT) (hTI : IsTupOf2 s.heap TI (.ref i1) (.ref i2)) (st1 : St1 i s.heap) (st2 : St2 i s.heap) (hle1 : i ≤ n1) (hle2 : i ≤ n2) (hend : i = n1 ∨ i = n2)
    (hQ : ∀ h' tk, (∀ c o, c ≠ z → c ≠ i1 → c ≠ i2 → s.heap.get? c = some o → h'.get? c = some o) → Q none { s with heap := h', toks := tk }) : wpAny (model prog w) A (pyNext (.ref z)) Q E s := by
  have hTy : s.TypeIs (.ref z) "zip" := ⟨_, hz, rfl⟩
  unfold pyNext
  refine wpAny_bind (wpAny_attempt (wpAny_callSpecial?_slot (name := Str.ofString "__next__") hTy F.slot_zip_next
    (wpAny_call_entry F.slot_zip_next hTy F.entry_zip_next (zipD_next_end_held S D1 D2 hz hT hTI st1 st2 hle1 hle2 hend fun h' tk e hk he => ?_) (F.args_zip_next_1 _))))
  obtain ⟨o, ho, hc⟩ := he
  refine wpAny_bind (wpAny_isInstance (T := "StopIteration") (b := true) ⟨o, ho, hc⟩ isSubtype_stop ?_)
  exact wpAny_pure (hQ _ _ hk)
end
theorem PairArg.zipD {prog : Program} {w : World} {z TI TO i1 i2 : Addr} {fp1 fp2 : List Addr} {n1 n2 : Nat} {P1 P2 : Nat → Value → Prop} {St1 St2 : Nat → Heap → Prop} (S : ZipSep2 z TI TO i1 i2 fp1 fp2)
    (A0 : Around) (hA0 : A0.handled = none) (D1 : ∀ A : Around, A.handled = none → Draws prog w A i1 fp1 n1 P1 St1) (D2 : ∀ A : Around, A.handled = none → Draws prog w A i2 fp2 n2 P2 St2) :
    PairArg prog w "zip" z (z :: TI :: TO :: (fp1 ++ fp2)) [z, TO, i1, i2] (min n1 n2) (fun i k v => P1 i k ∧ P2 i v)
      (fun h => IsZip h z TI TO .none ∧ IsTupOf2 h TI (.ref i1) (.ref i2) ∧ (∃ a b, IsTupOf2 h TO a b) ∧ St1 0 h ∧ St2 0 h ∧ ∀ b ∈ fp1 ++ fp2, ∃ o, h.get? b = some o) where
  type := fun s ok => ⟨_, ok.1, rfl⟩
  notDict := by decide
  keep := fun h h' ok hk => by
    obtain ⟨hz, hTI, ⟨a, b, hTO⟩, h1, h2, hl⟩ := ok
    exact ⟨hk _ _ hz, hk _ _ hTI, ⟨a, b, hk _ _ hTO⟩, (D1 A0 hA0).frame _ _ _ h1 fun b _ o e => hk _ o e, (D2 A0 hA0).frame _ _ _ h2 fun b _ o e => hk _ o e, fun b hb => let ⟨o, e⟩ := hl b hb; ⟨o, hk _ _ e⟩⟩
  there := fun h ok b hb => by
    obtain ⟨hz, hTI, ⟨a, c, hTO⟩, h1, h2, hl⟩ := ok
    rcases List.mem_cons.mp hb with rfl | hb
    · exact ⟨_, hz⟩
    rcases List.mem_cons.mp hb with rfl | hb
    · exact ⟨_, hTI⟩
    rcases List.mem_cons.mp hb with rfl | hb
    · exact ⟨_, hTO⟩
    · exact hl b hb
  sub := fun b hb => by
    have hb : b = z ∨ b = TO ∨ b = i1 ∨ b = i2 := by simpa using hb
    rcases hb with rfl | rfl | rfl | rfl
    · exact List.mem_cons_self ..
    · exact List.mem_cons_of_mem _ (List.mem_cons_of_mem _ (List.mem_cons_self ..))
    · exact List.mem_cons_of_mem _ (List.mem_cons_of_mem _ (List.mem_cons_of_mem _ (List.mem_append_left _ S.mem1)))
    · exact List.mem_cons_of_mem _ (List.mem_cons_of_mem _ (List.mem_cons_of_mem _ (List.mem_append_right _ S.mem2)))
  noKeys := fun A s Q E hA ok h => getAttrOr_miss_zip ok.1 rfl rfl rfl zip_no_keys (by decide +kernel) hA h
  iter := fun A s d Q E hA ok hd hdf h => by
    obtain ⟨hz, hTI, ⟨a, b, hTO⟩, h1, h2, hl⟩ := ok
    have dz : d ≠ z := fun e => hdf (by simp [e])
    have dTI : d ≠ TI := fun e => hdf (by simp [e])
    have dTO : d ≠ TO := fun e => hdf (by simp [e])
    have df1 : d ∉ fp1 := fun e => hdf (by simp [e])
    have df2 : d ∉ fp2 := fun e => hdf (by simp [e])
    have di1 : d ≠ i1 := fun e => df1 (e ▸ S.mem1)
    have di2 : d ≠ i2 := fun e => df2 (e ▸ S.mem2)
    have E1 := D1 A.in1 hA
    have E2 := D2 A.in1 hA
    refine wpAny_pyIter_zip hz (h z [z, TO, i1, i2] (fun i h => IsTupOf2 h TI (.ref i1) (.ref i2) ∧ St1 i h ∧ St2 i h ∧
      ((IsZip h z TI TO .none ∧ ∃ a b, IsTupOf2 h TO a b) ∨ ∃ T f oT, IsZipHeld h z TI TO T f ∧ h.get? T = some oT ∧ T ≠ z ∧ T ≠ i1 ∧ T ≠ i2 ∧ T ≠ d)) s.heap s.toks ?_
      ⟨hTI, h1, h2, .inl ⟨hz, a, b, hTO⟩⟩ (fun _ _ e => e) fun b hb => .inl hb)
    exact {
      off := fun hm => by
        simp only [List.mem_cons, List.not_mem_nil, or_false] at hm
        rcases hm with e | e | e | e
        · exact dz e
        · exact dTO e
        · exact di1 e
        · exact di2 e
      frame := fun i h₁ h₂ st hk => by
        obtain ⟨hTI, h1, h2, hz⟩ := st
        refine ⟨hk _ _ (Ne.symm dTI) hTI, E1.frame _ _ _ h1 fun b hb o e => hk _ o (fun q => df1 (q ▸ hb)) e, E2.frame _ _ _ h2 fun b hb o e => hk _ o (fun q => df2 (q ▸ hb)) e, ?_⟩
        rcases hz with ⟨hz, a, b, hTO⟩ | ⟨T, f, oT, hz, hT, r1, r2, r3, r4⟩
        · exact .inl ⟨hk _ _ (Ne.symm dz) hz, a, b, hk _ _ (Ne.symm dTO) hTO⟩
        · exact .inr ⟨T, f, oT, hk _ _ (Ne.symm dz) hz, hk _ _ r4 hT, r1, r2, r3, r4⟩
      item := fun i s₁ Q₁ E₁ hi st hds hQ => by
        obtain ⟨hTI, h1, h2, hz⟩ := st
        have hix : i < n1 := Nat.lt_of_lt_of_le hi (Nat.min_le_left ..)
        have hiy : i < n2 := Nat.lt_of_lt_of_le hi (Nat.min_le_right ..)
        have lt : ∀ {c o}, s₁.heap.get? c = some o → s₁.heap.objs.size ≠ c := fun e => Nat.ne_of_gt (Heap.lt_size e)
        have l1 : s₁.heap.objs.size ≠ i1 := let ⟨_, e⟩ := E1.live _ _ h1; lt e
        have l2 : s₁.heap.objs.size ≠ i2 := let ⟨_, e⟩ := E2.live _ _ h2; lt e
        rcases hz with ⟨hz, a, b, hTO⟩ | ⟨T, f, oT, hz, hT, r1, r2, r3, r4⟩
        · refine wpAny_pyNext_zipD2_item S E1 E2 hz hTI hTO h1 h2 hix hiy fun x1 x2 h' tk y1 y2 b1 b2 d1 d2 b5 b6 hk => ?_
          exact hQ s₁.heap.objs.size x1 x2 h' tk ⟨y1, y2⟩ (.inl ⟨_, b5, rfl, _, rfl⟩)
            ⟨hk _ _ S.TIz S.TITO S.TIi1 S.TIi2 hTI, d1, d2, .inr ⟨s₁.heap.objs.size, false, _, b1, b5, lt hz, l1, l2, Nat.ne_of_gt hds⟩⟩
            fun c o hc e => hk c o (fun x => hc (by simp [x])) (fun x => hc (by simp [x])) (fun x => hc (by simp [x])) (fun x => hc (by simp [x])) e
        · refine wpAny_pyNext_zipD_item_held S E1 E2 hz hT hTI h1 h2 hix hiy fun x1 x2 h' tk y1 y2 b1 d1 d2 b5 b6 hk => ?_
          exact hQ s₁.heap.objs.size x1 x2 h' tk ⟨y1, y2⟩ (.inl ⟨_, b5, rfl, _, rfl⟩)
            ⟨hk _ _ S.TIz S.TIi1 S.TIi2 hTI, d1, d2, .inr ⟨T, true, oT, b1, hk _ _ r1 r2 r3 hT, r1, r2, r3, r4⟩⟩
            fun c o hc e => hk c o (fun x => hc (by simp [x])) (fun x => hc (by simp [x])) (fun x => hc (by simp [x])) e
      done := fun s₁ Q₁ E₁ st hQ => by
        obtain ⟨hTI, h1, h2, hz⟩ := st
        have hend : min n1 n2 = n1 ∨ min n1 n2 = n2 := by omega
        rcases hz with ⟨hz, a, b, hTO⟩ | ⟨T, f, oT, hz, hT, r1, r2, r3, r4⟩
        · exact wpAny_pyNext_zipD2_end S E1 E2 hz hTI hTO h1 h2 (Nat.min_le_left ..) (Nat.min_le_right ..) hend fun h' tk hk => hQ h' tk fun c o hc e => hk c o (fun x => hc (by simp [x])) (fun x => hc (by simp [x])) (fun x => hc (by simp [x])) (fun x => hc (by simp [x])) e
        · exact wpAny_pyNext_zipD_end_held S E1 E2 hz hT hTI h1 h2 (Nat.min_le_left ..) (Nat.min_le_right ..) hend fun h' tk hk => hQ h' tk fun c o hc e => hk c o (fun x => hc (by simp [x])) (fun x => hc (by simp [x])) (fun x => hc (by simp [x])) e }
end PySem
namespace Eld
open PySem PySem.Spec PyProof.Rows L2
section
variable {X : Cx} {e1 e2 : Expr} {ta : TA} {p p2 pos pos2 : Pos}
theorem new4 {b N : Nat} (h : b < N) (hb : b = N + 4 ∨ b = N + 3 ∨ b = N ∨ b = N + 1) : False := by omega
theorem kv_zip {ss : List Str} : ∀ {ys : List V} {its : List Value}, Vals ys its → KV ((ss.map fun x => (Sum.inr x : L2.Key)).zip ys) ((ss.map fun x => (Sum.inr x : L2.Key)).zip its) := by
  induction ss with
  | nil => intro ys its _; exact .nil
  | cons x ss ih =>
    intro ys its r
    cases r with
    | nil => exact .nil
    | cons r rr => exact .cons ⟨rfl, r⟩ (ih rr)
/-- dict(zip(text, tuple)) -/
def tDictZipS (K : PySem.W.Frag) (ta : TA) : TE := fun σ H Q => ta σ H fun vs H1 => ∃ x b ys, vs = [.str x, .ref b] ∧ SqT K H1 b ys ∧ (signs x).Nodup ∧ (signs x).length = ys.length ∧
  ∀ q, H1 q = none → Q (.ref q) (upd H1 q (.dK (((signs x).map fun y => (Sum.inr y : L2.Key)).zip ys)))
theorem pe_dictZipS (hc : X.calm = true) (hg : Gl X "dict") (hm : X.mg "dict" = none) (hg2 : Gl X "zip") (hm2 : X.mg "zip" = none) (ha : PA X [e1, e2] ta)
    (hs1 : starEach [.Call (.Name "zip" p2) [e1, e2] [] pos2] X.env = [(false, eval (.Call (.Name "zip" p2) [e1, e2] [] pos2) X.env)] := by rfl)
    (hs : starEach [e1, e2] X.env = (false, eval e1 X.env) :: starEach [e2] X.env := by rfl) (hpl : (backTo pos2 (starEach [e2] X.env)).any (·.1) = false := by rfl) :
    PE X (.Call (.Name "dict" p) [.Call (.Name "zip" p2) [e1, e2] [] pos2] [] pos) (tDictZipS X.K ta) := by
  refine ⟨fun pins s σ H Q I h => ?_⟩
  refine wpAny_Call_Name_kw (ld_blt I hg hm PyProof.Rows.boot_dict (PyProof.Rows.callWith_type1 ?_ hs1 rfl))
  rw [hs1]
  refine Calls.spliced_cons ?_
  refine wpAny_Call_Name_kw (ld_blt I hg2 hm2 PyProof.Rows.boot_zip (PyProof.Rows.callWith_type1 (thn (ha.run pos2 pins s σ H _ I h) fun us s1 ⟨vs, H1, I1, r1, q1⟩ => ?_) hs hpl))
  obtain ⟨x, b, ys, ex, hq, nd, hl, q⟩ := q1
  subst ex
  obtain ⟨u1, u2, rfl, ⟨t, rfl⟩, r2⟩ := vals2 r1
  obtain rfl : u2 = Value.ref b := r2
  obtain ⟨its, rv, p1, hz⟩ := I1.tuple hq
  have lb : b < s1.heap.objs.size := p1.lt
  refine zip_begins2 (begins_text x t) (begins_tuple b its.toArray) trivial p1 fun h' hzz hTI hTO g1 g2 hsz hk => ?_
  refine Calls.spliced_nil ?_
  have n1 : s1.heap.objs.size + 1 ≠ b := Ne.symm (Nat.ne_of_lt (Nat.lt_succ_of_lt lb))
  have fp0 : ∀ b' ∈ ([] : List Addr), b' < s1.heap.objs.size := fun _ h => nomatch h
  have fp1 : ∀ b' ∈ [b], b' < s1.heap.objs.size := fun b' h => by rw [List.mem_singleton.mp h]; exact lb
  have hlen : (signs x).length = x.cps.size := by unfold signs; rw [List.length_map, Array.length_toList]
  have hits : its.toArray.size = ys.length := by rw [List.size_toArray]; exact rv.length.symm
  have hmin : min x.cps.size its.toArray.size = ys.length := by omega
  have hkz := kv_zip (ss := signs x) rv
  have ndk : ((((signs x).map fun y => (Sum.inr y : L2.Key)).zip its).map (·.1)).Nodup := by
    have e : (((signs x).map fun y => (Sum.inr y : L2.Key)).zip its).map (·.1) = (signs x).map fun y => (Sum.inr y : L2.Key) := by
      refine List.map_fst_zip ?_
      rw [List.length_map]
      have := rv.length
      omega
    rw [e, List.nodup_iff_pairwise_ne]
    rw [List.nodup_iff_pairwise_ne] at nd
    exact List.Pairwise.map _ (fun a b h e => h (Sum.inr.inj e)) nd
  refine PySem.call_dict_pairs (s := { s1 with heap := h' }) (knd := mixKind X.prog X.w) (kvs := (((signs x).map fun y => (Sum.inr y : L2.Key)).zip its))
    (PairArg.zipD (zip_sep2 fp0 fp1) X.A (I1.ok.hd hc) (fun A hA => Draws.text hA _ x t) (fun A hA => Draws.tuple hA _ b (Ne.symm n1) its.toArray)) (I1.ok.hd hc)
    ⟨hzz, hTI, ⟨_, _, hTO⟩, ⟨_, g1, rfl, rfl⟩, ⟨⟨_, g2, rfl, rfl⟩, (show s1.heap.IsTuple b its.toArray from p1).at fun o e => hk _ _ e⟩, fun b' hb => ?_⟩ ⟨?_, fun i key v ⟨⟨c, u, hc, hk'⟩, hv⟩ => ?_⟩ (by omega) fun h2 tk hd' kk => ?_
  · have hb : b' = s1.heap.objs.size ∨ b' = s1.heap.objs.size + 1 ∨ b' = b := by simpa using hb
    rcases hb with rfl | rfl | rfl
    · exact ⟨_, g1⟩
    · exact ⟨_, g2⟩
    · obtain ⟨o, ho, _⟩ := id p1
      exact ⟨o, hk _ _ ho⟩
  · have := rv.length
    rw [List.length_zip, List.length_map]
    omega
  · refine ⟨.inr ⟨#[c]⟩, ?_, by rw [hk']; exact mixKind_str _ _ _ _⟩
    rw [List.getElem?_zip_eq_some]
    refine ⟨?_, by simpa using hv⟩
    unfold signs
    rw [List.map_map, List.getElem?_map, Array.getElem?_toList, hc]
    rfl
  · rw [merged_nil_of_nodup _ ndk] at hd'
    have hnew : ∀ b' o, s1.heap.get? b' = some o → h2.get? b' = some o := fun b' o e => kk b' o (fun hb => by
      have hb : b' = s1.heap.objs.size + 4 ∨ b' = s1.heap.objs.size + 3 ∨ b' = s1.heap.objs.size ∨ b' = s1.heap.objs.size + 1 := by simpa using hb
      have hlt : b' < s1.heap.objs.size := Heap.lt_size e
      exact new4 hlt hb) (hk _ _ e)
    have hm : (h'.objs.size == sysModules) = false := beq_eq_false_iff_ne.mpr (Nat.ne_of_gt (by rw [hsz]; exact Nat.lt_add_right _ I1.big))
    have hfr : H1 h'.objs.size = none := I1.hok.fresh (by rw [hsz]; exact Nat.le_add_right _ _)
    refine ⟨.ref h'.objs.size, upd H1 h'.objs.size (.dK (((signs x).map fun y => (Sum.inr y : L2.Key)).zip ys)), I1.laid (t' := tk) hnew (by rw [hsz]; exact Nat.le_add_right _ _) (show ObjOk X.prog X.w _ _ _ (.dK (((signs x).map fun y => (Sum.inr y : L2.Key)).zip ys)) from ⟨?_, hm, _, hkz, hd'⟩), rfl, q _ hfr⟩
    rw [List.length_zip]
    omega
end
end Eld
namespace Eld
open PySem PySem.Spec PyProof.Rows L2
section
theorem fold_putN : ∀ {l acc : List (Pl × Int)}, ((acc ++ l).map (·.1)).Nodup → l.foldl (fun acc kv => putN acc kv.1 kv.2) acc = acc ++ l
  | [], acc, _ => (List.append_nil _).symm
  | kv :: l, acc, nd => by
    rw [List.foldl_cons, putN_new]
    · rw [fold_putN (l := l), List.append_assoc]; rfl
      rw [List.append_assoc]; exact nd
    · refine getN_none fun h => ?_
      rw [List.map_append, List.nodup_append] at nd
      exact nd.2.2 _ h kv.1 (List.mem_cons_self ..) rfl
theorem np_fold {G : Hp} : ∀ {l acc : List (Pl × Int)} {ps xs : List (NestedKey × Addr × Value)}, NPair G acc xs → NPair G l ps → NPair G (l.foldl (fun acc kv => putN acc kv.1 kv.2) acc) (storedAllH xs ps)
  | _, _, _, _, h, .nil => h
  | _, _, _, _, h, .cons (a := kv) (b := x) r t => by
    obtain ⟨k', b, v⟩ := x
    obtain ⟨r1, hk, t', r2⟩ := r
    simp only at r1 r2
    subst r1 r2
    have h2 := h.put (k := kv.1) (n := kv.2) (t := t') hk
    have h3 := np_fold h2 t
    exact h3
theorem np_zip {G : Hp} : ∀ {xs : List V} {ks : List Pl} {its its2 : List Value} {ns : List Int}, All2 rPl G xs ks → Vals xs its → Vals (ns.map V.int) its2 → ks.length = ns.length →
    ∃ ps : List (NestedKey × Addr × Value), NPair G (ks.zip ns) ps ∧ ps.length = ns.length ∧ ∀ (i : Nat) (key v : Value), its[i]? = some key → its2[i]? = some v → ∃ (k : NestedKey) (b : Addr), ps[i]? = some (k, b, v) ∧ key = Value.ref b
  | _, _, _, _, [], .nil, .nil, .nil, _ => ⟨[], .nil, rfl, fun i key v h => nomatch (show (none : Option Value) = some key from by rw [← h]; rfl)⟩
  | _, _, _, _, n :: ns, .nil, _, _, h => by cases h
  | _, k :: ks, _, _, n :: ns, .cons r t, .cons (b := u) rv rr, .cons (b := u2) rv2 rr2, h => by
    obtain ⟨ps, h1, h2, h3⟩ := np_zip t rr rr2 (Nat.succ.inj h)
    obtain ⟨a, x, y, rfl, r'⟩ := id r
    obtain rfl : u = .ref a := rv
    obtain ⟨tk, rfl⟩ : ∃ tk, u2 = .int n tk := rv2
    refine ⟨(nk k, a, .int n tk) :: ps, .cons ⟨rfl, r, tk, rfl⟩ h1, by rw [List.length_cons, h2]; rfl, fun i key v e1 e2 => ?_⟩
    cases i with
    | zero => cases e1; cases e2; exact ⟨_, _, rfl, rfl⟩
    | succ i => exact h3 i key v (by simpa using e1) (by simpa using e2)
  | _, _, _, _, [], .cons _ _, _, _, h => by cases h
theorem NPair.get2 {G : Hp} : ∀ {l : List (Pl × Int)} {ps : List (NestedKey × Addr × Value)} {i : Nat}, NPair G l ps → ∀ hi : i < ps.length, ∃ kv, l[i]? = some kv ∧ ps[i].1 = nk kv.1 ∧ rPl kv.1 (.ref ps[i].2.1) G
  | _, _, _, .nil, hi => absurd hi (Nat.not_lt_zero _)
  | _, _, 0, .cons r _, _ => ⟨_, rfl, r.1, r.2.1⟩
  | _, _, i + 1, .cons _ t, hi => by
    obtain ⟨kv, h1, h2⟩ := NPair.get2 t (Nat.lt_of_succ_lt_succ hi)
    exact ⟨kv, by simpa using h1, h2⟩
variable {X : Cx} {e1 e2 : Expr} {ta : TA} {p p2 pos pos2 : Pos}
/-- dict(zip(list of places, tuple of ints)) -/
def tDictZipN (P : Program) (w : World) (K : PySem.W.Frag) (ta : TA) : TE := fun σ H Q => ta σ H fun vs H1 => ∃ G a b xs ks ns, vs = [.ref a, .ref b] ∧ Same G H1 ∧ SqL K H1 a xs ∧ All2 rPl G xs ks ∧ SqT K H1 b (ns.map V.int) ∧ ks.Nodup ∧ ks.length = ns.length ∧
  ∀ q ob, H1 q = none → NRep P w G q ob (ks.zip ns) → Q (.ref q) (upd H1 q (.ext (NObj q ob)))
theorem pe_dictZipN (hu : X.A.units + 64 < cLine) (hc : X.calm = true) (hg : Gl X "dict") (hm : X.mg "dict" = none) (hg2 : Gl X "zip") (hm2 : X.mg "zip" = none) (ha : PA X [e1, e2] ta)
    (hs1 : starEach [.Call (.Name "zip" p2) [e1, e2] [] pos2] X.env = [(false, eval (.Call (.Name "zip" p2) [e1, e2] [] pos2) X.env)] := by rfl)
    (hs : starEach [e1, e2] X.env = (false, eval e1 X.env) :: starEach [e2] X.env := by rfl) (hpl : (backTo pos2 (starEach [e2] X.env)).any (·.1) = false := by rfl) :
    PE X (.Call (.Name "dict" p) [.Call (.Name "zip" p2) [e1, e2] [] pos2] [] pos) (tDictZipN X.prog X.w X.K ta) := by
  refine ⟨fun pins s σ H Q I h => ?_⟩
  refine wpAny_Call_Name_kw (ld_blt I hg hm PyProof.Rows.boot_dict (PyProof.Rows.callWith_type1 ?_ hs1 rfl))
  rw [hs1]
  refine Calls.spliced_cons ?_
  refine wpAny_Call_Name_kw (ld_blt I hg2 hm2 PyProof.Rows.boot_zip (PyProof.Rows.callWith_type1 (thn (ha.run pos2 pins s σ H _ I h) fun us s1 ⟨vs, H1, I1, r1, q1⟩ => ?_) hs hpl))
  obtain ⟨G, a, b, xs, ks, ns, ex, sG, hqa, al, hq, nd, hl, q⟩ := q1
  subst ex
  obtain ⟨u1, u2, rfl, r0, r2⟩ := vals2 r1
  obtain rfl : u1 = Value.ref a := r0
  obtain rfl : u2 = Value.ref b := r2
  obtain ⟨its, rv, p1, hz⟩ := I1.list hqa
  obtain ⟨its2, rv2, p2, hz2⟩ := I1.tuple hq
  have la : a < s1.heap.objs.size := p1.lt
  have lb : b < s1.heap.objs.size := p2.lt
  refine zip_begins2 (begins_list a its.toArray) (begins_tuple b its2.toArray) p1.isList p2 fun h' hzz hTI hTO g1 g2 hsz hk => ?_
  refine Calls.spliced_nil ?_
  have n1 : s1.heap.objs.size + 1 ≠ b := Ne.symm (Nat.ne_of_lt (Nat.lt_succ_of_lt lb))
  have n0 : s1.heap.objs.size ≠ a := Ne.symm (Nat.ne_of_lt la)
  have fp0 : ∀ b' ∈ [a], b' < s1.heap.objs.size := fun b' h => by rw [List.mem_singleton.mp h]; exact la
  have fp1 : ∀ b' ∈ [b], b' < s1.heap.objs.size := fun b' h => by rw [List.mem_singleton.mp h]; exact lb
  have hlx := rv.length
  have hl2 := rv2.length
  have hlal := al.length
  rw [List.length_map] at hl2
  obtain ⟨ps, np, npl, npk⟩ := np_zip al rv rv2 hl
  have hzl : ns.length ≤ sizeLine := by rw [List.length_map] at hz2; exact hz2
  refine PySem.call_dict_pairsH (s := { s1 with heap := h' }) (knd := nestedKind X.prog X.w) (ps := ps)
    (PairArg.zipD (zip_sep2 fp0 fp1) X.A (I1.ok.hd hc) (fun A hA => Draws.list hA _ a (Ne.symm n0) its.toArray) (fun A hA => Draws.tuple hA _ b (Ne.symm n1) its2.toArray)) (I1.ok.hd hc) (show X.A.units + 2 + 8 < cLine by omega)
    ⟨hzz, hTI, ⟨_, _, hTO⟩, ⟨⟨_, g1, rfl, rfl⟩, p1.isList.at fun o e => hk _ _ e⟩, ⟨⟨_, g2, rfl, rfl⟩, (show s1.heap.IsTuple b its2.toArray from p2).at fun o e => hk _ _ e⟩, fun b' hb => ?_⟩ ⟨?_, fun i key v ⟨hk', hv⟩ => npk i key v (by simpa using hk') (by simpa using hv)⟩ (fun h2 kk x hx => ?_) (by simp only [List.size_toArray]; omega) fun h2 tk hd' kk => ?_
  · have hb : b' = s1.heap.objs.size ∨ b' = a ∨ b' = s1.heap.objs.size + 1 ∨ b' = b := by simpa using hb
    rcases hb with rfl | rfl | rfl | rfl
    · exact ⟨_, g1⟩
    · obtain ⟨o, ho, _⟩ := p1.isList
      exact ⟨o, hk _ _ ho⟩
    · exact ⟨_, g2⟩
    · obtain ⟨o, ho, _⟩ := id p2
      exact ⟨o, hk _ _ ho⟩
  · rw [npl]
    simp only [List.size_toArray]
    omega
  · have I2 : Inv X pins σ H1 { s1 with heap := h2 } := I1.kept (t' := s1.toks) fun b' o e => kk b' o (Nat.ne_of_lt (show b' < h'.objs.size by rw [hsz]; exact Nat.lt_add_right _ (Heap.lt_size e))) (fun hb => by
      have hb : b' = s1.heap.objs.size + 4 ∨ b' = s1.heap.objs.size + 3 ∨ b' = s1.heap.objs.size ∨ b' = s1.heap.objs.size + 1 := by simpa using hb
      have hlt : b' < s1.heap.objs.size := Heap.lt_size e
      exact new4 hlt hb) (hk _ _ e)
    obtain ⟨i, hi, rfl⟩ := List.getElem_of_mem hx
    obtain ⟨kv, hkv, hr⟩ := np.get2 hi
    rw [hr.1]
    exact pl_key I2.hok (mn sG hr.2)
  · have hnew : ∀ b' o, s1.heap.get? b' = some o → h2.get? b' = some o := fun b' o e => kk b' o (fun hb => by
      have hb : b' = s1.heap.objs.size + 4 ∨ b' = s1.heap.objs.size + 3 ∨ b' = s1.heap.objs.size ∨ b' = s1.heap.objs.size + 1 := by simpa using hb
      have hlt : b' < s1.heap.objs.size := Heap.lt_size e
      exact new4 hlt hb) (hk _ _ e)
    have hm : (h'.objs.size == sysModules) = false := beq_eq_false_iff_ne.mpr (Nat.ne_of_gt (by rw [hsz]; exact Nat.lt_add_right _ I1.big))
    have hfr : H1 h'.objs.size = none := I1.hok.fresh (by rw [hsz]; exact Nat.le_add_right _ _)
    have ndk : ((ks.zip ns).map (·.1)).Nodup := by rw [List.map_fst_zip (by omega)]; exact nd
    have np2 := np_fold (acc := []) (xs := []) .nil np
    rw [fold_putN (by simpa using ndk), List.nil_append] at np2
    obtain ⟨o, es, ep, h1, h2', h3, h4, _, _⟩ := hd'
    exact ⟨.ref h'.objs.size, _, I1.laid (t' := tk) hnew (by rw [hsz]; exact Nat.le_add_right _ _) (nobj_ok h1), rfl, q _ o hfr ⟨hm, by rw [List.length_zip]; omega, ndk, h2', es, ep, _, h3, h4, np2⟩⟩
end
section
variable {P : Program} {w : World} {K : PySem.W.Frag} {σ : St} {G H : Hp} {ta tb : TE}
theorem ev_dictZipS {x : Str} {ss : List Str} (ha : EvP ta σ G (rS x)) (hb : EvP tb σ G (rT rS ss)) (nd : (signs x).Nodup) (hl : (signs x).length = ss.length) :
    EvP (tDictZipS K (tCons ta (tCons tb tNil))) σ G (fun v G => ∃ a, v = .ref a ∧ G a = some (.dK ((signs x).zip ss |>.map fun p => (Sum.inr p.1, V.str p.2)))) := fun H s Q q =>
  ea_2 ha hb H s _ fun vs G1 H1 e1 pp => by
    obtain ⟨v, _, rfl, p1, w, _, rfl, p2, rfl⟩ := pp
    cases (show v = .str x from p1)
    obtain ⟨b, ys, rfl, hb, al⟩ := p2
    cases all2_strs.mp al
    refine ⟨x, b, _, rfl, SqT.of (e1.s _ _ hb), nd, by rw [List.length_map]; exact hl, fun p hp => ?_⟩
    refine q _ _ _ (e1.trans (Ext.new e1.s hp)) ⟨p, rfl, ?_⟩
    rw [upd_same]
    congr 2
    rw [List.zip_map]
    rfl
theorem ev_dictZipN {ks : List Pl} {ns : List Int} (ha : EvP ta σ G (rL rPl ks)) (hb : EvP tb σ G (rT rI ns)) (nd : ks.Nodup) (hl : ks.length = ns.length) :
    EvP (tDictZipN P w K (tCons ta (tCons tb tNil))) σ G (rPD P w (ks.zip ns)) := fun H s Q q =>
  ea_2 ha hb H s _ fun vs G1 H1 e1 pp => by
    obtain ⟨v, _, rfl, p1, w, _, rfl, p2, rfl⟩ := pp
    obtain ⟨a, xs, rfl, ha, al1⟩ := p1
    obtain ⟨b, ys, rfl, hb, al⟩ := p2
    cases all2_ints.mp al
    refine ⟨G1, a, b, xs, ks, ns, rfl, e1.s, SqL.of (e1.s _ _ ha), al1, SqT.of (e1.s _ _ hb), nd, hl, fun p ob hp r => ?_⟩
    exact q _ _ _ (e1.trans (Ext.new e1.s hp)) ⟨p, ob, rfl, upd_same, r.mono (Same.new (e1.s.free hp))⟩
end
end Eld
set_option maxRecDepth 100000
set_option maxHeartbeats 2000000
/-! x not in a list of pairs (dict from places, int). -/
namespace PySem.SeqAt
open AutoSeq1 (wpAny_loadPart')
open MeetsSeq MeetsSeq2 MeetsSeq3 SeqRoads2
section
variable {prog : Program} {w : World}
theorem contains_loopIn (l : Addr) (items : Array Value) (n : Nat) (dd : Option Addr) (sl : Array (Option Value)) (x : Value) (e : Value → Bool) (k : Nat) :
    ∀ i : Nat, items.size - i = k → MeetsIn prog w (Builtin.«list.__contains__.loop» ⟨[.ref l, x, rawInt i], []⟩)
      (fun A R s => s.heap.get? l = some { cls := .type "list", dict := dd, data := .seq items n, slots := sl } ∧ (∀ y, y ∈ items → EqIn prog w A.in1 s y x (e y)) ∧ R (.ok (.ret (.bool ((items.toList.drop i).any e)))) s) := by
  induction k with
  | zero =>
    intro i hk A R s h
    obtain ⟨hp, g, d, tk, os⟩ := s; obtain ⟨hl, he, h⟩ := h
    wp_walk using wpAny_loadPart' hl
    have hi : items[((i : Nat) : Int).toNat]? = none := by simp; omega
    have hd : items.toList.drop i = [] := by simp; omega
    rw [hd] at h
    rw [hi]
    wp_walk
    exact h
  | succ k ih =>
    intro i hk A R s h
    obtain ⟨hp, g, d, tk, os⟩ := s; obtain ⟨hl, he, h⟩ := h
    wp_walk using wpAny_loadPart' hl
    have hlt : i < items.size := by omega
    have hi : items[((i : Nat) : Int).toNat]? = some items[i] := by simp [hlt]
    have hd : items.toList.drop i = items[i] :: items.toList.drop (i + 1) := by simp [List.drop_eq_getElem_cons, hlt]
    rw [hd, List.any_cons] at h
    rw [hi]
    refine wpAny_bind (he _ (Array.getElem_mem hlt) _ _ ?_)
    cases hb : e items[i] with
    | true =>
      rw [hb] at h
      wp_walk
      exact h
    | false =>
      rw [hb] at h
      have hc : ((i : Int) + 1) = ((i + 1 : Nat) : Int) := by push_cast; rfl
      wp_walk
      rw [hc]
      exact ⟨plainId_quiet plain_contains_loop _, codeAny_builtin entry_contains_loop (by
        rw [Around.under_plainId plain_contains_loop _]
        exact ih (i + 1) (by omega) A R _ ⟨hl, he, by simpa using h⟩)⟩
theorem list_containsIn (l : Addr) (items : Array Value) (n : Nat) (dd : Option Addr) (sl : Array (Option Value)) (x : Value) (e : Value → Bool) :
    MeetsIn prog w (Builtin.«list.__contains__» ⟨[.ref l, x], []⟩)
      (fun A R s => s.heap.get? l = some { cls := .type "list", dict := dd, data := .seq items n, slots := sl } ∧ (∀ y, y ∈ items → EqIn prog w A.in1 s y x (e y)) ∧ R (.ok (.ret (.bool (items.any e)))) s) := by
  intro A R s h
  obtain ⟨hp, g, d, tk, os⟩ := s; obtain ⟨hl, he, h⟩ := h
  wp_walk using wpAny_loadPart' hl
  exact ⟨plainId_quiet plain_contains_loop _, codeAny_builtin entry_contains_loop (by
    rw [Around.under_plainId plain_contains_loop _]
    exact contains_loopIn l items n dd sl x e _ 0 rfl A R _ ⟨hl, he, by simpa using h⟩)⟩
theorem notIn_listIn {A : Around} {E : Value → Shared → Prop} {s : Shared} {l : Addr} {items : Array Value} {x : Value} {Q : Value → Shared → Prop} (e : Value → Bool) (hl : s.heap.IsList l items) (he : ∀ y, y ∈ items → EqIn prog w A.in1 s y x (e y))
    (h : Q (.bool (!items.any e)) s) : wpAny (model prog w) A (compareOp .NotIn x (.ref l)) Q E s := by
  obtain ⟨⟨cls, dd, data, sl⟩, ho, hc, n, hd⟩ := id hl
  simp only at hc hd
  subst hc hd
  have hT : s.TypeIs (.ref l) "list" := ⟨_, ho, rfl⟩
  show wpAny _ A (do return .bool (!(← contains (.ref l) x))) Q E s
  refine wpAny_bind (wpAny_contains_slot hT F.slot_list_contains (wpAny_mono (call_meetsIn (Q := fun v s' => ∃ b, v = .bool b ∧ Q (.bool (!b)) s') F.slot_list_contains hT F.entry_list_contains (F.args_list_contains_2 _ _) (list_containsIn l items n dd sl x e) ⟨ho, he, _, rfl, h⟩) (fun v s' hv => ?_) fun _ _ e => e))
  obtain ⟨b, rfl, hq⟩ := hv
  exact wpAny_truthy_bool (wpAny_pure hq)
end
end PySem.SeqAt
namespace PySem.W
open Lean Elab Tactic Meta PySem PySem.Calls PyProof.Rows PyProof.V PySem.Spec
open PySem.SeqAt (EqIn EqAt rcIn_lists rcIn_tuples)
section
variable {prog : Program} {w : World} {K : Type} [DecidableEq K] {knd : HeapKind prog w K} {A : Around} {E : Value → Shared → Prop} {s : Shared}
def hitH (ys : List (K × Addr × Value)) (e : Value → Value → Bool) (x : K × Addr × Value) : Bool := match atKey ys x.1 with
  | some q => e x.2.2 q.2
  | none => false
theorem samePairsH {nm : String} {a b : Addr} {xs ys : List (K × Addr × Value)} {e : Value → Value → Bool} {Q : Bool → Shared → Prop} (ha : (a == sysModules) = false) (hb : (b == sysModules) = false) (hu : knd.room A)
    (da : s.heap.DictOfH knd a xs) (db : s.heap.DictOfH knd b ys) (hv : ∀ x ∈ xs, ∀ q ∈ ys, EqIn prog w A s x.2.2 q.2.2 (e x.2.2 q.2.2)) (h : Q (xs.length == ys.length && xs.all (hitH ys e)) s) :
    wpAny (model prog w) A (Builtin.Dict.samePairs nm a b) Q E s := by
  obtain ⟨oa, es, ep, hoa, _, hda, hka, hpa, _⟩ := da
  obtain ⟨ob, es', ep', hob, _, hdb, hkb, hpb, hnb⟩ := db
  have hla : xs.length = es.size := (size_of_entries hka).symm
  have hlb : ys.length = es'.size := (size_of_entries hkb).symm
  rw [hla, hlb] at h
  unfold Builtin.Dict.samePairs Builtin.Dict.showsAll
  rw [if_neg (show ¬ (a == sysModules) = true by rw [ha]; exact Bool.false_ne_true), if_neg (show ¬ (b == sysModules) = true by rw [hb]; exact Bool.false_ne_true)]
  refine wpAny_bind (wpAny_pure (wpAny_bind (wpAny_pure ?_)))
  refine wpAny_bind (wpAny_dictEntries hoa hda ?_)
  dsimp only
  refine wpAny_bind (wpAny_dictEntries hob hdb ?_)
  by_cases hsz : es.size = es'.size
  case neg =>
    rw [if_pos (by simpa using hsz)]
    have hbf : (es.size == es'.size) = false := by simpa using hsz
    rw [hbf, Bool.false_and] at h
    exact wpAny_bind (wpAny_rule (wpAny_pure h))
  case pos =>
    have h' : Q (xs.all (hitH ys e)) s := by simpa [hsz] using h
    rw [if_neg (by rw [hsz]; simp)]
    refine wpAny_bind (wpAny_dictEpoch hoa hda ?_)
    refine wpAny_bind ?_
    rw [Std.Legacy.Range.forIn_eq_forIn_range']
    simp only [Std.Legacy.Range.size, Nat.sub_zero, Nat.add_sub_cancel, Nat.div_one]
    refine wpAny_forIn_list _
      (fun rest q s' => s' = s ∧ q = (none, ()) ∧ ∃ i, rest = List.range' i (es.size - i) ∧ i ≤ es.size ∧ (xs.drop i).all (hitH ys e) = xs.all (hitH ys e))
      _ ?_ ?_ _ _ ⟨rfl, rfl, 0, by simp, Nat.zero_le _, rfl⟩
    · rintro x rest q s' ⟨rfl, rfl, i, hr, hi, hpre⟩
      have hlt : i < es.size := by
        rcases Nat.lt_or_ge i es.size with h | h
        · exact h
        · rw [Nat.sub_eq_zero_of_le h] at hr; simp at hr
      obtain ⟨rfl, hrest⟩ : x = i ∧ rest = List.range' (i + 1) (es.size - (i + 1)) := by
        have e : es.size - i = (es.size - (i + 1)) + 1 := by omega
        rw [e, List.range'_succ] at hr
        injection hr with h1 h2
        exact ⟨h1, h2⟩
      refine wpAny_bind (wpAny_dictEntries hoa hda ?_)
      rw [Array.getElem?_eq_getElem hlt]
      have hlt' : x < xs.length := by rw [hla]; exact hlt
      have hdrop : xs.drop x = xs[x] :: xs.drop (x + 1) := List.drop_eq_getElem_cons hlt'
      have hex : es[x] = entryOfKey knd xs[x] := by
        have := entry_at hka x
        rw [Array.getElem?_eq_getElem hlt, List.getElem?_eq_getElem hlt'] at this
        exact Option.some.inj this
      have hmem : xs[x] ∈ xs := List.getElem_mem hlt'
      rw [hdrop, List.all_cons] at hpre
      rw [hex]
      generalize xs[x] = kv at hmem hpre
      obtain ⟨k, ka, v⟩ := kv
      show wpAny _ _ (holding [.ref ka, v] (dictFind b (.ref ka) (knd.hash k) >>= _) >>= _) _ _ _
      refine wpAny_bind (wpAny_holding (wpAny_bind (wpAny_dictFind_heap hu (hpa _ hmem) hob hdb hkb hpb hnb (fun hno => ?_) fun j p hj => ?_)))
      · have hn : atKey ys k = none := atKey_none_of_get hno
        have : hitH ys e (k, ka, v) = false := by unfold hitH; rw [hn]
        rw [this, Bool.false_and] at hpre
        rw [← hpre] at h'
        refine wpAny_pure ?_
        show wpAny _ _ (if (!false) = true then _ else _) _ _ _
        rw [if_pos (by decide)]
        exact wpAny_pure (wpAny_pure h')
      · have hy : atKey ys k = some p := atKey_of_get hnb hj
        have hym : (k, p) ∈ ys := List.mem_of_getElem? hj
        have hjlt : j < ys.length := (List.getElem?_eq_some_iff.mp hj).1
        have hej : es'[j]? = some (entryOfKey knd (k, p)) := by rw [entry_at hkb j, hj]; rfl
        refine wpAny_bind (wpAny_dictEntries hob hdb ?_)
        rw [hej]
        have he := hv _ hmem _ hym
        have hh : hitH ys e (k, ka, v) = e v p.2 := by unfold hitH; rw [hy]
        rw [hh] at hpre
        refine wpAny_holding (he _ _ ?_)
        cases hb : e v p.2 with
        | false =>
          rw [hb, Bool.false_and] at hpre
          rw [← hpre] at h'
          rw [if_pos (by decide)]
          exact wpAny_pure (wpAny_pure h')
        | true =>
          rw [hb, Bool.true_and] at hpre
          rw [if_neg (by decide)]
          refine wpAny_bind (wpAny_dictEpoch hoa hda ?_)
          rw [if_neg (by simp)]
          exact wpAny_pure ⟨rfl, rfl, x + 1, hrest, hlt, hpre⟩
    · rintro q s' ⟨rfl, rfl, i, hr, hi, hpre⟩
      have hin : i = es.size := by
        rcases Nat.lt_or_ge i es.size with h | h
        · have e : es.size - i = (es.size - (i + 1)) + 1 := by omega
          rw [e, List.range'_succ] at hr; exact nomatch hr
        · exact Nat.le_antisymm hi h
      refine wpAny_pure ?_
      rw [hin, ← hla, List.drop_length] at hpre
      rw [← hpre] at h'
      exact h'
theorem rcIn_dictsH {a b : Addr} {xs ys : List (K × Addr × Value)} {e : Value → Value → Bool} {Q : Value → Shared → Prop} (ha : (a == sysModules) = false) (hb : (b == sysModules) = false) (hr : knd.room A.in1) (hu : A.units < cLine)
    (da : s.heap.DictOfH knd a xs) (db : s.heap.DictOfH knd b ys) (hv : ∀ x ∈ xs, ∀ q ∈ ys, EqIn prog w A.in1 s x.2.2 q.2.2 (e x.2.2 q.2.2)) (h : Q (.bool (xs.length == ys.length && xs.all (hitH ys e))) s) :
    wpAny (model prog w) A (richCompare .Eq (.ref a) (.ref b)) Q E s := by
  refine wpAny_richCompare_same_room (op := .Eq) da.typeIs db.typeIs PySem.F.slot_dict_eq (wpAny_call_entry PySem.F.slot_dict_eq da.typeIs PySem.F.entry_dict_eq ?_ (PySem.F.args_dict_eq_2 _ _)) hu
  show wpAny _ _ (Builtin.Dict.dictSlotArgs "__eq__" ⟨[.ref a, .ref b], []⟩ >>= _) _ _ s
  refine wpAny_bind ?_
  unfold Builtin.Dict.dictSlotArgs
  refine wpAny_bind (wpAny_notOrdered_dict da.typeIs ?_)
  show wpAny _ _ (pure (Value.ref a, Value.ref b)) _ _ s
  refine wpAny_pure ?_
  refine wpAny_bind (wpAny_isInstance (T := "dict") db.typeIs PySem.F.sub_dict_dict ?_)
  simp only [Bool.not_true, Bool.false_eq_true, if_false]
  refine wpAny_bind (wpAny_pure (wpAny_bind (wpAny_pure ?_)))
  refine wpAny_bind (samePairsH ha hb hr da db hv ?_)
  refine wpAny_pure ⟨_, rfl, ?_, ?_⟩
  · exact fun x => nomatch x
  · simpa using h
end
end PySem.W
namespace Eld
open PySem PySem.Spec PyProof.Rows L2
open PySem.SeqAt (EqIn EqAt rcIn_lists rcIn_tuples)
/-- an equation: a dict from places to factors, a right -/
abbrev PEq := List (Pl × Int) × Int
abbrev rPE (P : Program) (w : World) : PEq → V → Hp → Prop := r2 (rPD P w) rI
def eqN (l m : List (Pl × Int)) : Bool := l.length == m.length && l.all fun kv => getN m kv.1 == some kv.2
def eqPE (p q : PEq) : Bool := eqN p.1 q.1 && p.2 == q.2
def eqI (v u : Value) : Bool := match v, u with
  | .int n _, .int m _ => n == m
  | _, _ => false
theorem rPl_inj {G : Hp} {k k' : Pl} {v : V} (h : rPl k v G) (h' : rPl k' v G) : k = k' := by
  obtain ⟨a, x, y, rfl, g, p, q⟩ := h
  obtain ⟨a', x', y', e, g', p', q'⟩ := h'
  cases e
  rw [g] at g'
  cases g'
  obtain ⟨b, xs, rfl, gb, al⟩ := q
  obtain ⟨b', xs', e, gb', al'⟩ := q'
  cases e
  rw [gb] at gb'
  cases gb'
  rw [all2_strs] at al al'
  have h1 : k.1 = k'.1 := V.str.inj ((show x = .str k.1 from p).symm.trans (show x = .str k'.1 from p'))
  have h2 : k.2 = k'.2 := by
    have e := al.symm.trans al'
    clear al al' gb
    generalize k.2 = a at e
    generalize k'.2 = b at e
    induction a generalizing b with
    | nil => cases b with
      | nil => rfl
      | cons y b => cases e
    | cons x a ih => cases b with
      | nil => cases e
      | cons y b =>
        injection e with e1 e2
        rw [V.str.inj e1, ih _ e2]
  exact Prod.ext h1 h2
theorem NPair.int {G : Hp} : ∀ {l : List (Pl × Int)} {ps : List (NestedKey × Addr × Value)} {i : Nat}, NPair G l ps → ∀ hi : i < ps.length, ∃ n t, ps[i].2.2 = Value.int n t
  | _, _, _, .nil, hi => absurd hi (Nat.not_lt_zero _)
  | _, _, 0, .cons r _, _ => ⟨_, r.2.2⟩
  | _, _, i + 1, .cons _ t, hi => by
    obtain ⟨n, u, h⟩ := NPair.int t (Nat.lt_of_succ_lt_succ hi)
    exact ⟨n, u, by simpa using h⟩
theorem NPair.inj {P : Program} {w : World} {G : Hp} : ∀ {l m : List (Pl × Int)} {xs ys : List (NestedKey × Addr × Value)}, NPair G l xs → NPair G m ys → xs.map (entryOfKey (nestedKind P w)) = ys.map (entryOfKey (nestedKind P w)) → l = m
  | _, _, _, _, .nil, .nil, _ => rfl
  | _, _, _, _, .nil, .cons _ _, e => nomatch e
  | _, _, _, _, .cons _ _, .nil, e => nomatch e
  | _, _, _, _, .cons (a := kv) (b := x) r t, .cons (a := kv') (b := x') r' t', e => by
    rw [List.map_cons, List.map_cons] at e
    injection e with e1 e2
    obtain ⟨k, b, v⟩ := x
    obtain ⟨k', b', v'⟩ := x'
    obtain ⟨r1, r2, n, r3⟩ := r
    obtain ⟨r1', r2', n', r3'⟩ := r'
    simp only at r1 r3 r1' r3'
    subst r3 r3'
    unfold entryOfKey at e1
    injection e1 with z1 z2 z3
    injection z2 with z2
    injection z3 with z3
    simp only at z2
    subst z2
    have := rPl_inj r2 r2'
    rw [NPair.inj (P := P) (w := w) t t' e2]
    congr 1
    exact Prod.ext this z3
theorem NRep.inj {P : Program} {w : World} {G : Hp} {a b : Addr} {ob : Obj} {l m : List (Pl × Int)} (h : NRep P w G a ob l) (h' : NRep P w G b ob m) : l = m := by
  obtain ⟨_, _, _, _, es, ep, xs, e1, e2, np⟩ := h
  obtain ⟨_, _, _, _, es', ep', xs', e1', e2', np'⟩ := h'
  rw [e1] at e1'
  injection e1' with z1 z2
  subst z1
  exact NPair.inj np np' (e2.symm.trans e2')
theorem eqN_refl {l : List (Pl × Int)} (nd : (l.map (·.1)).Nodup) : eqN l l = true := by
  unfold eqN
  rw [Bool.and_eq_true]
  refine ⟨by simp, ?_⟩
  rw [List.all_eq_true]
  intro kv hkv
  rw [getN_of nd (n := kv.2) hkv]
  simp
theorem hits_eq {G : Hp} {m : List (Pl × Int)} {ys : List (NestedKey × Addr × Value)} (hm : NPair G m ys) : ∀ {l : List (Pl × Int)} {xs : List (NestedKey × Addr × Value)}, NPair G l xs → xs.all (PySem.W.hitH ys eqI) = l.all fun kv => getN m kv.1 == some kv.2
  | _, _, .nil => rfl
  | _, _, .cons (a := kv) (b := x) r t => by
    rw [List.all_cons, List.all_cons, hits_eq hm t]
    congr 1
    obtain ⟨k, b, v⟩ := x
    obtain ⟨r1, r2, n, r3⟩ := r
    simp only at r1 r3
    subst r1 r3
    unfold PySem.W.hitH
    rcases hm.get kv.1 with ⟨n', a', t', g1, g2⟩ | ⟨g1, g2⟩
    · simp only [g1, g2]
      show (kv.2 == n') = (some n' == some kv.2)
      by_cases e : kv.2 = n'
      · rw [e]; simp
      · have e2 : ¬ n' = kv.2 := fun z => e z.symm
        show (kv.2 == n') = (n' == kv.2)
        rw [beq_eq_false_iff_ne.mpr e, beq_eq_false_iff_ne.mpr e2]
    · simp only [g1, g2]
      rfl
section
variable {X : Cx} {pins : List (Addr × Obj)} {σ : St} {H : Hp} {s : Shared} {A : Around}
theorem eqIn_rfl {prog : Program} {w : World} {l : Addr} : EqIn prog w A s (.ref l) (.ref l) true := fun E Q hq => by
  unfold eqBool
  refine wpAny_holding ?_
  rw [if_pos (by simp)]
  exact wpAny_bind (wpAny_rule (wpAny_pure hq))
theorem eqIn_nd (I : Inv X pins σ H s) {v v' : V} {u u' : Value} {l m : List (Pl × Int)} (h : rPD X.prog X.w l v H) (h' : rPD X.prog X.w m v' H) (r : RelV v u) (r' : RelV v' u') (hu : A.units + 32 < cLine) : EqIn X.prog X.w A s u u' (eqN l m) := by
  obtain ⟨a, ob, rfl, ha, hr⟩ := h
  obtain ⟨a', ob', rfl, ha', hr'⟩ := h'
  obtain rfl : u = .ref a := r
  obtain rfl : u' = .ref a' := r'
  by_cases e : a = a'
  · subst e
    rw [ha] at ha'
    have : ob = ob' := by
      have z := inv_nd I ha
      have ha2 : H a = some (.ext (NObj a ob')) := ha ▸ ha'
      have z' := inv_nd I ha2
      rw [z] at z'
      exact Option.some.inj z'
    subst this
    have := hr.inj hr'
    subst this
    rw [eqN_refl hr.2.2.1]
    exact eqIn_rfl
  · obtain ⟨xs, np, da⟩ := hr.of I.hok (inv_nd I ha)
    obtain ⟨ys, np', db⟩ := hr'.of I.hok (inv_nd I ha')
    refine PySem.SeqAt.EqIn.of_refs e fun E Q q => PySem.W.rcIn_dictsH (knd := nestedKind X.prog X.w) (e := eqI) hr.1 hr'.1 (show A.units + 1 + 8 < cLine by omega) (by omega) da db (fun x hx y hy => ?_) ?_
    · obtain ⟨i, hi, rfl⟩ := List.getElem_of_mem hx
      obtain ⟨j, hj, rfl⟩ := List.getElem_of_mem hy
      obtain ⟨n, t, e1⟩ := np.int hi
      obtain ⟨n', t', e2⟩ := np'.int hj
      rw [e1, e2]
      exact (SeqAt.EqAt.int_int n t n' t').inModel _ _
    · rw [hits_eq np' np, ← np.length, ← np'.length]
      exact q
theorem eqIn_pe (I : Inv X pins σ H s) {v v' : V} {u u' : Value} {p q : PEq} (h : rPE X.prog X.w p v H) (h' : rPE X.prog X.w q v' H) (r : RelV v u) (r' : RelV v' u') (hu : A.units + 64 < cLine) : EqIn X.prog X.w A s u u' (eqPE p q) := by
  obtain ⟨a, x, y, rfl, ha, px, py⟩ := h
  obtain ⟨a', x', y', rfl, ha', px', py'⟩ := h'
  obtain rfl : u = .ref a := r
  obtain rfl : u' = .ref a' := r'
  by_cases e : a = a'
  · subst e
    rw [ha] at ha'
    cases ha'
    have e2 : p.2 = q.2 := V.int.inj ((show y = .int p.2 from py).symm.trans (show y = .int q.2 from py'))
    have e1 : p.1 = q.1 := by
      obtain ⟨b, ob, rfl, hb, hr⟩ := px
      obtain ⟨b', ob', e, hb', hr'⟩ := px'
      cases e
      have z := inv_nd I hb
      rw [inv_nd I hb'] at z
      cases z
      exact hr.inj hr'
    have : eqPE p q = true := by
      unfold eqPE
      rw [e1, e2]
      obtain ⟨b, ob, _, _, hr⟩ := px'
      rw [eqN_refl hr.2.2.1]
      simp
    rw [this]
    exact eqIn_rfl
  · obtain ⟨_, its, rv, pt⟩ := (show ObjOk X.prog X.w H s.heap a (.tup [x, y]) from I.hok a _ ha)
    obtain ⟨_, its', rv', pt'⟩ := (show ObjOk X.prog X.w H s.heap a' (.tup [x', y']) from I.hok a' _ ha')
    obtain ⟨u1, u2, rfl, r1, r2⟩ := vals2 rv
    obtain ⟨u1', u2', rfl, r1', r2'⟩ := vals2 rv'
    refine PySem.SeqAt.EqIn.of_refs e fun E Q qq => rcIn_tuples (items := #[u1, u2]) (items2 := #[u1', u2']) (e := fun j => if j = 0 then eqN p.1 q.1 else p.2 == q.2) pt pt' (by omega) (fun j h1 h2 => ?_) ?_
    · have hj : j = 0 ∨ j = 1 := by
        have h1 : j < 2 := h1
        omega
      rcases hj with rfl | rfl
      · exact eqIn_nd I px px' r1 r1' (show A.units + 1 + 32 < cLine by omega)
      · cases (show y = .int p.2 from py)
        cases (show y' = .int q.2 from py')
        obtain ⟨t, rfl⟩ : ∃ t, u2 = .int p.2 t := r2
        obtain ⟨t', rfl⟩ : ∃ t, u2' = .int q.2 t := r2'
        exact (SeqAt.EqAt.int_int p.2 t q.2 t').inModel _ _
    · unfold eqPE at qq
      have : ((List.range (min (#[u1, u2] : Array Value).size (#[u1', u2'] : Array Value).size)).all (fun j => if j = 0 then eqN p.1 q.1 else p.2 == q.2) && (#[u1, u2] : Array Value).size == (#[u1', u2'] : Array Value).size) = (eqN p.1 q.1 && p.2 == q.2) := by
        show ((List.range 2).all _ && true) = _
        rw [Bool.and_true]
        show ((if (0 : Nat) = 0 then eqN p.1 q.1 else p.2 == q.2) && ((if (1 : Nat) = 0 then eqN p.1 q.1 else p.2 == q.2) && true)) = _
        rw [if_pos rfl, if_neg (by decide), Bool.and_true]
      rw [this]
      exact qq
theorem paired_mem {α β : Type} {S : α → β → Prop} : ∀ {us : List α} {ps : List β} {u : α}, Paired S us ps → u ∈ us → ∃ p, S u p
  | _, _, _, .nil, h => nomatch h
  | _, _, u, .cons r t, h => by
    rcases List.mem_cons.mp h with rfl | h
    · exact ⟨_, r⟩
    · exact paired_mem t h
/-- x not in xs, pairs of a dict from places and an int -/
def rNotPE (P : Program) (w : World) (K : PySem.W.Frag) : R2 := fun x y H Q => ∃ l xs ps q, y = .ref l ∧ SqL K H l xs ∧ All2 (rPE P w) H xs ps ∧ rPE P w q x H ∧ Q (.bl (!ps.any fun p => eqPE p q)) H
theorem any_pe {H : Hp} {P : Program} {w : World} {q : PEq} (S : Value → PEq → Prop) (e : Value → Bool) (he : ∀ u p, S u p → e u = eqPE p q) : ∀ {us : List Value} {ps : List PEq}, Paired S us ps → us.any e = ps.any fun p => eqPE p q
  | _, _, .nil => rfl
  | _, _, .cons r t => by rw [List.any_cons, List.any_cons, he _ _ r, any_pe (H := H) (P := P) (w := w) S e he t]
theorem op_notPE (hu : X.A.units + 80 < cLine) : OpR X (compareOp .NotIn) (rNotPE X.prog X.w X.K) := by
  intro pins s σ H x y v u Q I rx ry h
  obtain ⟨l, xs, ps, q, rfl, hl, al, hq, kk⟩ := h
  cases ry
  obtain ⟨its, rv, pl, hz⟩ := I.list hl
  classical
  have key : ∀ {xs : List V} {its : List Value} {ps : List PEq}, Vals xs its → All2 (rPE X.prog X.w) H xs ps → Paired (fun u p => EqIn X.prog X.w X.A.in1 s u v (eqPE p q) ∧ ∃ x, RelV x u ∧ rPE X.prog X.w p x H) its ps := by
    intro xs its ps rv al
    induction al generalizing its with
    | nil => cases rv; exact .nil
    | cons r t ih =>
      cases rv with
      | cons r1 rr => exact .cons ⟨eqIn_pe I r hq r1 rx (show X.A.units + 1 + 64 < cLine by omega), _, r1, r⟩ (ih rr)
  have kp := key rv al
  have : ∃ e : Value → Bool, (∀ u ∈ its, EqIn X.prog X.w X.A.in1 s u v (e u)) ∧ its.any e = ps.any fun p => eqPE p q := by
    refine ⟨fun u => if h : ∃ p, EqIn X.prog X.w X.A.in1 s u v (eqPE p q) ∧ ∃ x, RelV x u ∧ rPE X.prog X.w p x H then eqPE h.choose q else false, fun u hu => ?_, ?_⟩
    · obtain ⟨p, hp⟩ := paired_mem kp hu
      have hex : ∃ p, EqIn X.prog X.w X.A.in1 s u v (eqPE p q) ∧ ∃ x, RelV x u ∧ rPE X.prog X.w p x H := ⟨p, hp⟩
      simp only [dif_pos hex]
      exact hex.choose_spec.1
    · refine any_pe (H := H) (P := X.prog) (w := X.w) _ _ (fun u p hp => ?_) kp
      have hex : ∃ p, EqIn X.prog X.w X.A.in1 s u v (eqPE p q) ∧ ∃ x, RelV x u ∧ rPE X.prog X.w p x H := ⟨p, hp⟩
      simp only [dif_pos hex]
      obtain ⟨_, x1, rx1, h1⟩ := hex.choose_spec
      obtain ⟨_, x2, rx2, h2⟩ := hp
      obtain ⟨a1, y1, z1, rfl, g1, d1, i1⟩ := h1
      obtain ⟨a2, y2, z2, rfl, g2, d2, i2⟩ := h2
      cases (show u = .ref a1 from rx1)
      cases (show Value.ref a1 = .ref a2 from rx2)
      rw [g1] at g2
      cases g2
      have e2 : hex.choose.2 = p.2 := V.int.inj ((show z1 = .int hex.choose.2 from i1).symm.trans (show z1 = .int p.2 from i2))
      obtain ⟨b, ob, rfl, hb, hr⟩ := d1
      obtain ⟨b', ob', e, hb', hr'⟩ := d2
      cases e
      have z := inv_nd I hb
      rw [inv_nd I hb'] at z
      cases z
      have e1 := hr.inj hr'
      rw [show hex.choose = p from Prod.ext e1 e2]
  obtain ⟨e, h1, h2⟩ := this
  refine PySem.SeqAt.notIn_listIn e pl.isList (fun u hu => h1 u (by simpa using hu)) ⟨.bl _, H, I, rfl, ?_⟩
  rw [show its.toArray.any e = its.any e by simp, h2]
  exact kk
end
section
variable {P : Program} {w : World} {K : PySem.W.Frag} {σ : St} {G H : Hp} {ta tb : TE}
theorem ex_notPE {l : Addr} {xs : List V} {ps : List PEq} {q : PEq} (hl : H l = some (.lst xs)) (al : All2 (rPE P w) G xs ps) (s : Same G H) (ha : EvP ta σ G (rPE P w q)) (hb : EvP tb σ G (rV (.ref l))) : EvX (tOp (rNotPE P w K) ta tb) σ G H (rB (!ps.any fun p => eqPE p q)) := fun Q k =>
  ha H s _ fun x G1 H1 e1 p1 => hb.mono e1.g H1 e1.s _ fun y G2 H2 e2 p2 => by
    cases (show y = .ref l from p2)
    exact ⟨l, xs, ps, q, rfl, SqL.of (e2.h _ _ (e1.h _ _ hl)), (al.mono (e1.g.trans e2.g)).mono e2.s, mn e2.s (mn e2.g p1), k _ _ _ (e1.trans e2) rfl⟩
end
end Eld
set_option maxRecDepth 100000
set_option maxHeartbeats 1000000
/-! Rules told with the names K, P, w, for use within comprehensions. -/
namespace Eld
open PySem PySem.Spec PyProof.Rows L2
section
variable {X : Cx} {K : PySem.W.Frag} {P : Program} {w : World}
theorem ix_listK (h : X.K = K) : IxR X (rIxL K) := h ▸ ix_list
theorem ix_tupK (h : X.K = K) : IxR X (rIxT K) := h ▸ ix_tup
theorem op_in_seqK (h : X.K = K) : OpR X (compareOp .In) (rIn K false) := h ▸ op_in_seq
theorem op_notIn_seqK (h : X.K = K) : OpR X (compareOp .NotIn) (rIn K true) := h ▸ op_notIn_seq
theorem pe_ndgetK {o i : Expr} {pos : Pos} {td ty : TE} (hP : X.prog = P) (hw : X.w = w) (hu : X.A.units + 64 < cLine) (ho : PE X o td) (hi : PE X i ty) (hs : NoSl i) : PE X (.Subscript o i pos) (tNGet P w td ty) := hP ▸ hw ▸ pe_ndget hu ho hi hs
theorem pc_ndinK {o i : Expr} {td ty : TE} (hP : X.prog = P) (hw : X.w = w) (hu : X.A.units + 64 < cLine) (hi : PE X i ty) (ho : PE X o td) : PC X .In i o (tNIn P w ty td) := hP ▸ hw ▸ pc_ndin hu hi ho
theorem pc_ndnotinK {o i : Expr} {td ty : TE} (hP : X.prog = P) (hw : X.w = w) (hu : X.A.units + 64 < cLine) (hi : PE X i ty) (ho : PE X o td) : PC X .NotIn i o (tNNotIn P w ty td) := hP ▸ hw ▸ pc_ndnotin hu hi ho
theorem pg_tupK {es : List Expr} {k : Nat} {pos : Pos} {t : TGs} {n : Nat} (hK : X.K = K) (hc : X.calm = true) (h : PGs X es t)
    (hn : (assignEach es X.env).length = n := by rfl) (hst : (assignEach es X.env).findIdx? (·.1) = none := by rfl) : PG X (.Tuple es k pos) (gTup K n t) := hK ▸ pg_tup hc h hn hst
theorem pe_fldK {e : Expr} {f : Str} {pos : Pos} {ta : TE} (h : X.K = K) (he : PE X e ta) (hb : attributeBase e f X.env (eval e X.env) = eval e X.env) : PE X (.Attribute e f pos) (tFld K ta f) := h ▸ pe_fld he hb
theorem pi_listK {tg l : Expr} {tl : TE} (h : X.K = K) (hl : PE X l tl) : PI X tg l (iList K tl) := h ▸ pi_list hl
theorem pi_tupK {tg l : Expr} {tl : TE} (h : X.K = K) (hl : PE X l tl) : PI X tg l (iTup K tl) := h ▸ pi_tup hl
theorem cr_allK (h : X.K = K) (hc : X.calm = true) : CallR X (.builtin "all") (rAll K) := h ▸ cr_all hc
theorem cr_anyK (h : X.K = K) (hc : X.calm = true) : CallR X (.builtin "any") (L2.rAny K) := h ▸ cr_any hc
theorem call_isiK (h : X.K = K) : CallR X (.builtin "isinstance") (rIsi K) := h ▸ call_isi
end
end Eld
set_option maxRecDepth 100000
set_option maxHeartbeats 1000000
/-! The plain law: fillings and rules. -/
namespace Eld
def arr {α : Type} [DecidableEq α] (fs : List α) : Nat → List (List α)
  | 0 => [[]]
  | n + 1 => (arr fs n).flatMap fun row => (fs.filter fun o => decide (o ∉ row)).map fun o => row ++ [o]
theorem mem_arr {α : Type} [DecidableEq α] {fs : List α} : ∀ {n : Nat} {row : List α}, row ∈ arr fs n ↔ row.length = n ∧ row.Nodup ∧ ∀ x ∈ row, x ∈ fs
  | 0, row => by
    show row ∈ [[]] ↔ _
    rw [List.mem_singleton]
    constructor
    · rintro rfl; exact ⟨rfl, List.nodup_nil, fun x h => nomatch h⟩
    · intro h; exact List.length_eq_zero_iff.mp h.1
  | n + 1, row => by
    show row ∈ (arr fs n).flatMap _ ↔ _
    rw [List.mem_flatMap]
    constructor
    · rintro ⟨a, ha, h⟩
      rw [mem_arr] at ha
      obtain ⟨o, ho, rfl⟩ := List.mem_map.mp h
      obtain ⟨h1, h2⟩ := List.mem_filter.mp ho
      have h2 : o ∉ a := of_decide_eq_true h2
      refine ⟨by rw [List.length_append, ha.1]; rfl, ?_, fun x hx => ?_⟩
      · rw [List.nodup_append]
        refine ⟨ha.2.1, by simp, fun x hx y hy e => ?_⟩
        rw [List.mem_singleton] at hy
        subst hy e
        exact h2 hx
      · rcases List.mem_append.mp hx with h | h
        · exact ha.2.2 x h
        · rw [List.mem_singleton.mp h]; exact h1
    · intro ⟨h1, h2, h3⟩
      have hne : row ≠ [] := fun e => by subst e; cases h1
      have e := List.dropLast_concat_getLast hne
      rw [← e, List.nodup_append] at h2
      refine ⟨row.dropLast, mem_arr.mpr ⟨by rw [List.length_dropLast, h1]; rfl, h2.1, fun x hx => h3 x ?_⟩, List.mem_map.mpr ⟨row.getLast hne, List.mem_filter.mpr ⟨h3 _ (List.getLast_mem hne), decide_eq_true fun h => h2.2.2 _ h _ (List.mem_singleton.mpr rfl) rfl⟩, e⟩⟩
      rw [← e]
      exact List.mem_append_left _ hx
theorem arr_map {α β : Type} [DecidableEq α] [DecidableEq β] (g : α → β) (hg : ∀ a b, g a = g b → a = b) (fs : List α) : ∀ n, arr (fs.map g) n = (arr fs n).map (List.map g)
  | 0 => rfl
  | n + 1 => by
    show (arr (fs.map g) n).flatMap _ = ((arr fs n).flatMap _).map _
    rw [arr_map g hg fs n, List.flatMap_map, List.map_flatMap]
    congr 1
    funext row
    rw [List.filter_map, List.map_map, List.map_map]
    have : ((fun o => decide (o ∉ row.map g)) ∘ g) = fun o => decide (o ∉ row) := by
      funext o
      show decide (g o ∉ row.map g) = _
      have : g o ∈ row.map g ↔ o ∈ row := ⟨fun h => by obtain ⟨a, ha, e⟩ := List.mem_map.mp h; rwa [← hg _ _ e], fun h => List.mem_map.mpr ⟨o, h, rfl⟩⟩
      rw [decide_eq_decide]
      exact not_congr this
    rw [this]
    congr 1
    funext o
    show row.map g ++ [g o] = (row ++ [o]).map g
    rw [List.map_append]; rfl
theorem arr_len {α : Type} [DecidableEq α] (fs : List α) : ∀ n, (arr fs n).length ≤ fs.length ^ n
  | 0 => Nat.le_refl 1
  | n + 1 => by
    show ((arr fs n).flatMap _).length ≤ _
    have h := arr_len fs n
    have : ∀ (l : List (List α)), (l.flatMap fun row => (fs.filter fun o => decide (o ∉ row)).map fun o => row ++ [o]).length ≤ l.length * fs.length := by
      intro l
      induction l with
      | nil => simp
      | cons a l ih =>
        rw [List.flatMap_cons, List.length_append, List.length_map, List.length_cons, Nat.succ_mul]
        have := List.length_filter_le (fun o => decide (o ∉ a)) fs
        omega
    refine Nat.le_trans (this _) ?_
    rw [Nat.pow_succ]
    exact Nat.mul_le_mul_right _ h
theorem nodup_len {α : Type} [DecidableEq α] : ∀ {l m : List α}, l.Nodup → (∀ x ∈ l, x ∈ m) → l.length ≤ m.length
  | [], _, _, _ => Nat.zero_le _
  | a :: l, m, nd, h => by
    rw [List.nodup_cons] at nd
    have := nodup_len (l := l) (m := m.erase a) nd.2 fun x hx => (List.mem_erase_of_ne fun e => nd.1 (by subst e; exact hx)).mpr (h x (List.mem_cons_of_mem _ hx))
    rw [List.length_erase_of_mem (h a (List.mem_cons_self ..))] at this
    have := List.length_pos_of_mem (h a (List.mem_cons_self ..))
    rw [List.length_cons]
    omega
/-- the items of a row at some positions -/
def pick (row js : List Nat) : List Nat := js.map fun j => row.getD j 0
/-- how many are less -/
def rank (xs : List Nat) : List Nat := xs.map fun x => (xs.filter fun y => decide (y < x)).length
abbrev Tms := List (Int × List Nat)
def tot (T : Tms) (row : List Nat) (y : List Nat → Int) : Int := (T.map fun t => t.1 * y (pick row t.2)).sum
def Fill (m : Int) (T : Tms) (r : Int) (l N : Nat) : Prop := ∃ y, ∀ row ∈ arr (List.range N) l, m ∣ tot T row y - r
def Rule (m : Int) (T : Tms) (r : Int) (l : Nat) : Prop := ∃ z : List Nat → Int, ∀ row ∈ arr (List.range l) l, m ∣ tot T row (fun p => z (rank p)) - r
/-- positions of size s in a row of length l -/
def poss (s l : Nat) : List (List Nat) := arr (List.range l) s
theorem fill_mono {m : Int} {T : Tms} {r : Int} {l N M : Nat} (h : N ≤ M) : Fill m T r l M → Fill m T r l N := fun ⟨y, hy⟩ =>
  ⟨y, fun row hr => hy row (by
    rw [mem_arr] at hr ⊢
    exact ⟨hr.1, hr.2.1, fun x hx => by have := hr.2.2 x hx; rw [List.mem_range] at this ⊢; omega⟩)⟩
theorem tot_congr {T : Tms} {row row' : List Nat} {y y' : List Nat → Int} (h : ∀ t ∈ T, y (pick row t.2) = y' (pick row' t.2)) : tot T row y = tot T row' y' := by
  unfold tot
  congr 1
  exact List.map_congr_left fun t ht => by rw [h t ht]
theorem rank_facts : ∀ l ∈ List.range 4, ∀ row ∈ arr (List.range 7) l, rank row ∈ arr (List.range l) l ∧ (∀ js ∈ poss 1 l, rank (pick row js) = rank (pick (rank row) js)) ∧ ∀ js ∈ poss 2 l, rank (pick row js) = rank (pick (rank row) js) := by decide +kernel
theorem rule_fill {m : Int} {T : Tms} {r : Int} {s l N : Nat} (hN : N ≤ 7) (hl : l ≤ 3) (hs : s = 1 ∨ s = 2) (ht : ∀ t ∈ T, t.2 ∈ poss s l) : Rule m T r l → Fill m T r l N := fun ⟨z, hz⟩ =>
  fill_mono hN ⟨fun p => z (rank p), fun row hr => by
    obtain ⟨h1, h2, h3⟩ := rank_facts l (List.mem_range.mpr (by omega)) row hr
    rw [tot_congr (row' := rank row) (y' := fun p => z (rank p)) fun t h => ?_]
    · exact hz _ h1
    · rcases hs with rfl | rfl
      · rw [h2 _ (ht t h)]
      · rw [h3 _ (ht t h)]⟩
/-! certificates -/
def wsum (W : List (Int × List Nat)) (f : List Nat → Int) : Int := (W.map fun k => k.1 * f k.2).sum
theorem wsum_cons (k : Int × List Nat) (W : List (Int × List Nat)) (f : List Nat → Int) : wsum (k :: W) f = k.1 * f k.2 + wsum W f := by
  unfold wsum; rw [List.map_cons, List.sum_cons]
theorem wsum_tot (T : Tms) (y : List Nat → Int) : ∀ W, wsum W (fun row => tot T row y) = (T.map fun t => t.1 * wsum W fun row => y (pick row t.2)).sum
  | [] => by
    show 0 = _
    induction T with
    | nil => rfl
    | cons t T ih =>
      rw [List.map_cons, List.sum_cons, ← ih]
      show (0 : Int) = t.1 * 0 + 0
      omega
  | k :: W => by
    rw [wsum_cons, wsum_tot T y W]
    unfold tot
    induction T with
    | nil => simp
    | cons t T ih =>
      rw [List.map_cons, List.sum_cons, List.map_cons, List.sum_cons, List.map_cons, List.sum_cons, ← ih, wsum_cons]
      grind
theorem cert {m : Int} {T : Tms} {r : Int} {y : List Nat → Int} (Z : List Nat → Int) (W : List (Int × List Nat)) (hw : wsum W (fun _ => 1) = 1) (hd : ∀ k ∈ W, m ∣ tot T k.2 y - r) (hz : ∀ t ∈ T, (wsum W fun row => y (pick row t.2)) = Z t.2) : m ∣ (T.map fun t => t.1 * Z t.2).sum - r := by
  have h1 : m ∣ wsum W (fun row => tot T row y) - wsum W (fun _ => 1) * r := by
    clear hw hz
    induction W with
    | nil => exact ⟨0, by show (0 : Int) - 0 * r = m * 0; simp⟩
    | cons k W ih =>
      rw [wsum_cons, wsum_cons]
      obtain ⟨a, ha⟩ := ih fun k hk => hd k (List.mem_cons_of_mem _ hk)
      obtain ⟨b, hb⟩ := hd k (List.mem_cons_self ..)
      exact ⟨k.1 * b + a, by grind⟩
  rw [hw, wsum_tot, Int.one_mul] at h1
  have : (T.map fun t => t.1 * wsum W fun row => y (pick row t.2)) = T.map fun t => t.1 * Z t.2 := List.map_congr_left fun t ht => by rw [hz t ht]
  rwa [this] at h1

def oneW : Nat → List (Int × List Nat)
  | 0 => [(1, [])]
  | 1 => [(1, [0])]
  | 2 => [(1, [0, 1]), (1, [2, 0]), (-1, [2, 1])]
  | _ => [(1, [0, 1, 2]), (1, [2, 3, 0]), (1, [3, 0, 1]), (-1, [2, 3, 1]), (-1, [3, 1, 2])]
theorem oneW_facts : ∀ l ∈ List.range 4, wsum (oneW l) (fun _ => 1) = 1 ∧ ∀ k ∈ oneW l, k.2 ∈ arr (List.range 4) l := by decide +kernel
theorem oneW_y {y : List Nat → Int} : ∀ l ∈ List.range 4, ∀ js ∈ poss 1 l, (wsum (oneW l) fun row => y (pick row js)) = y [0] := by
  intro l hl js hj
  have h : (l = 0 ∧ js ∈ poss 1 0) ∨ (l = 1 ∧ js ∈ poss 1 1) ∨ (l = 2 ∧ js ∈ poss 1 2) ∨ (l = 3 ∧ js ∈ poss 1 3) := by
    rw [List.mem_range] at hl
    rcases (by omega : l = 0 ∨ l = 1 ∨ l = 2 ∨ l = 3) with rfl | rfl | rfl | rfl
    · exact .inl ⟨rfl, hj⟩
    · exact .inr (.inl ⟨rfl, hj⟩)
    · exact .inr (.inr (.inl ⟨rfl, hj⟩))
    · exact .inr (.inr (.inr ⟨rfl, hj⟩))
  have p0 : poss 1 0 = [] := by decide +kernel
  have p1 : poss 1 1 = [[0]] := by decide +kernel
  have p2 : poss 1 2 = [[0], [1]] := by decide +kernel
  have p3 : poss 1 3 = [[0], [1], [2]] := by decide +kernel
  rw [p0, p1, p2, p3] at h
  simp only [List.mem_cons, List.not_mem_nil, or_false, and_false, false_or] at h
  rcases h with ⟨rfl, rfl⟩ | ⟨rfl, rfl | rfl⟩ | ⟨rfl, rfl | rfl | rfl⟩ <;> simp [oneW, wsum, pick] <;> omega
def trips : List (Int × List Nat) := [(1, [0, 1, 3]), (-1, [0, 1, 5]), (-1, [0, 2, 3]), (1, [0, 2, 4]), (1, [0, 2, 5]), (-1, [0, 2, 6]), (-1, [0, 3, 4]), (1, [0, 3, 5]), (-1, [0, 4, 5]), (1, [0, 4, 6]), (1, [1, 2, 3]), (-1, [1, 2, 4]), (-1, [1, 2, 5]), (1, [1, 2, 6]), (1, [1, 3, 4]), (-1, [1, 5, 6]), (1, [3, 4, 5]), (-1, [3, 4, 6]), (1, [3, 5, 6])]
theorem trips_y {y : List Nat → Int} : ∀ q ∈ poss 2 3, (wsum trips fun t => y (pick t q)) = if rank q = [0, 1] then wsum trips fun t => y (pick t [0, 1]) else wsum trips fun t => y (pick t [1, 0]) := by
  have p : poss 2 3 = [[0, 1], [0, 2], [1, 0], [1, 2], [2, 0], [2, 1]] := by decide +kernel
  intro q hq
  rw [p] at hq
  simp only [List.mem_cons, List.not_mem_nil, or_false] at hq
  have r1 : rank [0, 1] = [0, 1] := by decide
  have r2 : rank [0, 2] = [0, 1] := by decide
  have r3 : rank [1, 0] = [1, 0] := by decide
  have r4 : rank [1, 2] = [0, 1] := by decide
  have r5 : rank [2, 0] = [1, 0] := by decide
  have r6 : rank [2, 1] = [1, 0] := by decide
  rcases hq with rfl | rfl | rfl | rfl | rfl | rfl <;> simp [trips, wsum, pick, r1, r2, r3, r4, r5, r6] <;> omega
theorem trips_facts : ∀ σ ∈ arr (List.range 3) 3, wsum (trips.map fun k => (k.1, pick k.2 σ)) (fun _ => 1) = 1 ∧ (∀ k ∈ trips, pick k.2 σ ∈ arr (List.range 7) 3) ∧ (∀ js ∈ poss 2 3, pick σ js ∈ poss 2 3 ∧ ∀ k ∈ trips, pick (pick k.2 σ) js = pick k.2 (pick σ js)) := by decide +kernel
theorem two_facts : ∀ σ ∈ arr (List.range 2) 2, ∀ js ∈ poss 2 2, rank (pick σ js) = pick σ js := by decide +kernel
theorem wsum_map (W : List (Int × List Nat)) (g : List Nat → List Nat) (f : List Nat → Int) : wsum (W.map fun k => (k.1, g k.2)) f = wsum W fun x => f (g x) := by
  unfold wsum; rw [List.map_map]; rfl
theorem wsum_congr {W : List (Int × List Nat)} {f g : List Nat → Int} (h : ∀ k ∈ W, f k.2 = g k.2) : wsum W f = wsum W g := by
  unfold wsum
  congr 1
  exact List.map_congr_left fun k hk => by rw [h k hk]
theorem fill_rule {m : Int} {T : Tms} {r : Int} {s l N : Nat} (hl : l ≤ 3) (hs : s = 1 ∧ 4 ≤ N ∨ s = 2 ∧ 7 ≤ N) (ht : ∀ t ∈ T, t.2 ∈ poss s l) (hT : T ≠ []) : Fill m T r l N → Rule m T r l := fun hf => by
  rcases hs with ⟨rfl, hN⟩ | ⟨rfl, hN⟩
  · obtain ⟨y, hy⟩ := fill_mono hN hf
    obtain ⟨f1, f2⟩ := oneW_facts l (List.mem_range.mpr (by omega))
    have h := cert (fun _ => y [0]) (oneW l) f1 (fun k hk => hy _ (f2 k hk)) fun t h => oneW_y l (List.mem_range.mpr (by omega)) _ (ht t h)
    exact ⟨fun _ => y [0], fun row hr => h⟩
  · have hl0 : l = 2 ∨ l = 3 := by
      cases T with
      | nil => exact (hT rfl).elim
      | cons t T =>
        have h := ht t (List.mem_cons_self ..)
        have h := mem_arr.mp h
        have := nodup_len h.2.1 h.2.2
        rw [List.length_range] at this
        omega
    rcases hl0 with rfl | rfl
    · obtain ⟨y, hy⟩ := fill_mono (N := 2) (by omega) hf
      exact ⟨y, fun row hr => by
        rw [tot_congr (row' := row) (y' := y) fun t h => by rw [two_facts row hr _ (ht t h)]]
        exact hy row hr⟩
    · obtain ⟨y, hy⟩ := fill_mono hN hf
      refine ⟨fun p => if p = [0, 1] then wsum trips fun t => y (pick t [0, 1]) else wsum trips fun t => y (pick t [1, 0]), fun σ hσ => ?_⟩
      obtain ⟨f1, f2, f3⟩ := trips_facts σ hσ
      have h := cert (fun js => if rank (pick σ js) = [0, 1] then wsum trips fun t => y (pick t [0, 1]) else wsum trips fun t => y (pick t [1, 0])) _ f1 (fun k hk => by
        obtain ⟨k', hk', rfl⟩ := List.mem_map.mp hk
        exact hy _ (f2 k' hk')) fun t h => by
          obtain ⟨g1, g2⟩ := f3 _ (ht t h)
          rw [wsum_map trips fun x => pick x σ, wsum_congr (g := fun x => y (pick x (pick σ t.2))) fun k hk => by rw [g2 k hk]]
          exact trips_y _ g1
      exact h
end Eld
set_option maxRecDepth 100000
set_option maxHeartbeats 1000000
/-! solving: numbered, named, weight_list, clock_solved, solved. -/
namespace Eld
open PySem PySem.Spec PyProof.Rows L2
section
variable {P : Program} {w : World} {K : PySem.W.Frag} {mg : Str → Option Value} {base : Heap}
/-- the factor of the unknown with an index -/
def cF (us : List Pl) (l : List (Pl × Int)) (k : Int) : Int := if k < 0 then 0 else match us[k.toNat]? with
  | some p => (getN l p).getD 0
  | none => 0
def toEqn (us : List Pl) (e : PEq) : Eqn := (cF us e.1, e.2)
structure EqOk (us : List Pl) (e : PEq) : Prop where
  nd : (e.1.map (·.1)).Nodup
  k : ∀ kv ∈ e.1, kv.1 ∈ us
  v : ∀ kv ∈ e.1, kv.2 ≠ 0 ∧ sml kv.2 = true
def placesN (us : List Pl) : List (Pl × Int) := (((upTo 0 us.length).zip us).filter fun _ => true).map fun d => (d.2, d.1)
theorem placesN_get {us : List Pl} (nd : us.Nodup) {p : Pl} (h : p ∈ us) : getN (placesN us) p = some ((us.idxOf p : Nat) : Int) := by
  have hk : (placesN us).map (·.1) = us := by
    unfold placesN
    rw [List.filter_eq_self.mpr (fun _ _ => rfl), List.map_map]
    show List.map (fun d : Int × Pl => d.2) _ = _
    exact List.map_snd_zip (by rw [upTo_len]; exact Nat.le_refl _)
  refine getN_of (by rw [hk]; exact nd) ?_
  unfold placesN
  rw [List.filter_eq_self.mpr (fun _ _ => rfl)]
  have hi := List.idxOf_lt_length_of_mem h
  refine List.mem_map.mpr ⟨(((us.idxOf p : Nat) : Int), p), ?_, rfl⟩
  refine List.mem_of_getElem? (i := us.idxOf p) ?_
  rw [List.getElem?_zip_eq_some]
  refine ⟨?_, ?_⟩
  · unfold upTo
    rw [List.getElem?_map, List.getElem?_range hi]
    simp
  · rw [List.getElem?_eq_getElem hi, List.getElem_idxOf]
theorem isF_cF {us : List Pl} {e : PEq} (nd : us.Nodup) (h : EqOk us e) : IsF us.length (cF us e.1) (e.1.map fun d => (((us.idxOf d.1 : Nat) : Int), d.2)) := by
  have inj : ∀ p ∈ us, ∀ q ∈ us, us.idxOf p = us.idxOf q → p = q := fun p hp q hq e => by
    have h1 := List.getElem_idxOf (List.idxOf_lt_length_of_mem hp)
    have h2 := List.getElem_idxOf (List.idxOf_lt_length_of_mem hq)
    rw [← h1, ← h2]
    simp only [e]
  have hnd : ((e.1.map fun d => (((us.idxOf d.1 : Nat) : Int), d.2)).map (·.1)).Nodup := by
    rw [List.map_map]
    have e2 : ((fun x : Int × Int => x.1) ∘ fun d : Pl × Int => (((us.idxOf d.1 : Nat) : Int), d.2)) = (fun p : Pl => ((us.idxOf p : Nat) : Int)) ∘ fun d : Pl × Int => d.1 := rfl
    rw [e2, ← List.map_map]
    have := h.nd
    rw [List.nodup_iff_pairwise_ne] at this ⊢
    rw [List.pairwise_map]
    refine List.Pairwise.imp_of_mem (fun {a b} ha hb hn hh => hn ?_) this
    obtain ⟨x, hx, rfl⟩ := List.mem_map.mp ha
    obtain ⟨y, hy, rfl⟩ := List.mem_map.mp hb
    exact inj _ (h.k x hx) _ (h.k y hy) (by exact_mod_cast hh)
  have hc : ∀ kv ∈ e.1, cF us e.1 ((us.idxOf kv.1 : Nat) : Int) = kv.2 := fun kv hkv => by
    unfold cF
    rw [if_neg (by omega)]
    have hi := List.idxOf_lt_length_of_mem (h.k kv hkv)
    rw [Int.toNat_natCast, List.getElem?_eq_getElem hi, List.getElem_idxOf]
    show (getN e.1 kv.1).getD 0 = _
    rw [getN_of h.nd (n := kv.2) hkv]
    rfl
  have hz : ∀ k, cF us e.1 k ≠ 0 → ∃ kv ∈ e.1, k = ((us.idxOf kv.1 : Nat) : Int) := fun k hk => by
    unfold cF at hk
    by_cases h0 : k < 0
    · rw [if_pos h0] at hk; exact (hk rfl).elim
    · rw [if_neg h0] at hk
      cases hp : us[k.toNat]? with
      | none => rw [hp] at hk; exact (hk rfl).elim
      | some p =>
        rw [hp] at hk
        cases hg : getN e.1 p with
        | none => simp only [hg] at hk; exact (hk rfl).elim
        | some n =>
          refine ⟨(p, n), getN_some hg, ?_⟩
          have hi := (List.getElem?_eq_some_iff.mp hp)
          obtain ⟨hlt, he⟩ := hi
          have : us.idxOf p = k.toNat := by
            rw [← he]
            exact List.Nodup.idxOf_getElem nd _ hlt
          rw [this]; omega
  refine ⟨hnd, fun k => ?_, fun k hk => ?_⟩
  · by_cases h0 : cF us e.1 k = 0
    · rw [if_pos h0]
      cases hg : getI (e.1.map fun d => (((us.idxOf d.1 : Nat) : Int), d.2)) k with
      | none => rfl
      | some n =>
        have := (getI_mem hnd).mpr hg
        obtain ⟨kv, hkv, e⟩ := List.mem_map.mp this
        injection e with e1 e2
        have := hc kv hkv
        rw [e1, h0] at this
        exact ((h.v kv hkv).1 this.symm).elim
    · rw [if_neg h0]
      obtain ⟨kv, hkv, rfl⟩ := hz k h0
      rw [hc kv hkv]
      exact (getI_mem hnd).mp (List.mem_map.mpr ⟨kv, hkv, rfl⟩)
  · obtain ⟨kv, hkv, rfl⟩ := hz k hk
    have := List.idxOf_lt_length_of_mem (h.k kv hkv)
    omega
theorem fV_all {G : Hp} {us : List Pl} : ∀ {kvs : List (Key × V)} {l : List (Pl × Int)}, AllK (fun d : Pl × Int => (Sum.inl ((us.idxOf d.1 : Nat) : Int) : Key)) (fun d => rI d.2) G kvs l → kvs = fV (l.map fun d => (((us.idxOf d.1 : Nat) : Int), d.2))
  | _, _, .nil => rfl
  | _, _, .cons (a := kv) r t => by
    rw [fV_all t]
    show kv :: _ = _ :: _
    congr 1
    exact Prod.ext r.1 r.2
abbrev N_numbered : List Str := ["unknowns", "equations", "places", "found", "lefts", "right", "index", "unknown", "factor"]
theorem sc_numbered : FnScope N_numbered ["unknowns", "equations"] (defScope s_numbered) := ⟨rfl, rfl, rfl, by decide +kernel, rfl, by decide +kernel, by decide +kernel⟩
abbrev sp_numbered (P : Program) (w : World) : Sp := pSp (fun (a : List Pl × List PEq) vs G => (∃ u e, vs = [u, e] ∧ rL rPl a.1 u G ∧ rL (rPE P w) a.2 e G) ∧ a.1.Nodup ∧ a.1.length ≤ 900 ∧ a.2.length ≤ 900 ∧ ∀ e ∈ a.2, EqOk a.1 e) (fun a => rL (rEq a.1.length) (a.2.map (toEqn a.1)))
theorem has_numbered (C : Ctx K mg) : Has P w K mg base "numbered" ["unknowns", "equations"] 1 (sp_numbered P w) := by
  obtain ⟨fd, F⟩ := C.d_numbered
  refine has_pure F C.g_numbered sc_numbered (fun _ _ _ _ _ _ us hl => match us, hl with | [_, _], _ => rfl) (fun a vs G h => by obtain ⟨⟨u, e, rfl, _⟩, _⟩ := h; rfl) (fun cdv A outer s H vs Q E hr a G sG hp k => ?_)
  have hu := hu_of hr
  refine ⟨_, (pss_cons (ps_set (i := 2) sc_numbered.nd rfl (Or.inr rfl) (pe_dcN hr.units (g := (gTup K 2 (gCons (gName 6) (gCons (gName 7) gNil)))) (own := [("index", 6), ("unknown", 7)]) (by rfl) sc_numbered.nd (pi_enum rfl C.f_enumerate (pa_cons (pv 0) pa_nil)) (blkOk_by (own := [("index", 6), ("unknown", 7)]) (N := N_numbered) (sc := defScope s_numbered) (by decide +kernel)) (fun _ _ _ _ _ => (pg_tupK (K := K) rfl rfl (pgs_cons (pg_name (i := 6) sc_numbered.nd rfl (Or.inl rfl)) (pgs_cons (pg_name (i := 7) sc_numbered.nd rfl (Or.inl rfl)) pgs_nil)))) (fun _ _ _ _ _ => pts_nil) (fun _ _ _ _ _ => (pv 7)) (fun _ _ _ _ _ => (pv 6))))
  (pss_cons (ps_set (i := 3) sc_numbered.nd rfl (Or.inl rfl) (pe_lst pa_nil))
  (pss_cons (ps_for PassesOwn.never (by rfl) (pi_list (pv 1)) (pg_tup rfl (pgs_cons (pg_name (i := 4) sc_numbered.nd rfl (Or.inl rfl)) (pgs_cons (pg_name (i := 5) sc_numbered.nd rfl (Or.inl rfl)) pgs_nil)))
    (pss_one (ps_expr (pe_bm PySem.F.plainAttrs_list PySem.F.slot_list_append PySem.F.type_list_append mt_append (pv 3) (pa_cons (pe_tup (pa_cons (pe_dc (g := (gTup K 2 (gCons (gName 7) (gCons (gName 8) gNil)))) (own := [("unknown", 7), ("factor", 8)]) (by rfl) sc_numbered.nd (pi_itemsN (pv 4)) (blkOk_by (own := [("unknown", 7), ("factor", 8)]) (N := N_numbered) (sc := defScope s_numbered) (by decide +kernel)) (fun _ _ _ _ _ => (pg_tupK (K := K) rfl rfl (pgs_cons (pg_name (i := 7) sc_numbered.nd rfl (Or.inl rfl)) (pgs_cons (pg_name (i := 8) sc_numbered.nd rfl (Or.inl rfl)) pgs_nil)))) (fun _ _ _ _ _ => pts_nil) (fun _ _ _ _ _ => (pe_ndgetK (P := P) (w := w) rfl rfl hr.units (pv 2) (pv 7) (fun _ _ => rfl))) (fun _ _ _ _ _ => (pv 8))) (pa_cons (pv 5) pa_nil))) pa_nil)))))
  (pss_one (ps_ret (pv 3)))))), ?_⟩
  obtain ⟨us, es⟩ := a
  obtain ⟨⟨u, e, rfl, hus, hes⟩, nd, hn, hq, hok⟩ := hp
  dsimp only at hus hes nd hn hq hok
  have ndk : (((upTo 0 us.length).zip us).map fun d : Int × Pl => d.2).Nodup := by
    rw [List.map_snd_zip (by rw [upTo_len]; exact Nat.le_refl _)]; exact nd
  have hzl : ((upTo 0 us.length).zip us).length < sizeLine := by
    rw [List.length_zip, upTo_len, Nat.min_self]
    exact small1000 (by omega)
  refine q_asg (P := rPD P w (placesN us)) (EvN.nd (en_dcN (fun _ => true) (fun d : Int × Pl => d.2) (fun d => d.1) (ei_enum (ev_var rfl hus)) hzl ndk fun d v G' _ s r => ?_)) sG fun v1 G1 H1 e1 p1 => ?_
  · obtain ⟨x, y, q1, q2, eg⟩ := eg_2 (K := K) (i := 6) (j := 7) (σ := wipe (start N_numbered [u, e]) [6, 7]) r
    refine ⟨_, eg, rfl, et_yes, fun _ => ⟨ev_var rfl q2, ev_var rfl q1⟩⟩
  refine q_asgN (en_l0 (R := rEq us.length)) e1.s fun l o G2 H2 e2 hl gl hol ol => ?_
  obtain ⟨xs0, rfl, al0⟩ := ol
  cases al0
  have e02 := e1.trans e2
  have hl0 : H l = none := e1.h.free hl
  refine q_for (Gb := G) (Hb := H) e02 (ei_list (ev_var rfl (mn e02.g hes))) (fun i σ' G' H' => ∃ y z xs, σ' = [some u, some e, some v1, some (.ref l), y, z, none, none, none] ∧ H' l = some (.lst xs) ∧ G' l = none ∧ All2 (rEq us.length) G' xs ((es.take i).map (toEqn us)))
    (fun G3 H3 e3 => ⟨none, none, [], rfl, e3.h _ _ hol, e3.f l (by rw [hol]; exact fun z => nomatch z) gl, .nil⟩) (fun G3 sG3 i d v' σ' G0 H0 G' H' hk s0 e0' j e' r => ?_) (fun G3 σ' G' H' sG3 s3 e3 j => ?_)
  · obtain ⟨y, z, xs, rfl, hx, gx, al⟩ := j
    have hi : i < es.length := (List.getElem?_eq_some_iff.mp hk).1
    have hmem : d ∈ es := List.mem_of_getElem? hk
    obtain ⟨w1, w2, q1, q2, eg⟩ := eg_2 (K := K) (σ := [some u, some e, some v1, some (.ref l), y, z, none, none, none]) (i := 4) (j := 5) r
    refine eg _ e'.s _ ?_
    have hx' := e'.h _ _ hx
    have gx' := e'.f l (by rw [hx]; exact fun z => nomatch z) gx
    have p1' : rPD P w (placesN us) v1 G' := mn (((e2.g.trans sG3).trans s0).trans e'.g) p1
    have hz1 : d.1.length < sizeLine := by
      obtain ⟨a, ob, _, _, hr⟩ := (show rPD P w d.1 w1 G' from q1)
      have := nodup_len (hok d hmem).nd (m := us) fun p hp => by
        obtain ⟨kv, hkv, rfl⟩ := List.mem_map.mp hp
        exact (hok d hmem).k kv hkv
      rw [List.length_map] at this
      exact small1000 (by omega)
    have ndk2 : (d.1.map fun kv : Pl × Int => (Sum.inl ((us.idxOf kv.1 : Nat) : Int) : Key)).Nodup := by
      have := (isF_cF nd (hok d hmem)).nd
      rw [List.map_map] at this
      have e : (d.1.map fun kv : Pl × Int => (Sum.inl ((us.idxOf kv.1 : Nat) : Int) : Key)) = (d.1.map ((fun x : Int × Int => x.1) ∘ fun d : Pl × Int => (((us.idxOf d.1 : Nat) : Int), d.2))).map Sum.inl := by rw [List.map_map]; rfl
      rw [e]
      rw [List.nodup_iff_pairwise_ne] at this ⊢
      exact List.Pairwise.map _ (fun a b h e => h (Sum.inl.inj e)) this
    refine s_app hx' (ev_var rfl rfl) (ev_t2 (R := rC us.length) (S := rI) (x := cF us d.1) (y := d.2) (EvN.rc (en_dc (S := fun d : Pl × Int => rI d.2) (fun _ => true) (fun kv : Pl × Int => (Sum.inl ((us.idxOf kv.1 : Nat) : Int) : Key)) (ei_itemsN (ev_var rfl q1)) hz1 ndk2 fun kv vv G4 hkv s4 r4 => ?_) fun p o G hO => ?_) (ev_var rfl q2)) e'.s ?_ fun v4 G4 H4 e4 p4 h4 => ?_
    · obtain ⟨t1, t2, b1, b2, eg2⟩ := eg_2 (K := K) (i := 7) (j := 8) (σ := wipe ((([some u, some e, some v1, some (.ref l), y, z, none, none, none] : St).set 4 (some w1)).set 5 (some w2)) [7, 8]) r4
      refine ⟨_, eg2, rfl, et_yes, fun _ => ⟨EvP.imp (ev_ndget (ev_var rfl (mn s4 p1')) (ev_var rfl b1) (placesN_get nd ((hok d hmem).k kv hkv))) fun v G' _ h => h, ev_var rfl b2⟩⟩
    · obtain ⟨kvs, rfl, al2⟩ := hO
      rw [List.filter_eq_self.mpr (fun _ _ => rfl)] at al2
      exact ⟨_, congrArg HO.dK (fV_all al2), isF_cF nd (hok d hmem)⟩
    · have h1 := al.length
      rw [List.length_map, List.length_take] at h1
      exact small1000 (by omega)
    · have gx4 := e4.f l (by rw [hx']; exact fun z => nomatch z) gx'
      refine ⟨G4, (s0.trans e'.g).trans e4.g, ((e0'.trans e').trans e4).upd hl0 gx4, _, _, _, rfl, upd_same, gx4, ?_⟩
      rw [take_snoc hi, List.map_append]
      rw [List.getElem?_eq_getElem hi] at hk
      rw [Option.some.inj hk]
      exact (al.mono (e'.g.trans e4.g)).snoc p4
  · obtain ⟨y, z, xs, rfl, hx, gx, al⟩ := j
    rw [List.take_length] at al
    have e4 := e3.know hl0 gx hx
    exact s_ret (P := rL (rEq us.length) (es.map (toEqn us))) (ev_var rfl ⟨l, xs, rfl, upd_same, al.mono (Same.new gx)⟩) e4.s fun v G5 H5 e5 p5 => k v G5 H5 (e4.trans e5) p5
end
end Eld
set_option maxRecDepth 100000
set_option maxHeartbeats 1000000
/-! solving: named, weight_list, clock_solved, solved. -/
namespace Eld
open PySem PySem.Spec PyProof.Rows L2
section
variable {P : Program} {w : World} {K : PySem.W.Frag} {mg : Str → Option Value} {base : Heap}
/-- a dict from places to ints, whatever it holds -/
def rPX (P : Program) (w : World) : V → Hp → Prop := fun v G => ∃ l, rPD P w l v G
instance : MnP (rPX P w) := ⟨fun s ⟨l, h⟩ => ⟨l, mn s h⟩⟩
abbrev N_named : List Str := ["unknowns", "numbers", "index", "unknown"]
theorem sc_named : FnScope N_named ["unknowns", "numbers"] (defScope s_named) := ⟨rfl, rfl, rfl, by decide +kernel, rfl, by decide +kernel, by decide +kernel⟩
abbrev sp_named (P : Program) (w : World) : Sp := pSp (fun (us : List Pl) vs G => (∃ u v, vs = [u, v] ∧ rL rPl us u G ∧ rF v G) ∧ us.Nodup ∧ us.length ≤ 900) (fun _ => rPX P w)
theorem has_named (C : Ctx K mg) : Has P w K mg base "named" ["unknowns", "numbers"] 1 (sp_named P w) := by
  obtain ⟨fd, F⟩ := C.d_named
  refine has_pure F C.g_named sc_named (fun _ _ _ _ _ _ us hl => match us, hl with | [_, _], _ => rfl) (fun a vs G h => by obtain ⟨⟨u, e, rfl, _⟩, _⟩ := h; rfl) (fun cdv A outer s H vs Q E hr a G sG hp k => ?_)
  have hu := hu_of hr
  refine ⟨_, (pss_one (ps_ret (pe_dcN hr.units (g := (gTup K 2 (gCons (gName 2) (gCons (gName 3) gNil)))) (own := [("index", 2), ("unknown", 3)]) (by rfl) sc_named.nd (pi_enum rfl C.f_enumerate (pa_cons (pv 0) pa_nil)) (blkOk_by (own := [("index", 2), ("unknown", 3)]) (N := N_named) (sc := defScope s_named) (by decide +kernel)) (fun _ _ _ _ _ => (pg_tupK (K := K) rfl rfl (pgs_cons (pg_name (i := 2) sc_named.nd rfl (Or.inl rfl)) (pgs_cons (pg_name (i := 3) sc_named.nd rfl (Or.inl rfl)) pgs_nil)))) (fun _ _ _ _ _ => pts_nil) (fun _ _ _ _ _ => (pv 3)) (fun _ _ _ _ _ => (pe_dget2 hu (pv 1) (pv 2) pe_int ⟨rfl, rfl, rfl, rfl⟩))))), ?_⟩
  obtain ⟨⟨u, v, rfl, hus, ⟨d, f, rfl, hd⟩⟩, nd, hn⟩ := hp
  have ndk : (((upTo 0 a.length).zip a).map fun d : Int × Pl => d.2).Nodup := by
    rw [List.map_snd_zip (by rw [upTo_len]; exact Nat.le_refl _)]; exact nd
  have hzl : ((upTo 0 a.length).zip a).length < sizeLine := by
    rw [List.length_zip, upTo_len, Nat.min_self]
    exact small1000 (by omega)
  refine s_ret (P := rPX P w) (EvP.imp (EvN.nd (en_dcN (fun _ => true) (fun d : Int × Pl => d.2) (fun d => (getI f d.1).getD 0) (ei_enum (ev_var rfl hus)) hzl ndk fun x v G' _ s r => ?_)) fun v G' _ h => ⟨_, h⟩) sG fun v G' H' e p => k v G' H' e p
  obtain ⟨x1, y, q1, q2, eg⟩ := eg_2 (K := K) (i := 2) (j := 3) (σ := wipe (start N_named [u, .ref d]) [2, 3]) r
  refine ⟨_, eg, rfl, et_yes, fun _ => ⟨ev_var rfl q2, ev_of fun H s' => ex_dget2I (s' _ _ (s _ _ hd)) s' (ev_var rfl rfl) (ev_var rfl q1) ev_int⟩⟩
theorem ev_lcE {σ : St} {G : Hp} {te te2 : TE} {g : TG} {tt : TT} {vs : List Nat} {PP P2 : V → Hp → Prop} (h : EvP te σ G PP) (hk : ∀ v G', Same G G' → PP v G' → EvP (tLc (iList K (tC v)) g tt te2 vs) σ G' P2) : EvP (tLc (iList K te) g tt te2 vs) σ G P2 := fun H s Q q =>
  h H s _ fun v G1 H1 e1 p1 => hk v G1 e1.g p1 H1 e1.s Q fun v2 G2 H2 e2 p2 => q v2 G2 H2 (e1.trans e2) p2
abbrev N_weight_list : List Str := ["weights", "index"]
theorem sc_weight_list : FnScope N_weight_list ["weights"] (defScope s_weight_list) := ⟨rfl, rfl, rfl, by decide +kernel, rfl, by decide +kernel, by decide +kernel⟩
/-- pairs of an index below q and a weight -/
def rWs (q : Nat) : V → Hp → Prop := fun v G => ∃ ws : List (Int × Int), rL (r2 rI rI) ws v G ∧ ws.length ≤ q ∧ ∀ p ∈ ws, 0 ≤ p.1 ∧ p.1 < q
instance {q : Nat} : MnP (rWs q) := ⟨fun s ⟨l, h, h2⟩ => ⟨l, mn s h, h2⟩⟩
abbrev sp_weight_list : Sp := pSp (fun (a : Nat × (Int → Int)) vs G => (∃ v, vs = [v] ∧ rC a.1 a.2 v G) ∧ a.1 ≤ 900) (fun a => rWs a.1)
theorem has_weight_list (C : Ctx K mg) : Has P w K mg base "weight_list" ["weights"] 1 sp_weight_list := by
  obtain ⟨fd, F⟩ := C.d_weight_list
  refine has_pure F C.g_weight_list sc_weight_list (fun _ _ _ _ _ _ us hl => match us, hl with | [_], _ => rfl) (fun a vs G h => by obtain ⟨⟨u, rfl, _⟩, _⟩ := h; rfl) (fun cdv A outer s H vs Q E hr a G sG hp k => ?_)
  have hu := hu_of hr
  refine ⟨_, (pss_one (ps_ret (pe_lc (own := [("index", 1)]) (by rfl) sc_weight_list.nd (pi_list (pe_callB cr_sortedI (by rfl) C.f_sorted (by decide +kernel) (pa_cons (pe_callTy (call_list_dK rfl) (by rfl) C.f_list (by decide +kernel) (pa_cons (pv 0) pa_nil)) pa_nil))) (blkOk_by (own := [("index", 1)]) (N := N_weight_list) (sc := defScope s_weight_list) (by decide +kernel)) (fun _ _ _ _ _ => (pg_name (i := 1) sc_weight_list.nd rfl (Or.inl rfl))) (fun _ _ _ _ _ => pts_nil) (fun _ _ _ _ _ => (pe_tup (pa_cons (pv 1) (pa_cons (pe_dget hu (pv 0) (pv 1) (fun _ _ => rfl)) pa_nil))))))), ?_⟩
  obtain ⟨q, c⟩ := a
  obtain ⟨⟨v, rfl, d, f, rfl, hd, hf⟩, hq⟩ := hp
  have hq : q ≤ 900 := hq
  have hlen := hf.len
  have hlist : EvP (tCB rListD (tCons (tVar 0) tNil)) (start N_weight_list [.ref d]) G (rL rI (f.map (·.1))) := ev_cb1 (P1 := rV (.ref d)) (ev_var rfl rfl) fun v G' s p H s' Q qq => by
    cases (show v = .ref d from p)
    exact ⟨d, _, rfl, s' _ _ (s _ _ hd), fun p hp => qq _ _ _ (Ext.new s' hp) ⟨p, _, rfl, upd_same, by
      rw [all2_ints]
      unfold fV
      rw [List.map_map, List.map_map]
      rfl⟩⟩
  have hsort : EvP (tCB (rSortedI K) (tCons (tCB rListD (tCons (tVar 0) tNil)) tNil)) (start N_weight_list [.ref d]) G (fun v G' => ∃ ns : List Int, ns.Perm (f.map (·.1)) ∧ rL rI ns v G') := ev_cb1 hlist fun v G' _ p H s Q qq => by
    obtain ⟨a, xs, rfl, ha, al⟩ := p
    rw [all2_ints] at al
    subst al
    exact ⟨a, _, rfl, SqL.of (s _ _ ha), fun ns' p hp _ hn => qq _ _ _ (Ext.new s hn) ⟨ns', hp, p, _, rfl, upd_same, all2_ints.mpr rfl⟩⟩
  refine s_ret (P := rWs q) (ev_lcE hsort fun v G' s ⟨ns, hp, hv⟩ => EvP.imp (ev_lcm (R := rI) (S := r2 rI rI) (fun i => (i, c i)) (ei_list (ev_c hv)) (by rw [hp.length_eq, List.length_map]; exact small1000 (by omega)) fun i v2 G2 hi s2 r => ?_) fun v2 G2 _ h => ?_) sG fun v G' H' e p => k v G' H' e p
  · cases (show v2 = .int i from r)
    have hci : c i ≠ 0 := hf.key.mp (hp.mem_iff.mp hi)
    exact ⟨_, eg_name, rfl, ev_t2 (R := rI) (S := rI) (x := i) (y := c i) (ev_vi rfl) (ev_dgetC (ev_var (P := rC q c) rfl ⟨d, f, rfl, s2 _ _ (s _ _ hd), hf⟩) (ev_vi rfl) hci)⟩
  · refine ⟨_, h, ?_, fun p hp' => ?_⟩
    · rw [List.length_map, hp.length_eq, List.length_map]; exact hlen
    · obtain ⟨i, hi, rfl⟩ := List.mem_map.mp hp'
      exact hf.rg i (hf.key.mp (hp.mem_iff.mp hi))
/-- what solved tells -/
def SolPost (P : Program) (w : World) (q : Nat) (E : Prop) : V → Hp → Prop := fun v G => ∃ a x y, v = .ref a ∧ G a = some (.tup [x, y]) ∧ ((E ∧ x = .str "filling" ∧ rPX P w y G) ∨ (¬ E ∧ x = .str "refusal" ∧ rWs q y G))
instance {q : Nat} {E : Prop} : MnP (SolPost P w q E) := ⟨fun s ⟨a, x, y, e, h, o⟩ => ⟨a, x, y, e, s _ _ h, o.imp (fun ⟨h1, h2, h3⟩ => ⟨h1, h2, mn s h3⟩) (fun ⟨h1, h2, h3⟩ => ⟨h1, h2, mn s h3⟩)⟩⟩
instance {a : CrA} : MnP (CrPost K a) := ⟨fun s ⟨st, rf, h, g⟩ => ⟨st, rf, mn s h, g⟩⟩
structure CsA where
  m : Int
  us : List Pl
  es : List Eqn
abbrev N_clock_solved : List Str := ["hours", "unknowns", "equations", "rows"]
theorem sc_clock_solved : FnScope N_clock_solved ["hours", "unknowns", "equations"] (defScope s_clock_solved) := ⟨rfl, rfl, rfl, by decide +kernel, rfl, by decide +kernel, by decide +kernel⟩
abbrev sp_clock_solved (P : Program) (w : World) : Sp := pSp (fun (a : CsA) vs G => (∃ u e, vs = [.int a.m, u, e] ∧ rL rPl a.us u G ∧ rL (rEq a.us.length) a.es e G) ∧ (2 ≤ a.m ∧ a.m ≤ 5) ∧ a.us.Nodup ∧ a.us.length ≤ 900 ∧ a.es.length ≤ 900 ∧ ∀ e ∈ a.es, Sml e.1) (fun a => SolPost P w a.es.length (∃ x, ∀ e ∈ a.es, e.at a.us.length a.m x))
theorem has_clock_solved (C : Ctx K mg) : Has P w K mg base "clock_solved" ["hours", "unknowns", "equations"] 7 (sp_clock_solved P w) := by
  obtain ⟨fd, F⟩ := C.d_clock_solved
  refine has_pure F C.g_clock_solved sc_clock_solved (fun _ _ _ _ _ _ us hl => match us, hl with | [_, _, _], _ => rfl) (fun a vs G h => by obtain ⟨⟨u, e, rfl, _⟩, _⟩ := h; rfl) (fun cdv A outer s H vs Q E hr a G sG hp k => ?_)
  have hu := hu_of hr
  refine ⟨_, (pss_cons (ps_set (i := 3) sc_clock_solved.nd rfl (Or.inl rfl) (pe_callH (has_clock_rows C) hr (by decide) rfl (pa_cons (pv 0) (pa_cons (pe_callB call_len_seq (by rfl) C.f_len (by decide +kernel) (pa_cons (pv 1) pa_nil)) (pa_cons (pv 2) pa_nil)))))
  (pss_cons (ps_if (pt_cmpR op_notN (pe_fld (pv 3) rfl) pe_non (nomark _))
    (pss_one (ps_ret (pe_tup (pa_cons pe_str (pa_cons (pe_callH (has_weight_list C) hr (by decide) rfl (pa_cons (pe_fld (pv 3) rfl) pa_nil)) pa_nil)))))
    pss_nil)
  (pss_one (ps_ret (pe_tup (pa_cons pe_str (pa_cons (pe_callH (has_named C) hr (by decide) rfl (pa_cons (pv 1) (pa_cons (pe_methH0 (has_ClockRows_solution C) C.c_ClockRows hr (by decide) (pv 3)) pa_nil))) pa_nil))))))), ?_⟩
  obtain ⟨m, us, es⟩ := a
  obtain ⟨⟨u, e, rfl, hus, hes⟩, hm, nd, hn, hq, hsm⟩ := hp
  dsimp only at hus hes hm nd hn hq hsm
  refine q_asg (P := CrPost K ⟨us.length, m, es⟩) (ev_call3 (⟨us.length, m, es⟩ : CrA) (ev_vi rfl) (ev_lenL (ev_var rfl hus)) (ev_var rfl hes) fun v1 v2 v3 G' _ p1 p2 p3 => ⟨⟨v3, by rw [show v1 = .int m from p1, show v2 = .int _ from p2], p3⟩, hm, hn, hq, hsm⟩) sG fun v1 G1 H1 e1 p1 => ?_
  obtain ⟨st, rf, hk, hg⟩ := p1
  obtain ⟨⟨x, dx, sd, kvs, rfl, hx, hsd, hst⟩, hrf⟩ := hk
  dsimp only at hx hsd hst hrf hg
  have hfl : ∀ {G2 : Hp}, Same G1 G2 → EvP (tFld K (tVar 3) "refused") ((start N_clock_solved [.int m, u, e]).set 3 (some (.ref x))) G2 (rV rf) := fun s => ev_fld (ev_var rfl rfl) (s _ _ hx) C.c_ClockRows C.n_ClockRows_refused rfl rfl
  refine q_ifn (b := !decide (rf = .non)) (et_B (ev_notN (hfl (Same.refl _)) ev_non)) e1.s (fun hb G2 H2 e2 => ?_) (fun hb G2 H2 e2 => ?_)
  · have hne : rf ≠ .non := by
      intro z
      rw [z] at hb
      cases hb
    obtain ⟨c, hc⟩ := hrf.resolve_left hne
    refine s_ret (P := SolPost P w es.length (∃ x, ∀ e ∈ es, e.at us.length m x)) (ev_tupA (ea_2 (P := rS "refusal") (P1 := rWs es.length) ev_str (EvP.imp (ev_call1 (P := rC es.length c) (es.length, c) (EvP.imp (hfl e2.g) fun v G' s h => by rw [show v = rf from h]; exact mn (e2.g.trans s) hc) fun v G' _ p => ⟨⟨v, rfl, p⟩, hq⟩) fun _ _ _ h => h)) (fun vs _ p => by obtain ⟨v, _, rfl, _, w, _, rfl, _, rfl⟩ := p; show 2 ≤ sizeLine; decide) fun vs a G' s p n => ?_) e2.s fun v G3 H3 e3 p3 => k v G3 H3 ((e1.trans e2).trans e3) p3
    obtain ⟨v1, _, rfl, p1, v2, _, rfl, p2, rfl⟩ := p
    exact ⟨a, v1, v2, rfl, upd_same, .inr ⟨fun ⟨x, h⟩ => hg.yes hne x h, p1, mn (Same.new n) p2⟩⟩
  · have he : rf = .non := by
      rcases Decidable.em (rf = .non) with h | h
      · exact h
      · rw [decide_eq_false h] at hb; cases hb
    subst he
    have hsol : ∃ x, ∀ e ∈ es, e.at us.length m x := inv2_sol (by omega) hg.ok (hg.no rfl)
    refine s_ret (P := SolPost P w es.length (∃ x, ∀ e ∈ es, e.at us.length m x)) (ev_tupA (ea_2 (P := rS "filling") (P1 := rPX P w) ev_str (ev_call2 (P := rL rPl us) (P1 := rF) us (ev_var rfl (mn (e1.trans e2).g hus)) (ev_methK (⟨us.length, es.length, m, st, .non⟩ : SeA) (e2.g _ _ hx) rfl (ev_var rfl rfl) (fun G' s => ea_nil) fun vs G' s p => ?_) fun v1 v2 G' _ p1 p2 => ⟨⟨v1, v2, rfl, p1, p2⟩, nd, hn⟩)) (fun vs _ p => by obtain ⟨v, _, rfl, _, w, _, rfl, _, rfl⟩ := p; show 2 ≤ sizeLine; decide) fun vs a G' s p n => ?_) e2.s fun v G3 H3 e3 p3 => k v G3 H3 ((e1.trans e2).trans e3) p3
    · cases (show vs = [] from p)
      have ss := e2.g.trans s
      exact ⟨_, rfl, ⟨⟨x, dx, sd, kvs, rfl, ss _ _ hx, ss _ _ hsd, hst.mono ss⟩, .inl rfl⟩, hm, hn, hg.ok⟩
    · obtain ⟨v1, _, rfl, p1, v2, _, rfl, p2, rfl⟩ := p
      exact ⟨a, v1, v2, rfl, upd_same, .inl ⟨hsol, p1, mn (Same.new n) p2⟩⟩
/-- the sum of an equation's left at some numbers -/
def psum (l : List (Pl × Int)) (y : Pl → Int) : Int := (l.map fun kv => kv.2 * y kv.1).sum
def PSol (m : Int) (es : List PEq) : Prop := ∃ y, ∀ e ∈ es, m ∣ psum e.1 y - e.2
structure SoA where
  m : Int
  us : List Pl
  es : List PEq
abbrev N_solved : List Str := ["world", "unknowns", "equations", "told"]
theorem sc_solved : FnScope N_solved ["world", "unknowns", "equations"] (defScope s_solved) := ⟨rfl, rfl, rfl, by decide +kernel, rfl, by decide +kernel, by decide +kernel⟩
abbrev sp_solved (P : Program) (w : World) : Sp := pSp (fun (a : SoA) vs G => (∃ u e, vs = [.int a.m, u, e] ∧ rL rPl a.us u G ∧ rL (rPE P w) a.es e G) ∧ (2 ≤ a.m ∧ a.m ≤ 5) ∧ a.us.Nodup ∧ a.us.length ≤ 900 ∧ a.es.length ≤ 900 ∧ ∀ e ∈ a.es, EqOk a.us e) (fun a => SolPost P w a.es.length (PSol a.m a.es))
theorem sml_cF {us : List Pl} {e : PEq} (h : EqOk us e) : Sml (cF us e.1) := fun k => by
  unfold cF
  split
  · decide
  · split
    · rename_i p _
      cases hg : getN e.1 p with
      | none => show sml 0 = true; decide
      | some n => exact (h.v _ (getN_some hg)).2
    · decide
theorem lin_z (n : Nat) (c : Int → Int) : lin n c (fun _ => 0) = 0 := by
  induction n with
  | zero => rfl
  | succ n ih => show lin n c _ + c n * 0 = 0; rw [ih]; simp
theorem lin_delta {n : Nat} {p : Int} {x : Int → Int} (h0 : 0 ≤ p) (h1 : p < n) : lin n (fun k => if k = p then 1 else 0) x = x p := by
  rw [lin_set (y := fun k => if k = p then x p else 0) fun k _ _ hk => ?_, lin_at (x := fun _ => 0) h0 h1, lin_z]
  · simp
  · by_cases e : k = p
    · rw [if_pos e, e]
    · rw [if_neg e] at hk; exact (hk rfl).elim
theorem lin_isF {n : Nat} {x : Int → Int} : ∀ {f : Its} {c : Int → Int}, IsF n c f → lin n c x = (f.map fun p => p.2 * x p.1).sum
  | [], c, h => by
    have : c = fun _ => 0 := funext fun k => by
      have := h.get k
      by_cases e : c k = 0
      · exact e
      · rw [if_neg e] at this; cases this
    rw [this]
    induction n with
    | zero => rfl
    | succ n ih =>
      show lin n _ x + 0 * x n = 0
      rw [lin_set (y := fun _ => 0) fun k _ _ hk => (hk rfl).elim, lin_z]
      simp
  | p :: f, c, h => by
    have hp : c p.1 = p.2 ∧ c p.1 ≠ 0 := by
      have := h.at (i := 0) (k := p.1) (v := p.2) rfl
      exact ⟨this.1.symm, this.2⟩
    have nd := h.nd
    rw [List.map_cons, List.nodup_cons] at nd
    have h' : IsF n (fun k => if k = p.1 then 0 else c k) f := by
      refine ⟨nd.2, fun k => ?_, fun k hk => ?_⟩
      · by_cases e : k = p.1
        · rw [if_pos e, if_pos rfl]
          cases hg : getI f k with
          | none => rfl
          | some v =>
            have := (getI_mem nd.2).mpr hg
            exact (nd.1 (List.mem_map.mpr ⟨_, this, e⟩)).elim
        · rw [if_neg e, ← h.get k, getI_neg (fun z => e z.symm)]
      · by_cases e : k = p.1
        · rw [if_pos e] at hk; exact (hk rfl).elim
        · rw [if_neg e] at hk; exact h.rg k hk
    have hr := h.rg p.1 hp.2
    have e : c = fun k => 1 * (if k = p.1 then 0 else c k) + p.2 * (if k = p.1 then 1 else 0) := funext fun k => by
      by_cases e : k = p.1
      · rw [if_pos e, if_pos e, e, hp.1]; simp
      · rw [if_neg e, if_neg e]; simp
    rw [List.map_cons, List.sum_cons, ← lin_isF h']
    rw [show lin n c x = lin n (fun k => 1 * (if k = p.1 then 0 else c k) + p.2 * (if k = p.1 then 1 else 0)) x by rw [← e], lin_lin, lin_delta hr.1 hr.2]
    omega
theorem sol_iff {m : Int} {us : List Pl} {es : List PEq} (nd : us.Nodup) (hok : ∀ e ∈ es, EqOk us e) : (∃ x, ∀ e ∈ es.map (toEqn us), e.at us.length m x) ↔ PSol m es := by
  constructor
  · intro ⟨x, h⟩
    refine ⟨fun p => x ((us.idxOf p : Nat) : Int), fun e he => ?_⟩
    have := h _ (List.mem_map.mpr ⟨e, he, rfl⟩)
    unfold Eqn.at toEqn at this
    rw [lin_isF (isF_cF nd (hok e he)), List.map_map] at this
    exact this
  · intro ⟨y, h⟩
    refine ⟨fun k => match us[k.toNat]? with | some p => y p | none => 0, fun e0 he0 => ?_⟩
    obtain ⟨e, he, rfl⟩ := List.mem_map.mp he0
    unfold Eqn.at toEqn
    rw [lin_isF (isF_cF nd (hok e he)), List.map_map]
    have hh := h e he
    unfold psum at hh
    have : (e.1.map fun kv => kv.2 * y kv.1) = e.1.map ((fun p : Int × Int => p.2 * (match us[p.1.toNat]? with | some p => y p | none => 0)) ∘ fun d : Pl × Int => (((us.idxOf d.1 : Nat) : Int), d.2)) := by
      refine List.map_congr_left fun kv hkv => ?_
      have hi := List.idxOf_lt_length_of_mem ((hok e he).k kv hkv)
      show _ = kv.2 * _
      rw [Int.toNat_natCast, List.getElem?_eq_getElem hi, List.getElem_idxOf]
    rw [← this]
    exact hh
theorem has_solved (C : Ctx K mg) : Has P w K mg base "solved" ["world", "unknowns", "equations"] 8 (sp_solved P w) := by
  obtain ⟨fd, F⟩ := C.d_solved
  refine has_pure F C.g_solved sc_solved (fun _ _ _ _ _ _ us hl => match us, hl with | [_, _, _], _ => rfl) (fun a vs G h => by obtain ⟨⟨u, e, rfl, _⟩, _⟩ := h; rfl) (fun cdv A outer s H vs Q E hr a G sG hp k => ?_)
  have hu := hu_of hr
  refine ⟨_, (pss_cons (ps_set (i := 3) sc_solved.nd rfl (Or.inl rfl) (pe_callH (has_numbered C) hr (by decide) rfl (pa_cons (pv 1) (pa_cons (pv 2) pa_nil))))
  (pss_cons (ps_if (pt_cmpR op_eq (pv 0) (pe_gi C.i_WHOLE rfl) (nomark _))
    (pss_one (ps_ret pe_never))
    pss_nil)
  (pss_cons (ps_if (pt_cmpR op_eq (pv 0) (pe_gi C.i_FRACTIONS rfl) (nomark _))
    (pss_one (ps_ret pe_never))
    pss_nil)
  (pss_one (ps_ret (pe_callH (has_clock_solved C) hr (by decide) rfl (pa_cons (pv 0) (pa_cons (pv 1) (pa_cons (pv 3) pa_nil))))))))), ?_⟩
  obtain ⟨m, us, es⟩ := a
  obtain ⟨⟨u, e, rfl, hus, hes⟩, hm, nd, hn, hq, hok⟩ := hp
  dsimp only at hus hes hm nd hn hq hok
  refine q_asg (P := rL (rEq us.length) (es.map (toEqn us))) (ev_call2 (P := rL rPl us) (P1 := rL (rPE P w) es) (us, es) (ev_var rfl hus) (ev_var rfl hes) fun v1 v2 G' _ p1 p2 => ⟨⟨v1, v2, rfl, p1, p2⟩, nd, hn, hq, hok⟩) sG fun v1 G1 H1 e1 p1 => ?_
  refine q_skip (by rw [show false = decide (m = 0) from (decide_eq_false (by omega)).symm]; exact et_B (ev_eq (ev_vi rfl) ev_int)) e1.s fun G2 H2 e2 => ?_
  refine q_skip (by rw [show false = decide (m = 1) from (decide_eq_false (by omega)).symm]; exact et_B (ev_eq (ev_vi rfl) ev_int)) e2.s fun G3 H3 e3 => ?_
  have e13 := (e1.trans e2).trans e3
  refine s_ret (P := SolPost P w es.length (PSol m es)) (EvP.imp (ev_call3 (P1 := rL rPl us) (P2 := rL (rEq us.length) (es.map (toEqn us))) (⟨m, us, es.map (toEqn us)⟩ : CsA) (ev_vi rfl) (ev_var rfl (mn e13.g hus)) (ev_var rfl (mn (e2.trans e3).g p1)) fun v1 v2 v3 G' _ p1 p2 p3 => ⟨⟨v2, v3, by rw [show v1 = .int m from p1], p2, p3⟩, hm, nd, hn, by show (es.map _).length ≤ 900; rw [List.length_map]; exact hq, fun x hx => ?_⟩) fun v G' _ h => ?_) e3.s fun v G4 H4 e4 p4 => k v G4 H4 (e13.trans e4) p4
  · obtain ⟨e, he, rfl⟩ := List.mem_map.mp hx
    exact sml_cF (hok e he)
  · have h : SolPost P w (es.map (toEqn us)).length (∃ x, ∀ e ∈ es.map (toEqn us), e.at us.length m x) v G' := h
    rw [List.length_map] at h
    rw [show PSol m es = ∃ x, ∀ e ∈ es.map (toEqn us), e.at us.length m x from propext (sol_iff nd hok).symm]
    exact h
end
end Eld
set_option maxRecDepth 100000
set_option maxHeartbeats 1000000
/-! More rules: plain data compared, tuples and lists joined, sorted texts, frozen tuples, known dicts. -/
theorem L2.Room.un80 {k : Nat} {A : PySem.Around} (r : L2.Room k A) : A.units + 80 < PySem.cLine := by have := r.un; omega
namespace Eld
open PySem PySem.Spec PyProof.Rows L2
/-! ### plain data -/
section
variable {K : PySem.W.Frag} {σ : St} {G G1 H : Hp} {ta tb te tc : TE} {tt tu : TT} {PP P1 P2 P3 : V → Hp → Prop} {α β γ δ ε : Type}
theorem seqL {H H' : Hp} {a : Addr} {xs : List V} (e : Same H H') (h : SqL K H a xs) : SqL K H' a xs := by
  rcases h with (h | ⟨o, h⟩) | h
  · exact .inl (.inl (e _ _ h))
  · exact .inl (.inr ⟨o, e _ _ h⟩)
  · exact .inr h
mutual
theorem Dp.mn {G G' : Hp} (s : Same G G') : ∀ {v : V} {d : PyData}, Dp K G v d → Dp K G' v d
  | _, _, .non => .non
  | _, _, .bl b => .bl b
  | _, _, .int b => .int b
  | _, _, .str b => .str b
  | _, _, .lst h t => .lst (seqL s h) (DpAll.mn s t)
  | _, _, .tup h t => .tup (Same.seqT s h) (DpAll.mn s t)
theorem DpAll.mn {G G' : Hp} (s : Same G G') : ∀ {v : List V} {d : List PyData}, DpAll K G v d → DpAll K G' v d
  | _, _, .nil => .nil
  | _, _, .cons h t => .cons (Dp.mn s h) (DpAll.mn s t)
end
def rDp (K : PySem.W.Frag) (d : PyData) : V → Hp → Prop := fun v G => Dp K G v d
instance {d : PyData} : MnP (rDp K d) := ⟨fun s h => Dp.mn s h⟩
theorem dp_all {R : δ → V → Hp → Prop} {f : δ → PyData} (hf : ∀ d x, R d x G → Dp K G x (f d)) : ∀ {xs : List V} {ds : List δ}, All2 R G xs ds → DpAll K G xs (ds.map f)
  | _, _, .nil => .nil
  | _, _, .cons r t => .cons (hf _ _ r) (dp_all hf t)
theorem dp_L {R : δ → V → Hp → Prop} {f : δ → PyData} {ds : List δ} {v : V} (h : rL R ds v G) (hf : ∀ d x, R d x G → Dp K G x (f d)) : rDp K (.list (ds.map f)) v G := by
  obtain ⟨a, xs, rfl, ha, al⟩ := h
  exact .lst (SqL.of ha) (dp_all hf al)
theorem dp_T {R : δ → V → Hp → Prop} {f : δ → PyData} {ds : List δ} {v : V} (h : rT R ds v G) (hf : ∀ d x, R d x G → Dp K G x (f d)) : rDp K (.tuple (ds.map f)) v G := by
  obtain ⟨a, xs, rfl, ha, al⟩ := h
  exact .tup (SqT.of ha) (dp_all hf al)
theorem dp_2 {R : α → V → Hp → Prop} {S : β → V → Hp → Prop} {f : α → PyData} {g : β → PyData} {p : α × β} {v : V} (h : r2 R S p v G) (hf : ∀ x, R p.1 x G → Dp K G x (f p.1)) (hg : ∀ x, S p.2 x G → Dp K G x (g p.2)) : rDp K (.tuple [f p.1, g p.2]) v G := by
  obtain ⟨a, x, y, rfl, ha, r, s⟩ := h
  exact .tup (SqT.of ha) (.cons (hf _ r) (.cons (hg _ s) .nil))
theorem dp_s {x : Str} {v : V} (h : rS x v G) : Dp K G v (.str x) := by cases (show v = .str x from h); exact .str x
theorem dp_i {x : Int} {v : V} (h : rI x v G) : Dp K G v (.int x) := by cases (show v = .int x from h); exact .int x
mutual
/-- ints, texts, lists, tuples -/
def pl0 : PyData → Bool
  | .int _ => true
  | .str _ => true
  | .list xs => pl0s xs
  | .tuple xs => pl0s xs
  | _ => false
def pl0s : List PyData → Bool
  | [] => true
  | x :: xs => pl0 x && pl0s xs
end
mutual
theorem eqv_rfl : ∀ {d : PyData}, pl0 d = true → PyData.eqv d d = true
  | .int i, _ => by unfold PyData.eqv; simp
  | .str i, _ => by unfold PyData.eqv; simp
  | .list xs, h => by unfold PyData.eqv; exact eqvs_rfl (by unfold pl0 at h; exact h)
  | .tuple xs, h => by unfold PyData.eqv; exact eqvs_rfl (by unfold pl0 at h; exact h)
  | .none, h => by simp [pl0] at h
  | .bool _, h => by simp [pl0] at h
  | .dict _, h => by simp [pl0] at h
theorem eqvs_rfl : ∀ {d : List PyData}, pl0s d = true → PyData.eqvAll d d = true
  | [], _ => by unfold PyData.eqvAll; rfl
  | x :: xs, h => by
    unfold pl0s at h
    rw [Bool.and_eq_true] at h
    unfold PyData.eqvAll
    rw [eqv_rfl h.1, eqvs_rfl h.2]; rfl
end
mutual
theorem eqv_eq : ∀ {d e : PyData}, pl0 d = true → pl0 e = true → PyData.eqv d e = true → d = e
  | .int i, e, _, h, q => by
    cases e <;> simp [pl0, PyData.eqv] at h q
    rw [q]
  | .str i, e, _, h, q => by
    cases e <;> simp [pl0, PyData.eqv] at h q
    rw [q]
  | .list xs, e, h', h, q => by
    cases e <;> simp [pl0, PyData.eqv] at h q
    unfold pl0 at h'
    rw [eqvs_eq h' h q]
  | .tuple xs, e, h', h, q => by
    cases e <;> simp [pl0, PyData.eqv] at h q
    unfold pl0 at h'
    rw [eqvs_eq h' h q]
  | .none, _, h, _, _ => by simp [pl0] at h
  | .bool _, _, h, _, _ => by simp [pl0] at h
  | .dict _, _, h, _, _ => by simp [pl0] at h
theorem eqvs_eq : ∀ {d e : List PyData}, pl0s d = true → pl0s e = true → PyData.eqvAll d e = true → d = e
  | [], [], _, _, _ => rfl
  | [], y :: ys, _, _, q => by unfold PyData.eqvAll at q; cases q
  | x :: xs, [], _, _, q => by unfold PyData.eqvAll at q; cases q
  | x :: xs, y :: ys, h, h', q => by
    unfold pl0s at h h'
    unfold PyData.eqvAll at q
    rw [Bool.and_eq_true] at h h' q
    rw [eqv_eq h.1 h'.1 q.1, eqvs_eq h.2 h'.2 q.2]
end
theorem eqv_dec {d e : PyData} [Decidable (d = e)] (h : pl0 d = true) (h' : pl0 e = true) : PyData.eqv d e = decide (d = e) := by
  by_cases q : d = e
  · subst q; rw [eqv_rfl h]; simp
  · rw [decide_eq_false q]
    cases z : PyData.eqv d e with
    | false => rfl
    | true => exact (q (eqv_eq h h' z)).elim
theorem ev_eqD {d e : PyData} (ha : EvP ta σ G (rDp K d)) (hb : EvP tb σ G (rDp K e)) (sd : SeqAt.shaped d = true) (se : SeqAt.shaped e = true) : EvP (tOp (rEqD K) ta tb) σ G (rB (PyData.eqv d e)) :=
  ev_op ha (fun _ s => hb.mono s) fun x y G' _ p p' H s Q q => ⟨d, e, Dp.mn s p, Dp.mn s p', sd, se, q _ _ _ (Ext.refl s) rfl⟩
theorem ev_neD {d e : PyData} (ha : EvP ta σ G (rDp K d)) (hb : EvP tb σ G (rDp K e)) (sd : SeqAt.shaped d = true) (se : SeqAt.shaped e = true) : EvP (tOp (rNeD K) ta tb) σ G (rB (!PyData.eqv d e)) :=
  ev_op ha (fun _ s => hb.mono s) fun x y G' _ p p' H s Q q => ⟨d, e, Dp.mn s p, Dp.mn s p', sd, se, q _ _ _ (Ext.refl s) rfl⟩
theorem ev_dp {d : PyData} (h : EvP te σ G PP) (hf : ∀ v G', PP v G' → Dp K G' v d) : EvP te σ G (rDp K d) := h.imp fun v G' _ p => hf v G' p

/-! ### joined -/
theorem ev_catT {R : δ → V → Hp → Prop} [∀ d, MnP (R d)] {ds es : List δ} (ha : EvP ta σ G (rT R ds)) (hb : EvP tb σ G (rT R es)) (hz : ds.length + es.length ≤ sizeLine) : EvP (tOp (rCatA K) ta tb) σ G (rT R (ds ++ es)) :=
  ev_op ha (fun _ s => hb.mono s) fun x y G' _ p p' H s Q q => by
    obtain ⟨a, xs, rfl, hx, al⟩ := p
    obtain ⟨b, ys, rfl, hy, bl⟩ := p'
    refine ⟨a, b, xs, ys, rfl, rfl, SqT.of (s _ _ hx), SqT.of (s _ _ hy), by rw [al.length, bl.length]; exact hz, fun e => ?_, fun _ e => ?_, fun _ _ p hp => ?_⟩
    · subst e; cases al; exact q _ _ _ (Ext.refl s) ⟨b, ys, rfl, hy, bl⟩
    · subst e; cases bl; rw [List.append_nil] at q; exact q _ _ _ (Ext.refl s) ⟨a, xs, rfl, hx, al⟩
    · exact q _ _ _ (Ext.new s hp) ⟨p, _, rfl, upd_same, (al.mono (Same.new (s.free hp))).append (bl.mono (Same.new (s.free hp)))⟩
theorem ev_catL {R : δ → V → Hp → Prop} [∀ d, MnP (R d)] {ds es : List δ} (ha : EvP ta σ G (rL R ds)) (hb : EvP tb σ G (rL R es)) (hz : ds.length + es.length ≤ sizeLine) : EvP (tOp rCat ta tb) σ G (rL R (ds ++ es)) :=
  ev_op ha (fun _ s => hb.mono s) fun x y G' _ p p' H s Q q => by
    obtain ⟨a, xs, rfl, hx, al⟩ := p
    obtain ⟨b, ys, rfl, hy, bl⟩ := p'
    exact ⟨a, b, xs, ys, rfl, rfl, s _ _ hx, s _ _ hy, by rw [al.length, bl.length]; exact hz, fun p hp => q _ _ _ (Ext.new s hp) ⟨p, _, rfl, upd_same, (al.mono (Same.new (s.free hp))).append (bl.mono (Same.new (s.free hp)))⟩⟩
/-- list(x) -/
theorem ev_listT {R : δ → V → Hp → Prop} [∀ d, MnP (R d)] {ds : List δ} (ha : EvP ta σ G (rT R ds)) : EvP (tCB (fun xs H Q => ∃ p ys, xs = [V.ref p] ∧ (SqL K H p ys ∨ SqT K H p ys) ∧ ∀ l, H l = none → Q (.ref l) (upd H l (.lst ys))) (tCons ta tNil)) σ G (rL R ds) :=
  ev_cb1 ha fun v G' _ p H s Q q => by
    obtain ⟨a, xs, rfl, h, al⟩ := p
    exact ⟨a, xs, rfl, .inr (SqT.of (s _ _ h)), fun l hl => q _ _ _ (Ext.new s hl) ⟨l, xs, rfl, upd_same, al.mono (Same.new (s.free hl))⟩⟩
theorem en_listT {R : δ → V → Hp → Prop} [∀ d, MnP (R d)] {ds : List δ} (ha : EvP ta σ G (rT R ds)) : EvN (tCB (fun xs H Q => ∃ p ys, xs = [V.ref p] ∧ (SqL K H p ys ∨ SqT K H p ys) ∧ ∀ l, H l = none → Q (.ref l) (upd H l (.lst ys))) (tCons ta tNil)) σ G (oL R ds) := fun H s Q q =>
  ea_1 ha H s _ fun vs G' H' e p => by
    obtain ⟨v, _, rfl, ⟨a, xs, rfl, h, al⟩, rfl⟩ := p
    exact ⟨a, xs, rfl, .inr (SqT.of (e.s _ _ h)), fun l hl => q l _ G' _ (e.trans (Ext.newH e.s hl)) (e.h.free hl) (e.s.free hl) upd_same ⟨xs, rfl, al⟩⟩
theorem ev_listL {R : δ → V → Hp → Prop} [∀ d, MnP (R d)] {ds : List δ} (ha : EvP ta σ G (rL R ds)) : EvP (tCB (fun xs H Q => ∃ p ys, xs = [V.ref p] ∧ (SqL K H p ys ∨ SqT K H p ys) ∧ ∀ l, H l = none → Q (.ref l) (upd H l (.lst ys))) (tCons ta tNil)) σ G (rL R ds) :=
  ev_cb1 ha fun v G' _ p H s Q q => by
    obtain ⟨a, xs, rfl, h, al⟩ := p
    exact ⟨a, xs, rfl, .inl (SqL.of (s _ _ h)), fun l hl => q _ _ _ (Ext.new s hl) ⟨l, xs, rfl, upd_same, al.mono (Same.new (s.free hl))⟩⟩
theorem en_listL {R : δ → V → Hp → Prop} [∀ d, MnP (R d)] {ds : List δ} (ha : EvP ta σ G (rL R ds)) : EvN (tCB (fun xs H Q => ∃ p ys, xs = [V.ref p] ∧ (SqL K H p ys ∨ SqT K H p ys) ∧ ∀ l, H l = none → Q (.ref l) (upd H l (.lst ys))) (tCons ta tNil)) σ G (oL R ds) := fun H s Q q =>
  ea_1 ha H s _ fun vs G' H' e p => by
    obtain ⟨v, _, rfl, ⟨a, xs, rfl, h, al⟩, rfl⟩ := p
    exact ⟨a, xs, rfl, .inl (SqL.of (e.s _ _ h)), fun l hl => q l _ G' _ (e.trans (Ext.newH e.s hl)) (e.h.free hl) (e.s.free hl) upd_same ⟨xs, rfl, al⟩⟩
/-- tuple(xs) -/
theorem ev_tupL {R : δ → V → Hp → Prop} [∀ d, MnP (R d)] {ds : List δ} (ha : EvP ta σ G (rL R ds)) : EvP (tCB (fun xs H Q => ∃ p ys, xs = [V.ref p] ∧ ((SqL K H p ys ∧ ∀ l, H l = none → Q (.ref l) (upd H l (.tup ys))) ∨ (SqT K H p ys ∧ Q (.ref p) H))) (tCons ta tNil)) σ G (rT R ds) :=
  ev_cb1 ha fun v G' _ p H s Q q => by
    obtain ⟨a, xs, rfl, h, al⟩ := p
    exact ⟨a, xs, rfl, .inl ⟨SqL.of (s _ _ h), fun l hl => q _ _ _ (Ext.new s hl) ⟨l, xs, rfl, upd_same, al.mono (Same.new (s.free hl))⟩⟩⟩
/-- list(text) -/
theorem en_listS {x : Str} (ha : EvP ta σ G (rS x)) (hl : x.length ≤ sizeLine) : EvN (tCB (fun xs H Q => ∃ x : Str, xs = [V.str x] ∧ x.length ≤ sizeLine ∧ ∀ p, H p = none → Q (.ref p) (upd H p (.lst ((Eld.signs x).map V.str)))) (tCons ta tNil)) σ G (oL rS (signs x)) := fun H s Q q =>
  ea_1 ha H s _ fun vs G' H' e p => by
    obtain ⟨v, _, rfl, p, rfl⟩ := p
    cases (show v = .str x from p)
    exact ⟨x, rfl, hl, fun l hl => q l _ G' _ (e.trans (Ext.newH e.s hl)) (e.h.free hl) (e.s.free hl) upd_same ⟨_, rfl, all2_strs.mpr rfl⟩⟩
/-- text[:n] -/
theorem ev_slS {x : Str} {n : Int} (ha : EvP ta σ G (rS x)) (hb : EvP tb σ G (rI n)) (hl : x.length ≤ sizeLine) : EvP (tSl rSlS ta tNoPart (tPart tb)) σ G (rS (cutS x none (some n))) := fun H s Q q =>
  ha H s _ fun v G1 H1 e1 p1 => hb.mono e1.g H1 e1.s _ fun u G2 H2 e2 p2 => by
    cases (show v = .str x from p1)
    cases (show u = .int n from p2)
    exact ⟨n, rfl, x, rfl, hl, q _ _ _ (e1.trans e2) rfl⟩
/-- sorted(texts) -/
theorem ev_sortS {ds : List Str} (ha : EvP ta σ G (rL rS ds)) (hl : ds.length < 64) : EvP (tCB (rSortedS K) (tCons ta tNil)) σ G (fun v G => ∃ ys : List Str, ys.Perm ds ∧ sortedS ys = true ∧ rL rS ys v G) :=
  ev_cb1 ha fun v G' _ p H s Q q => by
    obtain ⟨a, xs, rfl, h, al⟩ := p
    rw [all2_strs] at al
    subst al
    exact ⟨a, ds, rfl, SqL.of (s _ _ h), hl, fun ys p hp hs hn => q _ _ _ (Ext.new s hn) ⟨ys, hp, hs, p, _, rfl, upd_same, all2_strs.mpr rfl⟩⟩
/-- texts that a joins to x -/
def rJ (a x : Str) : V → Hp → Prop := fun v G => ∃ ys : List Str, rL rS ys v G ∧ (ys.map (·.length)).sum + ys.length * a.length ≤ 16777216 ∧ Txt.join a ys = x
instance {a x : Str} : MnP (rJ a x) := ⟨fun s ⟨ys, h, h2⟩ => ⟨ys, mn s h, h2⟩⟩
/-- sep.join(texts) -/
theorem ev_join {a x : Str} (ha : EvP ta σ G (rS a)) (hb : EvP tb σ G (rJ a x)) :
    EvP (tM1 (fun x xs H Q => ∃ a p, ∃ ys : List Str, x = .str a ∧ xs = [.ref p] ∧ (SqL K H p (ys.map V.str) ∨ SqT K H p (ys.map V.str)) ∧ (ys.map (·.length)).sum + ys.length * a.length ≤ 16777216 ∧ Q (.str (Txt.join a ys)) H) ta tb) σ G (rS x) := fun H s Q q =>
  ha H s _ fun v G1 H1 e1 p1 => by
    cases (show v = .str a from p1)
    refine ⟨⟨a, rfl⟩, ?_⟩
    refine hb.mono e1.g H1 e1.s _ fun u G2 H2 e2 p2 => ?_
    obtain ⟨ys, ⟨p, xs, rfl, hp, al⟩, hz, rfl⟩ := p2
    rw [all2_strs] at al
    subst al
    exact ⟨a, p, ys, rfl, rfl, .inl (SqL.of (e2.s _ _ hp)), hz, q _ _ _ (e1.trans e2) rfl⟩
/-- xs.index(x) -/
theorem ev_idxL {ds : List Str} {x : Str} {j : Nat} (ha : EvP ta σ G (rL rS ds)) (hb : EvP tb σ G (rS x)) (hj : ds[j]? = some x) (hn : ∀ m, m < j → ds[m]? ≠ some x) : EvP (tBM K "list" (rIndex K) ta (tCons tb tNil)) σ G (rI (j : Nat)) := fun H s Q q =>
  ha H s _ fun v G1 H1 e1 p1 => by
    obtain ⟨a, xs, rfl, h, al⟩ := p1
    rw [all2_strs] at al
    subst al
    refine ⟨Or.inl ⟨rfl, _, SqL.of (e1.s _ _ h)⟩, ?_⟩
    refine ea_1 (hb.mono e1.g) H1 e1.s _ fun vs G2 H2 e2 pp => ?_
    obtain ⟨u, _, rfl, p2, rfl⟩ := pp
    cases (show u = .str x from p2)
    refine ⟨a, ds.map V.str, .str x, j, .str x, rfl, rfl, SqL.of (e2.s _ _ (e2.g _ _ h)), rfl, ?_, ?_, ?_, fun m z hm hz => ?_, q _ _ _ (e1.trans e2) rfl⟩
    · rw [List.all_eq_true]
      intro y hy
      obtain ⟨z, _, rfl⟩ := List.mem_map.mp hy
      rfl
    · rw [List.getElem?_map, hj]; rfl
    · show (x == x) = true
      simp
    · rw [List.getElem?_map] at hz
      cases hd : ds[m]? with
      | none => rw [hd] at hz; cases hz
      | some y =>
        rw [hd] at hz
        cases hz
        show (y == x) = false
        rw [beq_eq_false_iff_ne]
        intro e
        exact hn m hm (by rw [hd, e])
/-- str(n) -/
theorem ev_strI {n : Int} (ha : EvP ta σ G (rI n)) (hz : n.natAbs.log2 < 1920) : EvP (tCB (fun xs H Q => ∃ i, xs = [V.int i] ∧ i.natAbs.log2 < 1920 ∧ Q (.str (toString i)) H) (tCons ta tNil)) σ G (rS (toString n)) :=
  ev_cb1 ha fun v G' _ p H s Q q => by
    cases (show v = .int n from p)
    exact ⟨n, rfl, hz, q _ _ _ (Ext.refl s) rfl⟩
/-- max(ns) -/
theorem ev_maxI {ns : List Int} {m : Int} (ha : EvP ta σ G (rL rI ns)) (hm : m ∈ ns) (hl : ∀ y ∈ ns, y ≤ m) : EvP (tCB (rMax K) (tCons ta tNil)) σ G (rI m) :=
  ev_cb1 ha fun v G' _ p H s Q q => by
    obtain ⟨a, xs, rfl, h, al⟩ := p
    rw [all2_ints] at al
    subst al
    refine ⟨a, ns, rfl, SqL.of (s _ _ h), List.length_pos_of_mem hm, fun m' h1 h2 => ?_⟩
    have : m' = m := Int.le_antisymm (hl m' h1) (h2 m hm)
    subst this
    exact q _ _ _ (Ext.refl s) rfl
/-! ### a frozen tuple of one thing -/
def rTZ (R : V → Hp → Prop) : V → Hp → Prop := fun v G => ∃ a ob p, v = .ref a ∧ G a = some (.frz ob (.tup [.ref p])) ∧ ob.dict = none ∧ R (.ref p) G
instance {R : V → Hp → Prop} [MnP R] : MnP (rTZ R) := ⟨fun s ⟨a, ob, p, e, h, h2, h3⟩ => ⟨a, ob, p, e, s _ _ h, h2, mn s h3⟩⟩
theorem sqt_frz {a : Addr} {ob : Obj} {xs : List V} (h : H a = some (.frz ob (.tup xs))) : SqT K H a xs := .inl (.inr ⟨ob, h⟩)
theorem ev_isiZ {R : V → Hp → Prop} [MnP R] {c : String} {b : Bool} (h : EvP te σ G (rTZ R)) (hk : kitB "tuple" c = some b) : EvP (tCB (rIsi K) (tCons te (tCons (tC (.ty c)) tNil))) σ G (rB b) :=
  ev_isi h (fun v G' p H s => by obtain ⟨a, ob, q, rfl, ha, _⟩ := p; exact .fTuple (s _ _ ha)) (kit_ty hk)
theorem ev_lenZ {R : V → Hp → Prop} [MnP R] (h : EvP te σ G (rTZ R)) : EvP (tCB (fun xs H Q => ∃ p ys, xs = [.ref p] ∧ (SqL K H p ys ∨ SqT K H p ys) ∧ Q (.int ys.length) H) (tCons te tNil)) σ G (rI 1) :=
  ev_cb1 h fun v G' _ p H s Q q => by
    obtain ⟨a, ob, b, rfl, h, _⟩ := p
    exact ⟨a, _, rfl, .inr (sqt_frz (s _ _ h)), q _ _ _ (Ext.refl s) rfl⟩
theorem ei_tupZ {R : δ → V → Hp → Prop} {d : δ} [∀ d, MnP (R d)] (h : EvP te σ G (rTZ (R d))) : EvI (iTup K te) σ G R [d] := fun H s Rr k =>
  h H s _ fun v G1 H1 e p => by
    obtain ⟨a, ob, b, rfl, hx, _, rb⟩ := p
    refine ⟨a, rfl, ⟨_, sqt_frz (e.s _ _ hx)⟩, k _ G1 H1 e ⟨fun i H hi s => ?_, fun H s => ?_, fun i d' G' H' x H'' hd s s' y => ?_⟩⟩
    · have : i = 0 := by simpa using hi
      subst this
      exact ⟨_, _, sqt_frz (s _ _ hx), rfl⟩
    · exact ⟨_, sqt_frz (s _ _ hx), Nat.le_refl 1⟩
    · obtain ⟨rfl, y⟩ := y
      have hi : i = 0 := by
        have := (List.getElem?_eq_some_iff.mp hd).1
        simpa using this
      subst hi
      cases hd
      have := y _ (sqt_frz ((s.trans s') _ _ hx))
      cases this
      exact ⟨G', Ext.refl s', mn s rb⟩
/-! ### a known dict of flat things -/
def rKd (kvs : List (Key × V)) : V → Hp → Prop := fun v G => ∃ a, v = .ref a ∧ G a = some (.dK kvs)
instance {kvs : List (Key × V)} : MnP (rKd kvs) := ⟨fun s ⟨a, e, h⟩ => ⟨a, e, s _ _ h⟩⟩
theorem ev_kin {kvs : List (Key × V)} {k : Key} (hk : EvP ta σ G (rV (kV k))) (hd : EvP tb σ G (rKd kvs)) : EvP (tDIn ta tb) σ G (rB (valV kvs k).isSome) := fun H s Q q =>
  hk H s _ fun y G1 H1 e1 p1 => hd.mono e1.g H1 e1.s _ fun x G2 H2 e2 p2 => by
    obtain ⟨a, rfl, ha⟩ := p2
    cases (show y = kV k from p1)
    exact ⟨a, _, rfl, DGet.k (k := k) (e2.s _ _ ha), q _ G2 H2 (e1.trans e2) rfl⟩
theorem ev_knotin {kvs : List (Key × V)} {k : Key} (hk : EvP ta σ G (rV (kV k))) (hd : EvP tb σ G (rKd kvs)) : EvP (tDNotIn ta tb) σ G (rB (!(valV kvs k).isSome)) := fun H s Q q =>
  hk H s _ fun y G1 H1 e1 p1 => hd.mono e1.g H1 e1.s _ fun x G2 H2 e2 p2 => by
    obtain ⟨a, rfl, ha⟩ := p2
    cases (show y = kV k from p1)
    exact ⟨a, _, rfl, DGet.k (k := k) (e2.s _ _ ha), q _ G2 H2 (e1.trans e2) rfl⟩
theorem ev_kget {kvs : List (Key × V)} {k : Key} {v : V} (hd : EvP ta σ G (rKd kvs)) (hk : EvP tb σ G (rV (kV k))) (hv : valV kvs k = some v) : EvP (tDGet ta tb) σ G (rV v) := fun H s Q q =>
  hd H s _ fun x G1 H1 e1 p1 => hk.mono e1.g H1 e1.s _ fun y G2 H2 e2 p2 => by
    obtain ⟨a, rfl, ha⟩ := p1
    cases (show y = kV k from p2)
    exact ⟨a, v, rfl, hv ▸ DGet.k (k := k) (e2.s _ _ (e2.g _ _ ha)), q _ G2 H2 (e1.trans e2) rfl⟩
end
end Eld
set_option maxRecDepth 100000
set_option maxHeartbeats 1000000
/-! Books: data, checks, the maker. -/
namespace Eld
open PySem PySem.Spec PyProof.Rows L2
/-- a comer; a letter; letters -/
def dig (i : Nat) : Str := ⟨#[48 + i]⟩
def let1 (i : Nat) : Str := ⟨#[97 + i]⟩
def lets (ls : List Nat) : Str := ⟨(ls.map fun i => 97 + i).toArray⟩
theorem dig_inj {i j : Nat} (h : dig i = dig j) : i = j := by
  unfold dig at h
  injection h with h
  injection h with h
  injection h with h _
  omega
theorem let1_inj {i j : Nat} (h : let1 i = let1 j) : i = j := by
  unfold let1 at h
  injection h with h
  injection h with h
  injection h with h _
  omega
theorem signs_lets (ls : List Nat) : signs (lets ls) = ls.map let1 := by
  unfold signs lets
  simp only [List.map_map]
  rfl
theorem lets_len (ls : List Nat) : (lets ls).length = ls.length := by
  show (ls.map fun i => 97 + i).toArray.size = _
  rw [List.size_toArray, List.length_map]
/-- a demand over one table in a world -/
structure Dm where
  m : Int
  lab : Str
  s : Nat
  T : List (Int × List Nat)
  r : Int
structure Dm.Ok (d : Dm) : Prop where
  m : 2 ≤ d.m ∧ d.m ≤ 5
  lab : OfS d.lab smallS
  s : d.s = 1 ∨ d.s = 2
  T0 : 1 ≤ d.T.length
  Tl : d.T.length ≤ 8
  t : ∀ t ∈ d.T, t.1 ≠ 0 ∧ -99 ≤ t.1 ∧ t.1 ≤ 99 ∧ t.2.length = d.s ∧ t.2.Nodup ∧ ∀ i ∈ t.2, i < 4
  r : -999 ≤ d.r ∧ d.r ≤ 999
abbrev Term := Int × Str × Str
abbrev rTm : Term → V → Hp → Prop := r3 rI rS rS
def Dm.tm (d : Dm) (t : Int × List Nat) : Term := (t.1, d.lab, lets t.2)
def Dm.terms (d : Dm) : List Term := d.T.map d.tm
abbrev rDm (d : Dm) : V → Hp → Prop := r2 (rT rTm) rI (d.terms, d.r)
abbrev rTb : Str × Int → V → Hp → Prop := r2 rS rI
def Dm.tb (d : Dm) : Str × Int := (d.lab, (d.s : Int))
section
variable {P : Program} {w : World} {K : PySem.W.Frag} {mg : Str → Option Value} {base : Heap}
theorem EvP.tr {te : TE} {σ : St} {G : Hp} {b c : Bool} (h : EvP te σ G (rB b)) (e : b = c) : EvP te σ G (rB c) := e ▸ h
abbrev N_is_table : List Str := ["thing"]
theorem sc_is_table : FnScope N_is_table ["thing"] (defScope s_is_table) := ⟨rfl, rfl, rfl, by decide +kernel, rfl, by decide +kernel, by decide +kernel⟩
abbrev sp_is_table : Sp := pSp (fun (a : Str × Int) vs G => (∃ v, vs = [v] ∧ rTb a v G) ∧ OfS a.1 smallS ∧ 0 ≤ a.2 ∧ a.2 ≤ 3) (fun _ => rB true)
theorem has_is_table (C : Ctx K mg) : Has P w K mg base "is_table" ["thing"] 3 sp_is_table := by
  obtain ⟨fd, F⟩ := C.d_is_table
  refine has_pure F C.g_is_table sc_is_table (fun _ _ _ _ _ _ us hl => match us, hl with | [_], _ => rfl) (fun a vs G h => by obtain ⟨⟨v, rfl, _⟩, _⟩ := h; rfl) (fun cdv A outer s H vs Q E hr a G sG hp k => ?_)
  have hu := hu_of hr
  refine ⟨_, (pss_one (ps_ret (pe_and (pe_callH (has_is_pair C) hr (by decide) rfl (pa_cons (pv 0) pa_nil)) (pe_and (pe_callH (has_is_label C) hr (by decide) rfl (pa_cons (pe_ix ix_tup (pv 0) pe_int (fun _ _ => rfl)) pa_nil)) (pe_one (pe_callH (has_is_within C) hr (by decide) rfl (pa_cons (pe_ix ix_tup (pv 0) pe_int (fun _ _ => rfl)) (pa_cons pe_int (pa_cons (pe_gi C.i_MOST_SIZE_books rfl) pa_nil))))))))), ?_⟩
  obtain ⟨⟨v, rfl, hv⟩, ho, h0, h1⟩ := hp
  have ht : EvP (tVar 0) (start N_is_table [v]) G (rTb a) := ev_var rfl hv
  refine s_ret (P := rB true) (EvP.tr (b := true && (true && true)) (ev_andV (EvP.tr (ev_call1 (P := rTb a) (post := fun n : Nat => rB (decide ((n : Int) = 2))) 2 ht fun v G' _ p => ⟨v, rfl, p.tn⟩) rfl) fun _ => ev_andV (ev_call1 (P := rS a.1) (post := fun _ => rB true) a.1 (ev_fst ht) fun v G' _ p => ⟨by rw [show v = .str a.1 from p], ho⟩) fun _ =>
    EvP.tr (ev_call3 (P := rI a.2) (P1 := rI 0) (P2 := rI 3) (post := fun a : Int × Int × Int => rB (decide (a.2.1 ≤ a.1) && decide (a.1 ≤ a.2.2))) (a.2, 0, 3) (ev_snd ht) ev_int ev_int fun v u z G' _ p p' p'' => by rw [show v = .int _ from p, show u = .int _ from p', show z = .int _ from p'']) (by rw [decide_eq_true h0, decide_eq_true h1]; rfl)) rfl) sG fun v G' H' e p => k v G' H' e p
theorem ofS_ok {x z : Str} (h : OfS x z) (hz : PyData.strOk z = true) : PyData.strOk x = true := by
  unfold PyData.strOk at hz ⊢
  rw [← Array.all_toList, List.all_eq_true] at hz ⊢
  exact fun c hc => hz c (h.all c hc)
theorem depth_strs (xs : List Str) : PyData.depthAll (xs.map PyData.str) = 0 := by
  induction xs with
  | nil => rfl
  | cons x xs ih => rw [List.map_cons]; unfold PyData.depthAll; rw [ih]; rfl
theorem shaped_strs {xs : List Str} (h : ∀ x ∈ xs, PyData.strOk x = true) : SeqAt.shaped (.list (xs.map PyData.str)) = true := by
  unfold SeqAt.shaped
  rw [Bool.and_eq_true]
  refine ⟨?_, decide_eq_true ?_⟩
  · unfold PyData.canLay0
    rw [canLayAll_strs', List.all_eq_true]
    exact h
  · unfold PyData.depth
    rw [depth_strs]
    decide
abbrev N_are_tables : List Str := ["thing", "labels", "one"]
theorem sc_are_tables : FnScope N_are_tables ["thing"] (defScope s_are_tables) := ⟨rfl, rfl, rfl, by decide +kernel, rfl, by decide +kernel, by decide +kernel⟩
abbrev sp_are_tables : Sp := pSp (fun (a : Str × Int) vs G => (∃ v, vs = [v] ∧ rTZ (rTb a) v G) ∧ OfS a.1 smallS ∧ 0 ≤ a.2 ∧ a.2 ≤ 3) (fun _ => rB true)
theorem eqv_strs (xs : List Str) : PyData.eqv (.list (xs.map PyData.str)) (.list (xs.map PyData.str)) = true := by
  refine eqv_rfl ?_
  unfold pl0
  induction xs with
  | nil => rfl
  | cons x xs ih => rw [List.map_cons]; unfold pl0s; rw [ih]; rfl
theorem has_are_tables (C : Ctx K mg) : Has P w K mg base "are_tables" ["thing"] 4 sp_are_tables := by
  obtain ⟨fd, F⟩ := C.d_are_tables
  refine has_pure F C.g_are_tables sc_are_tables (fun _ _ _ _ _ _ us hl => match us, hl with | [_], _ => rfl) (fun a vs G h => by obtain ⟨⟨v, rfl, _⟩, _⟩ := h; rfl) (fun cdv A outer s H vs Q E hr a G sG hp k => ?_)
  have hu := hu_of hr
  refine ⟨_, (pss_cons (ps_if (PW.pt (pw_or (pt_not (pt_val (pe_callB call_isi (by rfl) C.f_isinstance (by decide +kernel) (pa_cons (pv 0) (pa_cons (pe_bltn (v := .ty "tuple") rfl C.f_tuple (by decide +kernel) rfl) pa_nil))))) (pw_or (pt_not (pt_chain op_le op_le pe_int (pe_callB call_len_seq (by rfl) C.f_len (by decide +kernel) (pa_cons (pv 0) pa_nil)) (pe_gi C.i_MOST_TABLES rfl))) (pw_or1 (pt_not (pt_val (pe_callB (cr_all rfl) (by rfl) C.f_all (by decide +kernel) (pa_cons (pe_lc (own := [("one", 2)]) (by rfl) sc_are_tables.nd (pi_tup (pv 0)) (blkOk_by (own := [("one", 2)]) (N := N_are_tables) (sc := defScope s_are_tables) (by decide +kernel)) (fun _ _ _ _ _ => (pg_name (i := 2) sc_are_tables.nd rfl (Or.inl rfl))) (fun _ _ _ _ _ => pts_nil) (fun _ _ _ _ _ => (pe_callH (has_is_table C) hr (by decide) rfl (pa_cons (pv 2) pa_nil)))) pa_nil))))))))
    (pss_one (ps_ret pe_bl))
    pss_nil)
  (pss_cons (ps_setLc (i := 1) (own := [("one", 2)]) (by rfl) sc_are_tables.nd rfl rfl (sw_true rfl rfl rfl (by decide +kernel)) (pi_tup (pv 0)) (blkOk_by (own := [("one", 2)]) (N := N_are_tables) (sc := defScope s_are_tables) (by decide +kernel)) (fun _ _ _ _ _ => (pg_name (i := 2) sc_are_tables.nd rfl (Or.inl rfl))) (fun _ _ _ _ _ => pts_nil) (fun _ _ _ _ _ => (pe_ix (ix_tupK (K := K) rfl) (pv 2) pe_int (fun _ _ => rfl))))
  (pss_cons (ps_if (PW.pt (pw_or (pt_cmpR (op_neD hr.units) (pv 1) (pe_callB cr_sortedS (by rfl) C.f_sorted (by decide +kernel) (pa_cons (pv 1) pa_nil)) (nomark _)) (pw_or1 (pt_not (pt_val (pe_callH (has_are_unlike C) hr (by decide) rfl (pa_cons (pv 1) pa_nil)))))))
    (pss_one (ps_ret pe_bl))
    pss_nil)
  (pss_one (ps_ret (pe_cmpR op_le (pe_callB call_len_seq (by rfl) C.f_len (by decide +kernel) (pa_cons (pe_lc (own := [("one", 2)]) (by rfl) sc_are_tables.nd (pi_tup (pv 0)) (blkOk_by (own := [("one", 2)]) (N := N_are_tables) (sc := defScope s_are_tables) (by decide +kernel)) (fun _ _ _ _ _ => (pg_name (i := 2) sc_are_tables.nd rfl (Or.inl rfl))) (fun _ _ _ _ _ => (pts_one (pt_cmpR op_eq (pe_ix (ix_tupK (K := K) rfl) (pv 2) pe_int (fun _ _ => rfl)) (pe_gi C.i_MOST_SIZE_books rfl) (nomark _)))) (fun _ _ _ _ _ => (pv 2))) pa_nil)) pe_int (nomark _))))))), ?_⟩
  obtain ⟨⟨v, rfl, hv⟩, ho, h0, h1⟩ := hp
  have hz1 : ([a] : List (Str × Int)).length < sizeLine := small1000 (by show 1 ≤ 1000; omega)
  refine q_skip (EvT.to (et_or (et_not (et_B (ev_isiZ (ev_var rfl hv) (b := true) (by decide +kernel)))) fun _ => et_or (et_not (et_B (ev_le_le ev_int (ev_lenZ (ev_var rfl hv)) ev_int))) fun _ => et_not (et_B (ev_all (bs := [a].map fun _ => true) (ev_lcm (R := rTb) (S := rB) (fun _ => true) (ei_tupZ (ev_var rfl hv)) hz1 fun d v G' hd s r => ?_)))) ?_) sG fun G1 H1 e1 => ?_
  · obtain rfl := List.mem_singleton.mp hd
    exact ⟨_, eg_name, rfl, ev_call1 (P := rTb d) (post := fun _ => rB true) d (ev_var rfl r) fun v G' _ p => ⟨⟨v, rfl, p⟩, ho, h0, h1⟩⟩
  · rfl
  refine q_asg (P := rL rS [a.1]) (ev_lcm (R := rTb) (S := rS) (fun d => d.1) (ei_tupZ (d := a) (ev_var rfl (mn e1.g hv))) hz1 fun d v G' hd s r => ⟨_, eg_name, rfl, ev_fst (ev_var rfl r)⟩) e1.s fun v2 G2 H2 e2 p2 => ?_
  refine q_skip (EvT.to (b := false || false) (et_or (EvT.to (et_B (ev_neD (d := .list ([a.1].map .str)) (e := .list ([a.1].map .str)) (ev_dp (PP := rL rS [a.1]) (ev_var rfl p2) fun v G' p => dp_L p fun d x => dp_s) (ev_dp (ev_sortS (ev_var rfl p2) (by show 1 < 64; omega)) fun v G' ⟨ys, hp, _, hy⟩ => ?_) (shaped_strs fun x hx => by rw [List.mem_singleton.mp hx]; exact ofS_ok ho (by decide +kernel)) (shaped_strs fun x hx => by rw [List.mem_singleton.mp hx]; exact ofS_ok ho (by decide +kernel)))) ?_) fun _ => et_not (et_B (ev_call1 (P := rL rS [a.1]) (post := fun _ => rB true) [a.1] (ev_var rfl p2) fun v G' _ p => ⟨v, rfl, .inl p, by simp, by show 1 ≤ 1000; omega⟩))) rfl) e2.s fun G3 H3 e3 => ?_
  · have := List.perm_singleton.mp hp
    subst this
    exact dp_L hy fun d x => dp_s
  · rw [eqv_strs]; rfl
  have e03 := (e1.trans e2).trans e3
  refine s_ret (P := rB true) (EvP.tr (ev_le (ev_lenL (R := rTb) (ev_lc (R := rTb) (S := rTb) (fun d => decide (d.2 = 3)) id (ei_tupZ (d := a) (ev_var rfl (mn e03.g hv))) hz1 fun d v G' hd s r => ⟨_, eg_name, rfl, et_B (ev_eq (ev_snd (ev_var rfl r)) ev_int), fun _ => ev_var rfl r⟩)) ev_int) ?_) e3.s fun v G' H' e p => k v G' H' (e03.trans e) p
  refine decide_eq_true ?_
  rw [List.length_map]
  have := List.length_filter_le (fun d : Str × Int => decide (d.2 = 3)) [a]
  have h2 : ([a] : List (Str × Int)).length = 1 := rfl
  omega
end
end Eld
set_option maxRecDepth 100000
set_option maxHeartbeats 1000000
/-! Books: terms, demands, the maker; parties. -/
namespace Eld
open PySem PySem.Spec PyProof.Rows L2
section
variable {P : Program} {w : World} {K : PySem.W.Frag} {mg : Str → Option Value} {base : Heap}
def Dm.kvs (d : Dm) : List (Key × V) := [(.inr d.lab, .int d.s)]
abbrev N_is_term : List Str := ["known", "thing", "letter"]
theorem sc_is_term : FnScope N_is_term ["known", "thing"] (defScope s_is_term) := ⟨rfl, rfl, rfl, by decide +kernel, rfl, by decide +kernel, by decide +kernel⟩
abbrev sp_is_term : Sp := pSp (fun (a : Dm × (Int × List Nat)) vs G => (∃ u v, vs = [u, v] ∧ rKd a.1.kvs u G ∧ rTm (a.1.tm a.2) v G) ∧ a.1.Ok ∧ a.2 ∈ a.1.T) (fun _ => rB true)
theorem signs_nd {ls : List Nat} (h : ls.Nodup) : (signs (lets ls)).Nodup := by
  rw [signs_lets]
  rw [List.nodup_iff_pairwise_ne] at h ⊢
  exact List.Pairwise.map _ (fun a b h e => h (let1_inj e)) h
theorem has_is_term (C : Ctx K mg) : Has P w K mg base "is_term" ["known", "thing"] 3 sp_is_term := by
  obtain ⟨fd, F⟩ := C.d_is_term
  refine has_pure F C.g_is_term sc_is_term (fun _ _ _ _ _ _ us hl => match us, hl with | [_, _], _ => rfl) (fun a vs G h => by obtain ⟨⟨u, v, rfl, _⟩, _⟩ := h; rfl) (fun cdv A outer s H vs Q E hr a G sG hp k => ?_)
  have hu := hu_of hr
  refine ⟨_, (pss_cons (ps_if (PW.pt (pw_or (pt_not (pt_val (pe_callB call_isi (by rfl) C.f_isinstance (by decide +kernel) (pa_cons (pv 1) (pa_cons (pe_bltn (v := .ty "tuple") rfl C.f_tuple (by decide +kernel) rfl) pa_nil))))) (pw_or (pt_cmpR op_ne (pe_callB call_len_seq (by rfl) C.f_len (by decide +kernel) (pa_cons (pv 1) pa_nil)) pe_int (nomark _)) (pw_or1 (pt_not (pt_val (pe_callH (has_is_within C) hr (by decide) rfl (pa_cons (pe_ix ix_tup (pv 1) pe_int (fun _ _ => rfl)) (pa_cons (pe_un un_neg (pe_gi C.i_MOST_FACTOR rfl)) (pa_cons (pe_gi C.i_MOST_FACTOR rfl) pa_nil))))))))))
    (pss_one (ps_ret pe_bl))
    pss_nil)
  (pss_cons (ps_if (PW.pt (pw_or (pt_cmpR op_eq (pe_ix ix_tup (pv 1) pe_int (fun _ _ => rfl)) pe_int (nomark _)) (pw_or (pt_not (pt_val (pe_callB call_isi (by rfl) C.f_isinstance (by decide +kernel) (pa_cons (pe_ix ix_tup (pv 1) pe_int (fun _ _ => rfl)) (pa_cons (pe_bltn (v := .ty "str") rfl C.f_str (by decide +kernel) rfl) pa_nil))))) (pw_or (pt_cmp (pc_dnotin hu (pe_ix ix_tup (pv 1) pe_int (fun _ _ => rfl)) (pv 0))) (pw_or1 (pt_not (pt_val (pe_callB call_isi (by rfl) C.f_isinstance (by decide +kernel) (pa_cons (pe_ix ix_tup (pv 1) pe_int (fun _ _ => rfl)) (pa_cons (pe_bltn (v := .ty "str") rfl C.f_str (by decide +kernel) rfl) pa_nil))))))))))
    (pss_one (ps_ret pe_bl))
    pss_nil)
  (pss_cons (ps_if (PW.pt (pw_or (pt_cmpR op_ne (pe_callB call_len_str (by rfl) C.f_len (by decide +kernel) (pa_cons (pe_ix ix_tup (pv 1) pe_int (fun _ _ => rfl)) pa_nil)) (pe_dget hu (pv 0) (pe_ix ix_tup (pv 1) pe_int (fun _ _ => rfl)) (fun _ _ => rfl)) (nomark _)) (pw_or1 (pt_not (pt_val (pe_callH (has_are_unlike C) hr (by decide) rfl (pa_cons (pe_ix ix_tup (pv 1) pe_int (fun _ _ => rfl)) pa_nil)))))))
    (pss_one (ps_ret pe_bl))
    pss_nil)
  (pss_one (ps_ret (pe_callB (cr_all rfl) (by rfl) C.f_all (by decide +kernel) (pa_cons (pe_lc (own := [("letter", 2)]) (by rfl) sc_is_term.nd (pi_str (pe_ix ix_tup (pv 1) pe_int (fun _ _ => rfl))) (blkOk_by (own := [("letter", 2)]) (N := N_is_term) (sc := defScope s_is_term) (by decide +kernel)) (fun _ _ _ _ _ => (pg_name (i := 2) sc_is_term.nd rfl (Or.inl rfl))) (fun _ _ _ _ _ => pts_nil) (fun _ _ _ _ _ => (pe_cmpR op_in_sign (pv 2) (pe_gs C.st_LETTERS rfl) (by rfl)))) pa_nil))))))), ?_⟩
  obtain ⟨d, t⟩ := a
  obtain ⟨⟨u, v, rfl, hu', hv⟩, ok, ht⟩ := hp
  dsimp only at hu' hv ok ht
  obtain ⟨t0, t1, t2, t3, t4, t5⟩ := ok.t t ht
  have ev0 : ∀ {G'}, Same G G' → EvP (tVar 1) (start N_is_term [u, v]) G' (rTm (d.tm t)) := fun s => ev_var rfl (mn s hv)
  have i0 : ∀ {G'}, Same G G' → EvP (tOp (rIxT K) (tVar 1) (tC (.int 0))) (start N_is_term [u, v]) G' (rI t.1) := fun s => ev_31 (ev0 s)
  have i1 : ∀ {G'}, Same G G' → EvP (tOp (rIxT K) (tVar 1) (tC (.int 1))) (start N_is_term [u, v]) G' (rS d.lab) := fun s => ev_32 (ev0 s)
  have i2 : ∀ {G'}, Same G G' → EvP (tOp (rIxT K) (tVar 1) (tC (.int 2))) (start N_is_term [u, v]) G' (rS (lets t.2)) := fun s => ev_33 (ev0 s)
  have hl : t.2.length ≤ 1000 := by rcases ok.s with h | h <;> omega
  refine q_skip (EvT.to (et_or (et_not (et_B (ev_isi_tup (n := 3) (EvP.imp (ev0 (Same.refl _)) fun v G' _ p => p.tn) (b := true) (by decide +kernel)))) fun _ => et_or (et_B (ev_ne (ev_len3 (ev0 (Same.refl _))) ev_int)) fun _ => et_not (et_B (ev_call3 (P := rI t.1) (P1 := rI (-99)) (P2 := rI 99) (post := fun a : Int × Int × Int => rB (decide (a.2.1 ≤ a.1) && decide (a.1 ≤ a.2.2))) (t.1, -99, 99) (i0 (Same.refl _)) (ev_neg ev_int) ev_int fun v u z G' _ p p' p'' => by rw [show v = .int _ from p, show u = .int _ from p', show z = .int _ from p'']))) ?_) sG fun G1 H1 e1 => ?_
  · show (!true || (!decide ((3 : Int) = 3) || !(decide (-99 ≤ t.1) && decide (t.1 ≤ 99)))) = false
    rw [decide_eq_true t1, decide_eq_true t2]
    rfl
  refine q_skip (EvT.to (et_or (et_B (ev_eq (i0 e1.g) ev_int)) fun _ => et_or (et_not (et_B (ev_isi_str (i1 e1.g) (b := true) (by decide +kernel)))) fun _ => et_or (et_B (ev_knotin (kvs := d.kvs) (k := .inr d.lab) (EvP.imp (i1 e1.g) fun v G' _ p => p) (ev_var rfl (mn e1.g hu')))) fun _ => et_not (et_B (ev_isi_str (i2 e1.g) (b := true) (by decide +kernel)))) ?_) e1.s fun G2 H2 e2 => ?_
  · have h1 : (valV d.kvs (.inr d.lab)).isSome = true := by
      unfold valV Dm.kvs
      simp
    rw [decide_eq_false t0, h1]
    rfl
  have e02 := e1.trans e2
  refine q_skip (EvT.to (et_or (et_B (ev_ne (i := (t.2.length : Int)) (j := (d.s : Int)) (EvP.imp (ev_lenS (i2 e02.g) (by rw [lets_len]; exact Nat.le_of_lt (small1000 hl))) fun v G' _ p => by rw [lets_len] at p; exact p) (EvP.imp (ev_kget (kvs := d.kvs) (k := .inr d.lab) (v := .int d.s) (ev_var rfl (mn e02.g hu')) (EvP.imp (i1 e02.g) fun v G' _ p => p) (by unfold valV Dm.kvs; simp)) fun v G' _ p => p))) fun _ => et_not (et_B (ev_call1 (P := rS (lets t.2)) (post := fun _ => rB true) (signs (lets t.2)) (i2 e02.g) fun v G' _ p => ⟨v, rfl, .inr (.inr ⟨_, p, rfl⟩), signs_nd t4, by rw [signs_lets, List.length_map]; exact hl⟩))) ?_) e2.s fun G3 H3 e3 => ?_
  · rw [t3]
    show (!decide ((d.s : Int) = d.s) || !true) = false
    rw [decide_eq_true rfl]; rfl
  have e03 := e02.trans e3
  refine s_ret (P := rB true) (EvP.tr (ev_all (bs := (signs (lets t.2)).map fun _ => true) (ev_lcm (R := rS) (S := rB) (fun _ => true) (ei_str (i2 e03.g)) (by rw [signs_lets, List.length_map]; exact small1000 hl) fun x v G' hx s r => ?_)) (by rw [List.all_map]; exact List.all_eq_true.mpr fun _ _ => rfl)) e3.s fun v G' H' e p => k v G' H' (e03.trans e) p
  rw [signs_lets] at hx
  obtain ⟨i, hi, rfl⟩ := List.mem_map.mp hx
  refine ⟨_, eg_name, rfl, EvP.tr (ev_inSign (c := 97 + i) (ev_var rfl r) ev_str) (decide_eq_true ?_)⟩
  have h4 := t5 i hi
  rcases (by omega : i = 0 ∨ i = 1 ∨ i = 2 ∨ i = 3) with rfl | rfl | rfl | rfl <;> decide +kernel
abbrev N_is_demand : List Str := ["known", "thing", "term"]
theorem sc_is_demand : FnScope N_is_demand ["known", "thing"] (defScope s_is_demand) := ⟨rfl, rfl, rfl, by decide +kernel, rfl, by decide +kernel, by decide +kernel⟩
abbrev sp_is_demand : Sp := pSp (fun (d : Dm) vs G => (∃ u v, vs = [u, v] ∧ rKd d.kvs u G ∧ rDm d v G) ∧ d.Ok) (fun _ => rB true)
theorem has_is_demand (C : Ctx K mg) : Has P w K mg base "is_demand" ["known", "thing"] 4 sp_is_demand := by
  obtain ⟨fd, F⟩ := C.d_is_demand
  refine has_pure F C.g_is_demand sc_is_demand (fun _ _ _ _ _ _ us hl => match us, hl with | [_, _], _ => rfl) (fun a vs G h => by obtain ⟨⟨u, v, rfl, _⟩, _⟩ := h; rfl) (fun cdv A outer s H vs Q E hr a G sG hp k => ?_)
  have hu := hu_of hr
  refine ⟨_, (pss_cons (ps_if (PW.pt (pw_or (pt_not (pt_val (pe_callH (has_is_pair C) hr (by decide) rfl (pa_cons (pv 1) pa_nil)))) (pw_or (pt_not (pt_val (pe_callB call_isi (by rfl) C.f_isinstance (by decide +kernel) (pa_cons (pe_ix ix_tup (pv 1) pe_int (fun _ _ => rfl)) (pa_cons (pe_bltn (v := .ty "tuple") rfl C.f_tuple (by decide +kernel) rfl) pa_nil))))) (pw_or1 (pt_not (pt_chain op_le op_le pe_int (pe_callB call_len_seq (by rfl) C.f_len (by decide +kernel) (pa_cons (pe_ix ix_tup (pv 1) pe_int (fun _ _ => rfl)) pa_nil)) (pe_gi C.i_MOST_TERMS rfl)))))))
    (pss_one (ps_ret pe_bl))
    pss_nil)
  (pss_one (ps_ret (pe_and (pe_callB (cr_all rfl) (by rfl) C.f_all (by decide +kernel) (pa_cons (pe_lc (own := [("term", 2)]) (by rfl) sc_is_demand.nd (pi_tup (pe_ix ix_tup (pv 1) pe_int (fun _ _ => rfl))) (blkOk_by (own := [("term", 2)]) (N := N_is_demand) (sc := defScope s_is_demand) (by decide +kernel)) (fun _ _ _ _ _ => (pg_name (i := 2) sc_is_demand.nd rfl (Or.inl rfl))) (fun _ _ _ _ _ => pts_nil) (fun _ _ _ _ _ => (pe_callH (has_is_term C) hr (by decide) rfl (pa_cons (pv 0) (pa_cons (pv 2) pa_nil))))) pa_nil)) (pe_one (pe_callH (has_is_within C) hr (by decide) rfl (pa_cons (pe_ix ix_tup (pv 1) pe_int (fun _ _ => rfl)) (pa_cons (pe_un un_neg (pe_gi C.i_MOST_RIGHT rfl)) (pa_cons (pe_gi C.i_MOST_RIGHT rfl) pa_nil))))))))), ?_⟩
  obtain ⟨⟨u, v, rfl, hu', hv⟩, ok⟩ := hp
  have ev0 : ∀ {G'}, Same G G' → EvP (tVar 1) (start N_is_demand [u, v]) G' (rDm a) := fun s => ev_var rfl (mn s hv)
  have i0 : ∀ {G'}, Same G G' → EvP (tOp (rIxT K) (tVar 1) (tC (.int 0))) (start N_is_demand [u, v]) G' (rT rTm a.terms) := fun s => ev_fst (ev0 s)
  have i1 : ∀ {G'}, Same G G' → EvP (tOp (rIxT K) (tVar 1) (tC (.int 1))) (start N_is_demand [u, v]) G' (rI a.r) := fun s => ev_snd (ev0 s)
  have hl : a.terms.length = a.T.length := by unfold Dm.terms; rw [List.length_map]
  refine q_skip (EvT.to (et_or (et_not (et_B (ev_call1 (P := rDm a) (post := fun n : Nat => rB (decide ((n : Int) = 2))) 2 (ev0 (Same.refl _)) fun v G' _ p => ⟨v, rfl, p.tn⟩))) fun _ => et_or (et_not (et_B (ev_isi_tup (n := a.terms.length) (EvP.imp (i0 (Same.refl _)) fun v G' _ p => p.tn) (b := true) (by decide +kernel)))) fun _ => et_not (et_B (ev_le_le ev_int (ev_lenT (i0 (Same.refl _))) ev_int))) ?_) sG fun G1 H1 e1 => ?_
  · have h1 := ok.T0
    have h2 := ok.Tl
    show (!decide (((2 : Nat) : Int) = 2) || (!true || !(decide (1 ≤ (a.terms.length : Int)) && decide ((a.terms.length : Int) ≤ 8)))) = false
    rw [hl, decide_eq_true (show (1 : Int) ≤ (a.T.length : Int) by omega), decide_eq_true (show (a.T.length : Int) ≤ 8 by omega)]
    rfl
  refine s_ret (P := rB true) (EvP.tr (b := true && true) (ev_andV (EvP.tr (ev_all (bs := a.terms.map fun _ => true) (ev_lcm (R := rTm) (S := rB) (fun _ => true) (ei_tup (i0 e1.g)) (by rw [hl]; exact small1000 (by have := ok.Tl; omega)) fun x v G' hx s r => ?_)) (by rw [List.all_map]; exact List.all_eq_true.mpr fun _ _ => rfl)) fun _ => EvP.tr (ev_call3 (P := rI a.r) (P1 := rI (-999)) (P2 := rI 999) (post := fun a : Int × Int × Int => rB (decide (a.2.1 ≤ a.1) && decide (a.1 ≤ a.2.2))) (a.r, -999, 999) (i1 e1.g) (ev_neg ev_int) ev_int fun v u z G' _ p p' p'' => by rw [show v = .int _ from p, show u = .int _ from p', show z = .int _ from p'']) ?_) rfl) e1.s fun v G' H' e p => k v G' H' (e1.trans e) p
  · obtain ⟨t, ht, rfl⟩ := List.mem_map.mp hx
    exact ⟨_, eg_name, rfl, ev_call2 (P := rKd a.kvs) (P1 := rTm (a.tm t)) (post := fun _ => rB true) (a, t) (ev_var rfl (mn (e1.g.trans s) hu')) (ev_var rfl r) fun v1 v2 G' _ p1 p2 => ⟨⟨v1, v2, rfl, p1, p2⟩, ok, ht⟩⟩
  · show (decide (-999 ≤ a.r) && decide (a.r ≤ 999)) = true
    rw [decide_eq_true ok.r.1, decide_eq_true ok.r.2]; rfl
/-! the maker -/
abbrev bkf (m : Int) (td dd : V) : List (Str × V) := [("world", .int m), ("tables", td), ("demands", dd)]
def BkF (d : Dm) (fs : List (Str × V)) (G : Hp) : Prop := ∃ td dd, fs = bkf d.m td dd ∧ rTZ (rTb d.tb) td G ∧ rT rDm [d] dd G
abbrev N_Book___init__ : List Str := ["self", "world", "tables", "demands", "demand"]
theorem sc_Book___init__ : FnScope N_Book___init__ ["self", "world", "tables", "demands"] (defScope s_Book___init__) := ⟨rfl, rfl, rfl, by decide +kernel, rfl, by decide +kernel, by decide +kernel⟩
abbrev sp_Book (K : PySem.W.Frag) : Sp := iSp (He.ga K "Book") (fun (d : Dm) vs G => (∃ u v, vs = [.int d.m, u, v] ∧ rTZ (rTb d.tb) u G ∧ rT rDm [d] v G) ∧ d.Ok) BkF
theorem ev_dictZ {σ : St} {G : Hp} {ta : TE} {d : Dm} (h : EvP ta σ G (rTZ (rTb d.tb))) : EvP (tCB (fun xs H Q => ∃ (a : Addr) (ob : Obj) (p : Addr) (k : Key) (v : V), xs = [V.ref a] ∧ H a = some (.frz ob (.tup [.ref p])) ∧ ob.dict = none ∧ H p = some (.tup [kV k, v]) ∧
    ∀ q, H q = none → Q (.ref q) (upd H q (.dK [(k, v)]))) (tCons ta tNil)) σ G (rKd d.kvs) :=
  ev_cb1 h fun v G' _ p H s Q q => by
    obtain ⟨a, ob, b, rfl, ha, hd, ⟨b', x, y, e, hb, hx, hy⟩⟩ := p
    cases e
    cases (show x = .str d.lab from hx)
    cases (show y = .int d.s from hy)
    exact ⟨a, ob, b, .inr d.lab, .int d.s, rfl, s _ _ ha, hd, s _ _ hb, fun p hp => q _ _ _ (Ext.new s hp) ⟨p, rfl, upd_same⟩⟩
theorem has_Book (C : Ctx K mg) : HasI P w K mg base (He.ga K "Book") ["self", "world", "tables", "demands"] 5 (sp_Book K) := by
  obtain ⟨fd, F⟩ := C.d_Book___init__
  refine hasI_mk F C.mk_Book sc_Book___init__ (fun _ _ _ _ _ _ us hl => match us, hl with | [_, _, _, _], _ => rfl) (fun vs H Q E h => by obtain ⟨a, Gb, Hb, G, x, dx, args, _, rfl, _, _, _, ⟨⟨u, v, rfl, _⟩, _⟩, _⟩ := h; rfl) (fun cdv A outer s H vs Q E hr hsp => ?_)
  have hu := hu_of hr
  refine ⟨_, (pss_cons (ps_if (pt_not (pt_val (pe_callH (has_is_world C) hr (by decide) rfl (pa_cons (pv 1) pa_nil))))
    pss_never
    pss_nil)
  (pss_cons (ps_if (pt_not (pt_val (pe_callH (has_are_tables C) hr (by decide) rfl (pa_cons (pv 2) pa_nil))))
    pss_never
    pss_nil)
  (pss_cons (ps_if (PW.pt (pw_or (pt_not (pt_val (pe_callB call_isi (by rfl) C.f_isinstance (by decide +kernel) (pa_cons (pv 3) (pa_cons (pe_bltn (v := .ty "tuple") rfl C.f_tuple (by decide +kernel) rfl) pa_nil))))) (pw_or1 (pt_cmpR op_gt (pe_callB call_len_seq (by rfl) C.f_len (by decide +kernel) (pa_cons (pv 3) pa_nil)) (pe_gi C.i_MOST_DEMANDS rfl) (nomark _)))))
    pss_never
    pss_nil)
  (pss_cons (ps_if (pt_not (pt_val (pe_callB (cr_all rfl) (by rfl) C.f_all (by decide +kernel) (pa_cons (pe_lc (own := [("demand", 4)]) (by rfl) sc_Book___init__.nd (pi_tup (pv 3)) (blkOk_by (own := [("demand", 4)]) (N := N_Book___init__) (sc := defScope s_Book___init__) (by decide +kernel)) (fun _ _ _ _ _ => (pg_name (i := 4) sc_Book___init__.nd rfl (Or.inl rfl))) (fun _ _ _ _ _ => pts_nil) (fun _ _ _ _ _ => (pe_callH (has_is_demand C) hr (by decide) rfl (pa_cons (pe_callTy (call_dictZ rfl) (by rfl) C.f_dict (by decide +kernel) (pa_cons (pv 2) pa_nil)) (pa_cons (pv 4) pa_nil))))) pa_nil))))
    pss_never
    pss_nil)
  (pss_cons (ps_fld (pv 0) (pv 1) rfl)
  (pss_cons (ps_fld (pv 0) (pv 2) rfl)
  (pss_one (ps_fld (pv 0) (pv 3) rfl)))))))), ?_⟩
  obtain ⟨d, Gb, Hb, G, x, dx, args, e0, rfl, hx, gx, hbx, ⟨⟨u, v, rfl, hu', hv⟩, ok⟩, k⟩ := hsp
  have hm := ok.m
  refine q_skip (EvT.to (et_not (et_B (ev_call1 (P := rI d.m) (post := fun _ => rB true) d.m (ev_vi rfl) fun v G' _ p => ⟨by rw [show v = .int _ from p], by omega, by omega⟩))) rfl) e0.s fun G1 H1 e1 => ?_
  refine q_skip (EvT.to (et_not (et_B (ev_call1 (P := rTZ (rTb d.tb)) (post := fun _ => rB true) d.tb (ev_var rfl (mn e1.g hu')) fun v G' _ p => ⟨⟨v, rfl, p⟩, ok.lab, by show (0 : Int) ≤ (d.s : Int); omega, by show (d.s : Int) ≤ 3; rcases ok.s with h | h <;> omega⟩))) rfl) e1.s fun G2 H2 e2 => ?_
  have e12 := e1.trans e2
  refine q_skip (EvT.to (et_or (et_not (et_B (ev_isi_tup (n := 1) (EvP.imp (ev_var rfl (mn e12.g hv)) fun v G' _ p => (show rT rDm [d] v G' from p).tn) (b := true) (by decide +kernel)))) fun _ => et_B (ev_gt (ev_lenT (ev_var rfl (mn e12.g hv))) ev_int)) rfl) e2.s fun G3 H3 e3 => ?_
  have e13 := e12.trans e3
  refine q_skip (EvT.to (et_not (et_B (ev_all (bs := [d].map fun _ => true) (ev_lcm (R := rDm) (S := rB) (fun _ => true) (ei_tup (ev_var rfl (mn e13.g hv))) (small1000 (by show 1 ≤ 1000; omega)) fun y v' G' hy s r => ?_)))) rfl) e3.s fun G4 H4 e4 => ?_
  · obtain rfl := List.mem_singleton.mp hy
    exact ⟨_, eg_name, rfl, ev_call2 (P := rKd y.kvs) (P1 := rDm y) (post := fun _ => rB true) y (ev_dictZ (ev_var rfl (mn (e13.g.trans s) hu'))) (ev_var rfl r) fun v1 v2 G' _ p1 p2 => ⟨⟨v1, v2, rfl, p1, p2⟩, ok⟩⟩
  have e14 := e13.trans e4
  have e04 := e0.trans e14
  have hx4 := e14.h _ _ hx
  have gx4 := e14.f x (by rw [hx]; exact fun z => nomatch z) gx
  refine q_fldP (P := rI d.m) hx4 e04.s (ev_vi rfl) (ev_var rfl rfl) C.c_Book C.n_Book_world (by decide) fun y G5 H5 e5 p5 hx5 => ?_
  cases (show y = .int d.m from p5)
  have gx5 := e5.f x (by rw [hx4]; exact fun z => nomatch z) gx4
  have e05 := (e04.trans e5).upd (o := .ins (He.ga K "Book") dx (putF "world" (.int d.m) [])) hbx gx5
  have g5 := e14.g.trans e5.g
  refine q_fldP (P := rV u) (C := He.ga K "Book") (dx := dx) upd_same e05.s (ev_var rfl rfl) (ev_var rfl rfl) C.c_Book C.n_Book_tables (show 1 < 1000 by decide) fun y G6 H6 e6 p6 hx6 => ?_
  cases (show y = u from p6)
  have gx6 := e6.f x (by rw [upd_same]; exact fun z => nomatch z) gx5
  have e06 := (e05.trans e6).upd (o := .ins (He.ga K "Book") dx (putF "tables" u (putF "world" (.int d.m) []))) hbx gx6
  refine s_fldP (P := rV v) (C := He.ga K "Book") (dx := dx) upd_same e06.s (ev_var rfl rfl) (ev_var rfl rfl) C.c_Book C.n_Book_demands (show 2 < 1000 by decide) fun y G7 H7 e7 p7 hx7 => ?_
  cases (show y = v from p7)
  have gx7 := e7.f x (by rw [upd_same]; exact fun z => nomatch z) gx6
  have e07 := (e06.trans e7).upd (o := .ins (He.ga K "Book") dx (putF "demands" v (putF "tables" u (putF "world" (.int d.m) [])))) hbx gx7
  have g7 := (g5.trans e6.g).trans e7.g
  exact k (bkf d.m u v) G7 _ e07 g7 gx7 (by rw [upd_same]; rfl) ⟨u, v, rfl, mn g7 hu', mn g7 hv⟩
/-- a book -/
def rBk (K : PySem.W.Frag) (d : Dm) : V → Hp → Prop := fun v G => ∃ x dx fs, v = .ref x ∧ G x = some (.ins (He.ga K "Book") dx fs) ∧ BkF d fs G
instance {d : Dm} : MnP (rBk K d) := ⟨fun s ⟨x, dx, fs, e, h, ⟨td, dd, e2, h1, h2⟩⟩ => ⟨x, dx, fs, e, s _ _ h, ⟨td, dd, e2, mn s h1, mn s h2⟩⟩⟩
theorem ev_book {σ : St} {G : Hp} {t : TA} {PP : List V → Hp → Prop} {E : XK} (d : Dm) (h : EvA t σ G PP) (hp : ∀ vs G', Same G G' → PP vs G' → (∃ u v, vs = [.int d.m, u, v] ∧ rTZ (rTb d.tb) u G' ∧ rT rDm [d] v G') ∧ d.Ok) : EvP (tMake (He.ga K "Book") (sp_Book K) [] E t) σ G (rBk K d) :=
  (en_make d h hp).know fun p o G' s gn ⟨dx, fs, e, td, dd, e2, h1, h2⟩ => ⟨p, dx, fs, rfl, by rw [upd_same, e], td, dd, e2, mn (Same.new gn) h1, mn (Same.new gn) h2⟩
end
end Eld
set_option maxRecDepth 100000
set_option maxHeartbeats 1000000
/-! sorted(()), the keys of an empty dict. -/
namespace PyProof.Rows
open PySem PySem.Calls
section
variable {prog : Program} {w : World} {A : Around} {E : Value → Shared → Prop} {s : Shared}
theorem collect_tup {l : Addr} {vs : List Value} {Q : List Value → Shared → Prop} (hl : s.heap.IsTuple l vs.toArray)
    (h : Q vs { s with heap := (s.heap.push (seqObj "list" #[] 0)).update s.heap.objs.size (Obj.mapSeq (· ++ vs.toArray)) }) (hsz : vs.length ≤ sizeLine := by size_fits) :
    wpAny (model prog w) A (collect (.ref l)) Q E s := by
  obtain ⟨o, ho, hc, n, hd⟩ := id hl
  unfold collect
  refine wpAny_bind (wpAny_runValue (codeAny_builtin entry_proto_collect' ?_))
  show wpAny _ _ (do again (.builtin "list.__iadd__" ⟨[← newList [], .ref l], []⟩)) _ _ s
  refine wpAny_bind (wpAny_newList (wpAny_pure ⟨Code.quiet_builtin _ (by decide +kernel), codeAny_builtin entry_list_iadd' ?_⟩))
  show wpAny _ _ (Builtin.List.listExtendWith (.ref s.heap.objs.size) (.ref l) (.ref s.heap.objs.size)) _ _ { s with heap := s.heap.push (seqObj "list" #[] 0) }
  unfold Builtin.List.listExtendWith
  have ho' : (s.heap.push (seqObj "list" #[] 0)).get? l = some o := Heap.get?_push_of_some _ ho
  refine wpAny_bind (wpAny_typeOf (T := "tuple") ⟨o, ho', hc⟩ ?_)
  have ht : (Value.type "tuple" == Value.type "tuple") = true := by rfl
  rw [if_pos (by rw [ht]; simp)]
  refine wpAny_bind (listItems_at ho' hd ?_)
  refine wpAny_bind (listItems_at (xs := #[]) (n := 0) (Heap.get?_push_size _ rfl) rfl ?_)
  rw [if_neg (by simp)]
  refine wpAny_bind (listUpdate_at (xs := #[]) (n := 0) (Heap.get?_push_size _ rfl) rfl ?_ (Nat.zero_le _) (by show (#[] ++ vs.toArray).size ≤ sizeLine + 1; simp only [Array.size_append, List.size_toArray, List.length_nil]; omega))
  refine wpAny_pure ?_
  show wpAny (model prog w) A (load s.heap.objs.size >>= fun o => match o.data with
      | .seq xs _ => pure xs.toList
      | _ => unsupported "internal:collect") Q E { s with heap := (s.heap.push (seqObj "list" #[] 0)).update s.heap.objs.size (Obj.mapSeq (· ++ vs.toArray)) }
  refine wpAny_bind (wpAny_load (get?_update_seq (Heap.get?_push_size _ rfl) _) ?_)
  show wpAny _ _ (pure ((#[] : Array Value) ++ vs.toArray).toList) Q E _
  rw [show ((#[] : Array Value) ++ vs.toArray).toList = vs by simp]
  exact wpAny_pure h
/-- sorted(()): the list behind -/
theorem sorted_tup0 {l : Addr} {Q : Value → Shared → Prop} (hl : s.heap.IsTuple l #[]) (h : ∀ (out : Array Value), IntsAre out.toList [] → Q (.ref (s.heap.objs.size + 1)) { s with heap := sortedAll s.heap [] out }) : wpAny (model prog w) A (call (.builtin "sorted") [.ref l]) Q E s := by
  refine Calls.call_function_entry kind_sorted plain_sorted entry_sorted (args_sorted1 _) ?_
  unfold Builtin.«sorted»
  refine wpAny_bind (m := checkCount "sorted" 1 1 _) (wpAny_pure ?_)
  refine wpAny_bind (collect_tup (vs := []) hl ?_ (Nat.zero_le _))
  refine wpAny_bind (wpAny_newList ?_)
  generalize hh : (s.heap.push (seqObj "list" #[] 0)).update s.heap.objs.size (Obj.mapSeq (· ++ ([] : List Value).toArray)) = h1
  have hsz : h1.objs.size = s.heap.objs.size + 1 := by rw [← hh, Heap.size_update, size_push']
  have hoL : (h1.push (seqObj "list" ([] : List Value).toArray 0)).get? (s.heap.objs.size + 1) = some (seqObj "list" ([] : List Value).toArray 0) := hsz ▸ Heap.get?_push_size _ rfl
  show wpAny _ _ _ _ _ { s with heap := h1.push (seqObj "list" ([] : List Value).toArray 0) }
  rw [hsz]
  refine wpAny_bind (wpAny_holding (wpAny_call_entry slot_list_sort ⟨_, hoL, rfl⟩ entry_list_sort (list_sort_tree (ns := []) hoL .nil (by decide) fun out ns' a1 a2 a3 => ⟨_, rfl, wpAny_pure ⟨_, rfl, ?_⟩⟩) (args_list_sort _)))
  have := h out (by rw [← a2.eq_nil]; exact a1)
  unfold sortedAll at this
  rw [hh] at this
  exact this
end
end PyProof.Rows
namespace Eld
open PySem PySem.Spec PyProof.Rows L2
section
variable {X : Cx}
/-- sorted(()) -/
theorem cr_sortedT0 : CallR X (.builtin "sorted") (fun xs H Q => ∃ a, xs = [V.ref a] ∧ SqT X.K H a [] ∧ ∀ p, H p = none → Q (.ref p) (upd H p (.lst []))) := by
  intro pins s σ H vs us Q I r h
  obtain ⟨a, rfl, hs, q⟩ := h
  obtain ⟨its, rv, hl, hz⟩ := I.tuple hs
  rw [Vals.ref1 r]
  cases rv
  refine PyProof.Rows.sorted_tup0 hl fun out h1 => ?_
  obtain ⟨ep, he'⟩ := PyProof.Rows.sortedAll_at s.heap [] out
  exact ⟨.ref _, upd H (s.heap.objs.size + 1) (.lst []), I.laid (t' := s.toks) (fun _ _ => PyProof.Rows.sortedAll_old) (Nat.le_succ _) ⟨Nat.zero_le _, out.toList, ep, vals_of_ints h1, he'⟩, rfl, q _ (I.hok.fresh (Nat.le_succ _))⟩
end
section
variable {K : PySem.W.Frag} {σ : St} {G H : Hp} {te ta : TE} {PP : V → Hp → Prop} {δ ε : Type}
theorem ev_sortT0 {R : δ → V → Hp → Prop} {S : ε → V → Hp → Prop} [∀ d, MnP (R d)] (ha : EvP ta σ G (rT R [])) : EvP (tCB (fun xs H Q => ∃ a, xs = [V.ref a] ∧ SqT K H a [] ∧ ∀ p, H p = none → Q (.ref p) (upd H p (.lst []))) (tCons ta tNil)) σ G (rL S []) :=
  ev_cb1 ha fun v G' _ p H s Q q => by
    obtain ⟨a, xs, rfl, h, al⟩ := p
    cases al
    exact ⟨a, rfl, SqT.of (s _ _ h), fun p hp => q _ _ _ (Ext.new s hp) ⟨p, _, rfl, upd_same, .nil⟩⟩
/-- while a known thing is locked -/
theorem ev_lockE {d : Addr} {u : HO} (hd : G d = some u) (mu : Mut (some u)) (hp : ∀ v G', PP v G' → PP v (upd G' d u)) (h : ∀ od, EvP te σ (upd G d (.frz od u)) PP) : EvP (tLockE te) σ G PP := fun H s Q q =>
  ⟨d, u, s _ _ hd, mu, fun od => h od (upd H d (.frz od u)) (fun b x e => by
    by_cases z : b = d
    · subst z; rw [upd_same] at e ⊢; exact e
    · rw [upd_ne z] at e ⊢; exact s b x e) _ fun v G' H' e p => ⟨e.h d _ upd_same, q v _ _ (Ext.unlock e hd s) (hp v G' p)⟩⟩
theorem ei_keys0 {d : Addr} {od : Obj} (hd : G d = some (.frz od (.dK []))) (h : EvP te σ G (rV (.ref d))) : EvI (iKeys te) σ G (fun _ : Unit => Eld.rAny) [] := fun H s Rr k =>
  h H s _ fun v G1 H1 e p => by
    cases (show v = .ref d from p)
    exact ⟨d, od, rfl, .inl ⟨[], e.s _ _ (e.g _ _ hd), k _ G1 H1 e ⟨fun i H hi s => absurd hi (Nat.not_lt_zero _), fun H s => ⟨s _ _ (e.g _ _ hd), Nat.le_refl 0⟩, fun i d' G' H' x H'' hd' => by simp at hd'⟩⟩⟩
end
end Eld
set_option maxRecDepth 100000
set_option maxHeartbeats 1000000
/-! Parties. -/
namespace Eld
open PySem PySem.Spec PyProof.Rows L2
section
variable {P : Program} {w : World} {K : PySem.W.Frag} {mg : Str → Option Value} {base : Heap}
abbrev N_are_names : List Str := ["thing", "one"]
theorem sc_are_names : FnScope N_are_names ["thing"] (defScope s_are_names) := ⟨rfl, rfl, rfl, by decide +kernel, rfl, by decide +kernel, by decide +kernel⟩
abbrev sp_are_names : Sp := pSp (fun (_ : Unit) vs G => ∃ v, vs = [v] ∧ rT rS [] v G) (fun _ => rB true)
theorem has_are_names (C : Ctx K mg) : Has P w K mg base "are_names" ["thing"] 2 sp_are_names := by
  obtain ⟨fd, F⟩ := C.d_are_names
  refine has_pure F C.g_are_names sc_are_names (fun _ _ _ _ _ _ us hl => match us, hl with | [_], _ => rfl) (fun a vs G h => by obtain ⟨v, rfl, _⟩ := h; rfl) (fun cdv A outer s H vs Q E hr a G sG hp k => ?_)
  have hu := hu_of hr
  refine ⟨_, (pss_cons (ps_if (PW.pt (pw_or (pt_not (pt_val (pe_callB call_isi (by rfl) C.f_isinstance (by decide +kernel) (pa_cons (pv 0) (pa_cons (pe_bltn (v := .ty "tuple") rfl C.f_tuple (by decide +kernel) rfl) pa_nil))))) (pw_or (pt_cmpR op_gt (pe_callB call_len_seq (by rfl) C.f_len (by decide +kernel) (pa_cons (pv 0) pa_nil)) (pe_gi C.i_MOST_NAMES rfl) (nomark _)) (pw_or1 (pt_not (pt_val (pe_callB (cr_all rfl) (by rfl) C.f_all (by decide +kernel) (pa_cons (pe_lc (own := [("one", 1)]) (by rfl) sc_are_names.nd (pi_tup (pv 0)) (blkOk_by (own := [("one", 1)]) (N := N_are_names) (sc := defScope s_are_names) (by decide +kernel)) (fun _ _ _ _ _ => (pg_name (i := 1) sc_are_names.nd rfl (Or.inl rfl))) (fun _ _ _ _ _ => pts_nil) (fun _ _ _ _ _ => pe_never)) pa_nil))))))))
    (pss_one (ps_ret pe_bl))
    pss_nil)
  (pss_one (ps_ret (pe_and (pe_cmpR (op_eqD hr.units) (pe_callTy call_list_of (by rfl) C.f_list (by decide +kernel) (pa_cons (pv 0) pa_nil)) (pe_callB cr_sortedT0 (by rfl) C.f_sorted (by decide +kernel) (pa_cons (pv 0) pa_nil)) (nomark _)) (pe_one (pe_callH (has_are_unlike C) hr (by decide) rfl (pa_cons (pv 0) pa_nil))))))), ?_⟩
  obtain ⟨v, rfl, hv⟩ := hp
  have h0 : ([] : List Str).length < sizeLine := small1000 (by show 0 ≤ 1000; omega)
  refine q_skip (EvT.to (et_or (et_not (et_B (ev_isi_tup (n := 0) (EvP.imp (ev_var rfl hv) fun v G' _ p => (show rT rS [] v G' from p).tn) (b := true) (by decide +kernel)))) fun _ => et_or (et_B (ev_gt (ev_lenT (ev_var rfl hv)) ev_int)) fun _ => et_not (et_B (ev_all (bs := ([] : List Str).map fun _ => true) (ev_lcm (R := rS) (S := rB) (fun _ => true) (ei_tup (ev_var rfl hv)) h0 fun d v G' hd s r => nomatch hd)))) rfl) sG fun G1 H1 e1 => ?_
  have hv1 := mn e1.g hv
  refine s_ret (P := rB true) (EvP.tr (b := true && true) (ev_andV (EvP.tr (ev_eqD (d := .list (([] : List Str).map .str)) (e := .list (([] : List Str).map .str)) (ev_dp (PP := rL rS []) (ev_listT (ev_var rfl hv1)) fun v G' p => dp_L p fun d x => dp_s) (ev_dp (PP := rL rS []) (ev_sortT0 (R := rS) (S := rS) (ev_var rfl hv1)) fun v G' p => dp_L p fun d x => dp_s) (shaped_strs fun x hx => nomatch hx) (shaped_strs fun x hx => nomatch hx)) (eqv_strs [])) fun _ =>
    ev_call1 (P := rT rS []) (post := fun _ => rB true) [] (ev_var rfl hv1) fun v G' _ p => ⟨v, rfl, .inr (.inl p), List.nodup_nil, Nat.zero_le _⟩) rfl) e1.s fun v G' H' e p => k v G' H' (e1.trans e) p
abbrev N_are_numbers : List Str := ["book", "names", "thing", "place"]
theorem sc_are_numbers : FnScope N_are_numbers ["book", "names", "thing"] (defScope s_are_numbers) := ⟨rfl, rfl, rfl, by decide +kernel, rfl, by decide +kernel, by decide +kernel⟩
abbrev sp_are_numbers : Sp := pSp (fun (_ : Unit) vs G => ∃ u v d, vs = [u, v, .ref d] ∧ G d = some (.dK [])) (fun _ => rB true)
theorem has_are_numbers (C : Ctx K mg) : Has P w K mg base "are_numbers" ["book", "names", "thing"] 1 sp_are_numbers := by
  obtain ⟨fd, F⟩ := C.d_are_numbers
  refine has_pure F C.g_are_numbers sc_are_numbers (fun _ _ _ _ _ _ us hl => match us, hl with | [_, _, _], _ => rfl) (fun a vs G h => by obtain ⟨u, v, d, rfl, _⟩ := h; rfl) (fun cdv A outer s H vs Q E hr a G sG hp k => ?_)
  have hu := hu_of hr
  refine ⟨_, (pss_cons (ps_if (pt_not (pt_val (pe_callB call_isi (by rfl) C.f_isinstance (by decide +kernel) (pa_cons (pv 2) (pa_cons (pe_bltn (v := .ty "dict") rfl C.f_dict (by decide +kernel) rfl) pa_nil)))))
    (pss_one (ps_ret pe_bl))
    pss_nil)
  (pss_one (ps_ret (pe_lock (pe_callB (cr_all rfl) (by rfl) C.f_all (by decide +kernel) (pa_cons (pe_lc (own := [("place", 3)]) (by rfl) sc_are_numbers.nd (pi_keys (pv 2)) (blkOk_by (own := [("place", 3)]) (N := N_are_numbers) (sc := defScope s_are_numbers) (by decide +kernel)) (fun _ _ _ _ _ => (pg_name (i := 3) sc_are_numbers.nd rfl (Or.inl rfl))) (fun _ _ _ _ _ => pts_nil) (fun _ _ _ _ _ => pe_never)) pa_nil)))))), ?_⟩
  obtain ⟨u, v, d, rfl, hd⟩ := hp
  refine q_skip (EvT.to (et_not (et_B (ev_isi (P := rKd []) (t := .type "dict") (b := true) (ev_var rfl ⟨d, rfl, hd⟩) (fun v G' ⟨a, e, ha⟩ H s => e ▸ .base (.dK (s _ _ ha))) (kit_ty (by decide +kernel))))) rfl) sG fun G1 H1 e1 => ?_
  refine s_ret (P := rB true) (ev_lockE (e1.g _ _ hd) trivial (fun _ _ p => p) fun od => EvP.tr (ev_all (bs := ([] : List Unit).map fun _ => true) (ev_lcm (S := rB) (fun _ : Unit => true) (ei_keys0 (od := od) upd_same (ev_var rfl rfl)) (small1000 (by show 0 ≤ 1000; omega)) fun d v G' hd s r => nomatch hd)) rfl) e1.s fun v G' H' e p => k v G' H' (e1.trans e) p
abbrev paf (b n kp : V) : List (Str × V) := [("book", b), ("names", n), ("kept", kp)]
def PaF (P : Program) (w : World) (K : PySem.W.Frag) (d : Dm) (fs : List (Str × V)) (G : Hp) : Prop := ∃ b n kp, fs = paf b n kp ∧ rBk K d b G ∧ rT rS [] n G ∧ rPD P w [] kp G
abbrev N_Party___init__ : List Str := ["self", "book", "names", "numbers"]
theorem sc_Party___init__ : FnScope N_Party___init__ ["self", "book", "names", "numbers"] (defScope s_Party___init__) := ⟨rfl, rfl, rfl, by decide +kernel, rfl, by decide +kernel, by decide +kernel⟩
abbrev sp_Party (P : Program) (w : World) (K : PySem.W.Frag) : Sp := iSp (He.ga K "Party") (fun (d : Dm) vs G => ∃ b n kp, vs = [b, n, kp] ∧ rBk K d b G ∧ rT rS [] n G ∧ rKd [] kp G) (PaF P w K)
theorem has_Party (C : Ctx K mg) : HasI P w K mg base (He.ga K "Party") ["self", "book", "names", "numbers"] 3 (sp_Party P w K) := by
  obtain ⟨fd, F⟩ := C.d_Party___init__
  refine hasI_mk F C.mk_Party sc_Party___init__ (fun _ _ _ _ _ _ us hl => match us, hl with | [_, _, _, _], _ => rfl) (fun vs H Q E h => by obtain ⟨a, Gb, Hb, G, x, dx, args, _, rfl, _, _, _, ⟨b, n, kp, rfl, _⟩, _⟩ := h; rfl) (fun cdv A outer s H vs Q E hr hsp => ?_)
  have hu := hu_of hr
  refine ⟨_, (pss_cons (ps_if (pt_not (pt_val (pe_callH (has_are_names C) hr (by decide) rfl (pa_cons (pv 2) pa_nil))))
    pss_never
    pss_nil)
  (pss_cons (ps_if (pt_not (pt_val (pe_callH (has_are_numbers C) hr (by decide) rfl (pa_cons (pv 1) (pa_cons (pv 2) (pa_cons (pv 3) pa_nil))))))
    pss_never
    pss_nil)
  (pss_cons (ps_fld (pv 0) (pv 1) rfl)
  (pss_cons (ps_fld (pv 0) (pv 2) rfl)
  (pss_one (ps_fld (pv 0) (pe_bm0 PySem.F.plainAttrs_dict PySem.F.slot_dict_copy PySem.F.type_dict_copy mt_copyE (pv 3)) rfl)))))), ?_⟩
  obtain ⟨d, Gb, Hb, G, x, dx, args, e0, rfl, hx, gx, hbx, ⟨b, n, kp, rfl, hb, hn, ⟨kd, rfl, hkd⟩⟩, k⟩ := hsp
  refine q_skip (EvT.to (et_not (et_B (ev_call1 (P := rT rS []) (post := fun _ => rB true) () (ev_var rfl hn) fun v G' _ p => ⟨v, rfl, p⟩))) rfl) e0.s fun G1 H1 e1 => ?_
  refine q_skip (EvT.to (et_not (et_B (ev_call3 (P := rV b) (P1 := rV n) (P2 := rKd []) (post := fun _ => rB true) () (ev_var rfl rfl) (ev_var rfl rfl) (ev_var rfl ⟨kd, rfl, e1.g _ _ hkd⟩) fun v1 v2 v3 G' _ p1 p2 p3 => by obtain ⟨d', e', h'⟩ := p3; exact ⟨v1, v2, d', by rw [e'], h'⟩))) rfl) e1.s fun G4 H4 e4 => ?_
  have e14 := e1.trans e4
  have e04 := e0.trans e14
  have hx4 := e14.h _ _ hx
  have gx4 := e14.f x (by rw [hx]; exact fun z => nomatch z) gx
  refine q_fldP (P := rV b) hx4 e04.s (ev_var rfl rfl) (ev_var rfl rfl) C.c_Party C.n_Party_book (by decide) fun y G5 H5 e5 p5 hx5 => ?_
  cases (show y = b from p5)
  have gx5 := e5.f x (by rw [hx4]; exact fun z => nomatch z) gx4
  have e05 := (e04.trans e5).upd (o := .ins (He.ga K "Party") dx (putF "book" b [])) hbx gx5
  have g5 := e14.g.trans e5.g
  refine q_fldP (P := rV n) (C := He.ga K "Party") (dx := dx) upd_same e05.s (ev_var rfl rfl) (ev_var rfl rfl) C.c_Party C.n_Party_names (show 1 < 1000 by decide) fun y G6 H6 e6 p6 hx6 => ?_
  cases (show y = n from p6)
  have gx6 := e6.f x (by rw [upd_same]; exact fun z => nomatch z) gx5
  have e06 := (e05.trans e6).upd (o := .ins (He.ga K "Party") dx (putF "names" n (putF "book" b []))) hbx gx6
  have g6 := g5.trans e6.g
  have hcp : EvP (tBM0 K "dict" (rCopyE P w) (tVar 3)) (start N_Party___init__ [.ref x, b, n, .ref kd]) G6 (rPD P w []) := fun H s Q q => (ev_var (P := rKd []) rfl ⟨kd, rfl, g6 _ _ hkd⟩) H s _ fun v G' H' e ⟨a, ea, ha⟩ => by
    subst ea
    exact ⟨.inr (.inr (.inl ⟨rfl, .inl ⟨_, e.s _ _ ha⟩⟩)), a, rfl, rfl, e.s _ _ ha, fun p ob hp r => q _ _ _ (e.trans (Ext.new e.s hp)) ⟨p, ob, rfl, upd_same, r _⟩⟩
  refine s_fldP (P := rPD P w []) (C := He.ga K "Party") (dx := dx) upd_same e06.s hcp (ev_var rfl rfl) C.c_Party C.n_Party_kept (show 2 < 1000 by decide) fun y G7 H7 e7 p7 hx7 => ?_
  have gx7 := e7.f x (by rw [upd_same]; exact fun z => nomatch z) gx6
  have e07 := (e06.trans e7).upd (o := .ins (He.ga K "Party") dx (putF "kept" y (putF "names" n (putF "book" b [])))) hbx gx7
  have g7 := g6.trans e7.g
  exact k (paf b n y) G7 _ e07 g7 gx7 (by rw [upd_same]; rfl) ⟨b, n, y, rfl, mn g7 hb, mn g7 hn, p7⟩
/-- a party -/
def rPa (P : Program) (w : World) (K : PySem.W.Frag) (d : Dm) : V → Hp → Prop := fun v G => ∃ x dx fs, v = .ref x ∧ G x = some (.ins (He.ga K "Party") dx fs) ∧ PaF P w K d fs G
theorem PaF.mono {d : Dm} {fs : List (Str × V)} {G G' : Hp} (s : Same G G') (h : PaF P w K d fs G) : PaF P w K d fs G' := by
  obtain ⟨b, n, kp, e, h1, h2, h3⟩ := h
  exact ⟨b, n, kp, e, mn s h1, mn s h2, mn s h3⟩
instance {d : Dm} : MnP (rPa P w K d) := ⟨fun s ⟨x, dx, fs, e, h, f⟩ => ⟨x, dx, fs, e, s _ _ h, f.mono s⟩⟩
theorem ev_party {σ : St} {G : Hp} {t : TA} {PP : List V → Hp → Prop} {E : XK} (d : Dm) (h : EvA t σ G PP) (hp : ∀ vs G', Same G G' → PP vs G' → ∃ b n kp, vs = [b, n, kp] ∧ rBk K d b G' ∧ rT rS [] n G' ∧ rKd [] kp G') : EvP (tMake (He.ga K "Party") (sp_Party P w K) [] E t) σ G (rPa P w K d) :=
  (en_make d h hp).know fun p o G' s gn ⟨dx, fs, e, f⟩ => ⟨p, dx, fs, rfl, by rw [upd_same, e], f.mono (Same.new gn)⟩
/-! what is read of books and parties -/
section
variable {σ : St} {G : Hp} {te : TE} {d : Dm}
theorem ev_fldG {C : Addr} {f : Str} {PP Q : V → Hp → Prop} [MnP PP] [MnP Q] (h : EvP te σ G PP) (hp : ∀ v G', PP v G' → ∃ x dx fs u, v = .ref x ∧ G' x = some (.ins C dx fs) ∧ fs.lookup f = some u ∧ Q u G') (hc : Cls K C) (hn : NoAttr K C f) : EvP (tFld K te f) σ G Q := fun H s Qk q =>
  h H s _ fun v G' H' e p => by
    obtain ⟨x, dx, fs, u, rfl, hx, hl, hq⟩ := hp v G' p
    exact ⟨x, C, dx, fs, u, rfl, e.s _ _ hx, hc, hn, hl, q u G' H' e hq⟩
theorem ev_world (C : Ctx K mg) (h : EvP te σ G (rBk K d)) : EvP (tFld K te "world") σ G (rI d.m) := ev_fldG h (fun v G' ⟨x, dx, fs, e, hx, td, dd, e2, h1, h2⟩ => ⟨x, dx, fs, _, e, hx, by rw [e2]; rfl, rfl⟩) C.c_Book C.n_Book_world
theorem ev_tables (C : Ctx K mg) (h : EvP te σ G (rBk K d)) : EvP (tFld K te "tables") σ G (rTZ (rTb d.tb)) := ev_fldG h (fun v G' ⟨x, dx, fs, e, hx, td, dd, e2, h1, h2⟩ => ⟨x, dx, fs, td, e, hx, by rw [e2]; rfl, h1⟩) C.c_Book C.n_Book_tables
theorem ev_demands (C : Ctx K mg) (h : EvP te σ G (rBk K d)) : EvP (tFld K te "demands") σ G (rT rDm [d]) := ev_fldG h (fun v G' ⟨x, dx, fs, e, hx, td, dd, e2, h1, h2⟩ => ⟨x, dx, fs, dd, e, hx, by rw [e2]; rfl, h2⟩) C.c_Book C.n_Book_demands
theorem ev_bookOf (C : Ctx K mg) (h : EvP te σ G (rPa P w K d)) : EvP (tFld K te "book") σ G (rBk K d) := ev_fldG h (fun v G' ⟨x, dx, fs, e, hx, b, n, kp, e2, h1, h2, h3⟩ => ⟨x, dx, fs, b, e, hx, by rw [e2]; rfl, h1⟩) C.c_Party C.n_Party_book
theorem ev_namesOf (C : Ctx K mg) (h : EvP te σ G (rPa P w K d)) : EvP (tFld K te "names") σ G (rT rS []) := ev_fldG h (fun v G' ⟨x, dx, fs, e, hx, b, n, kp, e2, h1, h2, h3⟩ => ⟨x, dx, fs, n, e, hx, by rw [e2]; rfl, h2⟩) C.c_Party C.n_Party_names
theorem ev_keptOf (C : Ctx K mg) (h : EvP te σ G (rPa P w K d)) : EvP (tFld K te "kept") σ G (rPD P w []) := ev_fldG h (fun v G' ⟨x, dx, fs, e, hx, b, n, kp, e2, h1, h2, h3⟩ => ⟨x, dx, fs, kp, e, hx, by rw [e2]; rfl, h3⟩) C.c_Party C.n_Party_kept
end
end
end Eld
set_option maxRecDepth 100000
set_option maxHeartbeats 1000000
/-! d.update(e), e an empty dict from places: nothing changes. -/
namespace PySem
open Sem (wp)
section
variable {prog : Program} {w : World} {A : Around} {E : Value → Shared → Prop} {s : Shared}
theorem mergeDict_empty {nm : String} {d o : Addr} {oo : Obj} {ep : Nat} {Q : Unit → Shared → Prop} (ho : s.heap.get? o = some oo) (hdat : oo.data = .dict #[] ep) (hoS : (o == sysModules) = false) (hQ : Q () s) : wpAny (model prog w) A (Builtin.Dict.mergeDict nm d o) Q E s := by
  unfold Builtin.Dict.mergeDict
  refine wpAny_ite_split (fun _ => wpAny_bind (wpAny_rule (wpAny_pure hQ))) fun _ => ?_
  unfold Builtin.Dict.showsAll
  rw [if_neg (show ¬ (o == sysModules) = true by rw [hoS]; exact Bool.false_ne_true)]
  refine wpAny_bind (wpAny_pure ?_)
  refine wpAny_bind (wpAny_dictEntries ho hdat ?_)
  dsimp only
  rw [if_neg (by simp)]
  refine wpAny_bind (wpAny_dictEpoch ho hdat ?_)
  refine wpAny_bind (wpAny_dictEntries ho hdat ?_)
  refine wpAny_bind ?_
  rw [Std.Legacy.Range.forIn_eq_forIn_range']
  simp only [Std.Legacy.Range.size]
  exact wpAny_pure (wpAny_pure hQ)
theorem updateFrom_empty {R : Result → Shared → Prop} {nm : String} {d o : Addr} {oo : Obj} {ep : Nat} (res : Value) (ho : s.heap.get? o = some oo) (hc : oo.cls = .type "dict") (hdat : oo.data = .dict #[] ep) (hoS : (o == sysModules) = false) (hR : R (.ok (.ret res)) s) :
    wpAny (model prog w) A.in1 (Builtin.Dict.updateFrom nm d (.ref o) [] res)
      (fun fin s' => match fin with | .done f => R (.ok f) s' | .again c' => c'.quiet = true ∧ codeAny (model prog w) A c' R s') (fun e s' => R (.error e) s') s := by
  have hT : s.TypeIs (.ref o) "dict" := ⟨oo, ho, hc⟩
  unfold Builtin.Dict.updateFrom
  refine wpAny_bind (wpAny_typeOf hT ?_)
  rw [if_neg (by decide)]
  refine wpAny_bind ?_
  unfold Builtin.Dict.merge
  refine wpAny_bind ?_
  unfold Builtin.Dict.readDirectly
  refine wpAny_bind (wpAny_isInstance hT isSubtype_dict_dict ?_)
  simp only [Bool.not_true, Bool.false_eq_true, if_false]
  refine wpAny_bind (wpAny_specialOf hT F.slot_dict_iter.lookup (wpAny_pure ?_))
  simp only [beq_self_eq_true, if_true]
  refine wpAny_bind (wpAny_pure (mergeDict_empty ho hdat hoS ?_))
  show wpAny _ _ (Builtin.Dict.addKeywords d [] >>= _) _ _ _
  exact wpAny_bind (wpAny_pure (wpAny_pure hR))
end
end PySem
namespace Eld
open PySem PySem.Spec PyProof.Rows L2
section
variable {X : Cx} {o e : Expr} {apos cpos : Pos} {td ty : TE} {K : PySem.W.Frag}
/-- d.update(e) -/
def tNUpd (P : Program) (w : World) (td ty : TE) : TE := fun σ H Q => td σ H fun x H1 => ∃ a ob l, x = .ref a ∧ H1 a = some (.ext (NObj a ob)) ∧ NRep P w H1 a ob l ∧ ty σ H1 fun y H2 => ∃ b ob0, y = .ref b ∧ H2 a = some (.ext (NObj a ob)) ∧ H2 b = some (.ext (NObj b ob0)) ∧ NRep P w H2 b ob0 [] ∧ Q .non H2
theorem pe_ndupd (ho : PE X o td) (he : PE X e ty) (hs : starEach [e] X.env = [(false, eval e X.env)] := by rfl) (hbase : attributeBase o "update" X.env (eval o X.env) = eval o X.env := by rfl) (hline : (apos.endLine == cpos.line) = true := by rfl) :
    PE X (.Call (.Attribute o "update" apos) [e] [] cpos) (tNUpd X.prog X.w td ty) := by
  refine ⟨fun pins s σ H Q I h => ?_⟩
  refine PySem.Call_method1 hbase hs hline (thn (ho.run pins s σ H _ I h) fun u s1 ⟨x, H1, I1, rx, a, ob, l, ex, ha, r, q1⟩ => ?_)
  subst ex
  obtain rfl : u = Value.ref a := rx
  obtain ⟨t1, t2⟩ := n_typeIs I1 ha r
  refine ⟨"dict", _, F.plainAttrs_dict, F.slot_dict_update, F.type_dict_update, t1, t2, Calls.callWith_builtin rfl (Calls.evalArgs_plain (Calls.spliced_cons (thn (he.run pins s1 σ H1 _ I1 q1) fun iv s2 ⟨y, H2, I2, ry, b, ob0, ey, ha2, hb, r0, q2⟩ => Calls.spliced_nil ?_)))⟩
  subst ey
  obtain rfl : iv = Value.ref b := ry
  have hob := inv_nd I2 hb
  obtain ⟨hS, _, _, ⟨hc, _⟩, es, ep, xs, hdat, hes, np⟩ := r0
  cases np
  have he0 : es = #[] := by
    rw [← Array.toList_eq_nil_iff, hes]; rfl
  subst he0
  have t3 : s2.TypeIs (.ref a) "dict" := by
    obtain ⟨o1, e1, e2⟩ := t1
    have hga := inv_nd I1 ha
    rw [hga] at e1
    cases e1
    exact ⟨ob, inv_nd I2 ha2, e2⟩
  exact call_meetsIn F.slot_dict_update t3 F.entry_dict_update (F.args_dict_update_2 _ _) (S := fun A' R s' => A' = X.A ∧ s' = s2 ∧ R (.ok (.ret .none)) s2)
    (fun A' R s' hS' => by obtain ⟨rfl, rfl, hq⟩ := hS'; exact meets_dict_update_arg t3 (updateFrom_empty .none hob hc hdat hS hq)) ⟨rfl, rfl, ⟨.non, H2, I2, rfl, q2⟩⟩
end
section
variable {P : Program} {w : World} {σ : St} {G H : Hp} {td ty : TE}
theorem ev_ndupd {l : List (Pl × Int)} (hd : EvP td σ G (rPD P w l)) (hk : EvP ty σ G (rPD P w [])) : EvP (tNUpd P w td ty) σ G rN := fun H s Q q =>
  hd H s _ fun x G1 H1 e1 p1 => by
    obtain ⟨a, ob, rfl, ha, r⟩ := p1
    refine ⟨a, ob, l, rfl, e1.s _ _ ha, r.mono e1.s, ?_⟩
    refine hk.mono e1.g H1 e1.s _ fun y G2 H2 e2 p2 => ?_
    obtain ⟨b, ob0, rfl, hb, r0⟩ := p2
    exact ⟨b, ob0, rfl, e2.h _ _ (e1.s _ _ ha), e2.s _ _ hb, r0.mono e2.s, q _ _ _ (e1.trans e2) rfl⟩
end
end Eld
set_option maxRecDepth 100000
set_option maxHeartbeats 1000000
/-! More rules by the names K; a text in a tuple of texts; comers and letters. -/
namespace Eld
open PySem PySem.Spec PyProof.Rows L2
section
variable {X : Cx} {K : PySem.W.Frag}
theorem op_catAK (h : X.K = K) : OpR X (binaryOp .Add) (rCatA K) := h ▸ op_catA
theorem call_len_seqK (h : X.K = K) : CallR X (.builtin "len") (fun xs H Q => ∃ p ys, xs = [V.ref p] ∧ (SqL K H p ys ∨ SqT K H p ys) ∧ Q (.int ys.length) H) := h ▸ call_len_seq
theorem call_tuple_ofK (h : X.K = K) : CallR X (.type "tuple") (fun xs H Q => ∃ p ys, xs = [V.ref p] ∧ ((SqL K H p ys ∧ ∀ l, H l = none → Q (.ref l) (upd H l (.tup ys))) ∨ (SqT K H p ys ∧ Q (.ref p) H))) := h ▸ call_tuple_of
theorem mt_indexK (h : X.K = K) : MtR X "list.index" (rIndex K) := h ▸ mt_index
theorem pe_bmK {o e : Expr} {es : List Expr} {to : TE} {t : TA} {name : Str} {apos cpos : Pos} {T id : String} {r : V → List V → Hp → VK → Prop} (hK : X.K = K) (pa : PlainAttrs T) (slot : Slot T name id) (hty : typeOf (.builtin id) = pure (.type "method_descriptor")) (hm : MtR X id r) (ho : PE X o to) (ha : PA X (e :: es) t)
    (hbase : attributeBase o name X.env (eval o X.env) = eval o X.env := by rfl)
    (hfew : ((backTo cpos (starEach (e :: es) X.env)).all (fun x => !x.1) && (backToKw cpos (keywordEach [] X.env)).all (fun x => x.1.isSome)
      && decide ((e :: es).length + ([] : List Keyword).length + (if ([] : List Keyword).isEmpty then 0 else 1) < 30)) = true := by rfl)
    (hline : (apos.endLine == cpos.line) = true := by rfl) (hs : starEach (e :: es) X.env = (false, eval e X.env) :: starEach es X.env := by rfl) (hplain : (backTo cpos (starEach es X.env)).any (·.1) = false := by rfl) :
    PE X (.Call (.Attribute o name apos) (e :: es) [] cpos) (tBM K T r to t) := hK ▸ pe_bm pa slot hty hm ho ha hbase hfew hline hs hplain
end
section
variable {K : PySem.W.Frag} {σ : St} {G : Hp} {ta tb : TE}
theorem inV_str (x : Str) (ss : List Str) : inV (.str x) (ss.map V.str) = decide (x ∈ ss) := by
  unfold inV
  induction ss with
  | nil => rfl
  | cons y ss ih =>
    rw [List.map_cons, List.any_cons, ih]
    show (y == x || decide (x ∈ ss)) = decide (x ∈ y :: ss)
    by_cases e : x = y
    · subst e; simp
    · have e2 : ¬ y = x := fun z => e z.symm
      rw [beq_eq_false_iff_ne.mpr e2, Bool.false_or, decide_eq_decide, List.mem_cons]
      exact ⟨.inr, fun h => h.resolve_left e⟩
theorem flat_strs (ss : List Str) : (ss.map V.str).all flatV = true := by
  rw [List.all_map]; exact List.all_eq_true.mpr fun _ _ => rfl
/-- x not in a tuple of texts -/
theorem ev_nin {x : Str} {ss : List Str} (ha : EvP ta σ G (rS x)) (hb : EvP tb σ G (rT rS ss)) : EvP (tOp (rIn K true) ta tb) σ G (rB (decide (x ∉ ss))) := by
  have h := ev_inSq (K := K) (x := .str x) (R := rS) (ds := ss) (ys := ss.map V.str) (neg := true) (EvP.imp ha fun v G' _ p => p) (.inr hb) (fun xs G' al => all2_strs.mp al) rfl (flat_strs ss)
  rw [if_pos rfl, inV_str] at h
  exact EvP.tr h (by by_cases e : x ∈ ss <;> simp [e])
theorem ev_ninL {x : Str} {ss : List Str} (ha : EvP ta σ G (rS x)) (hb : EvP tb σ G (rL rS ss)) : EvP (tOp (rIn K true) ta tb) σ G (rB (decide (x ∉ ss))) := by
  have h := ev_inSq (K := K) (x := .str x) (R := rS) (ds := ss) (ys := ss.map V.str) (neg := true) (EvP.imp ha fun v G' _ p => p) (.inl hb) (fun xs G' al => all2_strs.mp al) rfl (flat_strs ss)
  rw [if_pos rfl, inV_str] at h
  exact EvP.tr h (by by_cases e : x ∈ ss <;> simp [e])
theorem ev_inL {x : Str} {ss : List Str} (ha : EvP ta σ G (rS x)) (hb : EvP tb σ G (rL rS ss)) : EvP (tOp (rIn K false) ta tb) σ G (rB (decide (x ∈ ss))) := by
  have h := ev_inSq (K := K) (x := .str x) (R := rS) (ds := ss) (ys := ss.map V.str) (neg := false) (EvP.imp ha fun v G' _ p => p) (.inl hb) (fun xs G' al => all2_strs.mp al) rfl (flat_strs ss)
  rw [if_neg Bool.false_ne_true, inV_str] at h
  exact h
end
/-! comers -/
def folk (n : Nat) : List Str := (List.range n).map dig
theorem folk_len (n : Nat) : (folk n).length = n := by unfold folk; rw [List.length_map, List.length_range]
theorem cut_fig : ∀ n ∈ List.range 11, signs (cutS figS none (some ((n : Nat) : Int))) = folk n := by decide +kernel
theorem arr_folk (n k : Nat) : arr (folk n) k = (arr (List.range n) k).map (List.map dig) := arr_map dig (fun _ _ h => dig_inj h) _ _
/-! letters -/
def Dm.L (d : Dm) : List Nat := (List.range 4).filter fun i => d.T.any fun t => t.2.contains i
theorem Dm.L_mem {d : Dm} {i : Nat} : i ∈ d.L ↔ i < 4 ∧ ∃ t ∈ d.T, i ∈ t.2 := by
  unfold Dm.L
  rw [List.mem_filter, List.mem_range, List.any_eq_true]
  simp only [List.contains_iff_mem]
theorem Dm.L_nd (d : Dm) : d.L.Nodup := List.nodup_range.sublist List.filter_sublist
theorem Dm.L_len (d : Dm) : d.L.length ≤ 4 := by
  have := List.length_filter_le (fun i => d.T.any fun t => t.2.contains i) (List.range 4)
  rw [List.length_range] at this
  exact this
def unlet (x : Str) : Nat := x.cps.toList.headD 0 - 97
theorem unlet_let (i : Nat) : unlet (let1 i) = i := by
  show (97 + i) - 97 = i
  omega
theorem letter_rows : ∀ n ∈ List.range 5, ∀ row ∈ arr (List.range 4) n, (sortedS (row.map let1) = true → row = (List.range 4).filter fun i => decide (i ∈ row)) ∧ Txt.join Str.empty (row.map let1) = lets row := by decide +kernel
theorem sorted_letters {ks : List Nat} {ys : List Str} (nd : ks.Nodup) (h4 : ∀ i ∈ ks, i < 4) (hp : ys.Perm (ks.map let1)) (hs : sortedS ys = true) : ys = ((List.range 4).filter fun i => decide (i ∈ ks)).map let1 := by
  have h1 : (ys.map unlet).Perm ks := by
    have := hp.map unlet
    rw [List.map_map] at this
    have e : ks.map (unlet ∘ let1) = ks := by
      rw [show (unlet ∘ let1) = id from funext unlet_let, List.map_id]
    rw [e] at this
    exact this
  have h2 : (ys.map unlet).map let1 = ys := by
    rw [List.map_map]
    refine (List.map_congr_left fun y hy => ?_).trans (List.map_id ys)
    obtain ⟨i, _, rfl⟩ := List.mem_map.mp (hp.mem_iff.mp hy)
    show let1 (unlet (let1 i)) = let1 i
    rw [unlet_let]
  have h3 : ys.map unlet ∈ arr (List.range 4) (ys.map unlet).length := mem_arr.mpr ⟨rfl, h1.nodup_iff.mpr nd, fun x hx => List.mem_range.mpr (h4 x (h1.mem_iff.mp hx))⟩
  have h5 : (ys.map unlet).length ≤ 4 := by
    have := nodup_len (l := ys.map unlet) (m := List.range 4) (h1.nodup_iff.mpr nd) fun x hx => List.mem_range.mpr (h4 x (h1.mem_iff.mp hx))
    rw [List.length_range] at this
    exact this
  have h6 := (letter_rows _ (List.mem_range.mpr (by omega)) _ h3).1 (by rw [h2]; exact hs)
  rw [← h2]
  rw [h6]
  congr 1
  refine List.filter_congr fun i _ => ?_
  rw [decide_eq_decide]
  exact h1.mem_iff
theorem join_letters (d : Dm) : Txt.join Str.empty (d.L.map let1) = lets d.L :=
  (letter_rows d.L.length (List.mem_range.mpr (by have := d.L_len; omega)) d.L (mem_arr.mpr ⟨rfl, d.L_nd, fun x hx => List.mem_range.mpr (Dm.L_mem.mp hx).1⟩)).2
end Eld
set_option maxRecDepth 100000
set_option maxHeartbeats 1000000
/-! comers, arrangements, letters_in, instances_of, places_of. -/
namespace Eld
open PySem PySem.Spec PyProof.Rows L2
section
variable {P : Program} {w : World} {K : PySem.W.Frag} {mg : Str → Option Value} {base : Heap}
abbrev N_comers : List Str := ["many"]
theorem sc_comers : FnScope N_comers ["many"] (defScope s_comers) := ⟨rfl, rfl, rfl, by decide +kernel, rfl, by decide +kernel, by decide +kernel⟩
abbrev sp_comers : Sp := pSp (fun (n : Nat) vs _ => vs = [.int n] ∧ n ≤ 10) (fun n => rL rS (folk n))
theorem has_comers (C : Ctx K mg) : Has P w K mg base "comers" ["many"] 1 sp_comers := by
  obtain ⟨fd, F⟩ := C.d_comers
  refine has_pure F C.g_comers sc_comers (fun _ _ _ _ _ _ us hl => match us, hl with | [_], _ => rfl) (fun a vs G h => by rw [h.1]; rfl) (fun cdv A outer s H vs Q E hr a G sG hp k => ?_)
  have hu := hu_of hr
  refine ⟨_, (pss_one (ps_ret (pe_callTy (call_list_strH rfl) (by rfl) C.f_list (by decide +kernel) (pa_cons (pe_slice sl_str (pe_gs C.st_FIGURES rfl) po_none (po_some (pv 0))) pa_nil)))), ?_⟩
  obtain ⟨rfl, hn⟩ := hp
  have h := cut_fig a (List.mem_range.mpr (by omega))
  refine s_ret (P := rL rS (folk a)) (h ▸ EvN.list (en_listS (ev_slS ev_str (ev_vi rfl) (by rw [sizeLine_eq]; decide +kernel)) ?_)) sG fun v G' H' e p => k v G' H' e p
  rw [← signs_len, h, folk_len, sizeLine_eq]
  omega
abbrev N_all_folk : List Str := ["party", "many"]
theorem sc_all_folk : FnScope N_all_folk ["party", "many"] (defScope s_all_folk) := ⟨rfl, rfl, rfl, by decide +kernel, rfl, by decide +kernel, by decide +kernel⟩
abbrev sp_all_folk (P : Program) (w : World) (K : PySem.W.Frag) : Sp := pSp (fun (a : Dm × Nat) vs G => ∃ v, vs = [v, .int a.2] ∧ rPa P w K a.1 v G ∧ a.2 ≤ 10) (fun a => rL rS (folk a.2))
theorem has_all_folk (C : Ctx K mg) : Has P w K mg base "all_folk" ["party", "many"] 2 (sp_all_folk P w K) := by
  obtain ⟨fd, F⟩ := C.d_all_folk
  refine has_pure F C.g_all_folk sc_all_folk (fun _ _ _ _ _ _ us hl => match us, hl with | [_, _], _ => rfl) (fun a vs G h => by obtain ⟨v, rfl, _⟩ := h; rfl) (fun cdv A outer s H vs Q E hr a G sG hp k => ?_)
  have hu := hu_of hr
  refine ⟨_, (pss_one (ps_ret (pe_op op_cat (pe_callH (has_comers C) hr (by decide) rfl (pa_cons (pv 1) pa_nil)) (pe_callTy call_list_of (by rfl) C.f_list (by decide +kernel) (pa_cons (pe_fld (pv 0) rfl) pa_nil))))), ?_⟩
  obtain ⟨d, n⟩ := a
  obtain ⟨v, rfl, hv, hn⟩ := hp
  refine s_ret (P := rL rS (folk n ++ [])) (ev_catL (ev_call1 (P := rI n) (post := fun n => rL rS (folk n)) n (ev_vi rfl) fun v G' _ p => ⟨by rw [show v = .int _ from p], hn⟩) (ev_listT (ev_namesOf C (ev_var rfl hv))) (by rw [folk_len, sizeLine_eq]; show n + 0 ≤ _; have : n ≤ 10 := hn; omega)) sG fun v G' H' e p => k v G' H' e (by rwa [List.append_nil] at p)
abbrev N_arrangements : List Str := ["folk", "many", "found", "turn", "row", "one"]
theorem sc_arrangements : FnScope N_arrangements ["folk", "many"] (defScope s_arrangements) := ⟨rfl, rfl, rfl, by decide +kernel, rfl, by decide +kernel, by decide +kernel⟩
abbrev sp_arrangements : Sp := pSp (fun (a : List Str × Nat) vs G => (∃ v, vs = [v, .int a.2] ∧ rL rS a.1 v G) ∧ a.1.length ≤ 12 ∧ a.2 ≤ 4) (fun a => rL (rT rS) (arr a.1 a.2))
theorem has_arrangements (C : Ctx K mg) : Has P w K mg base "arrangements" ["folk", "many"] 1 sp_arrangements := by
  obtain ⟨fd, F⟩ := C.d_arrangements
  refine has_pure F C.g_arrangements sc_arrangements (fun _ _ _ _ _ _ us hl => match us, hl with | [_, _], _ => rfl) (fun a vs G h => by obtain ⟨⟨v, rfl, _⟩, _⟩ := h; rfl) (fun cdv A outer s H vs Q E hr a G sG hp k => ?_)
  have hu := hu_of hr
  refine ⟨_, (pss_cons (ps_set (i := 2) sc_arrangements.nd rfl (Or.inl rfl) (pe_lst (pa_cons (pe_tup pa_nil) pa_nil)))
  (pss_cons (ps_for PassesOwn.never (by rfl) (pi_range1 rfl C.f_range (pa_cons (pv 1) pa_nil)) (pg_name (i := 3) sc_arrangements.nd rfl (Or.inl rfl))
    (pss_one (ps_setLc2 (i := 2) (own := [("row", 4), ("one", 5)]) (vs1 := [5]) (by rfl) sc_arrangements.nd rfl rfl (sw_true rfl rfl rfl (by decide +kernel)) (pi_list (pv 2)) (blkOk_by (own := [("row", 4), ("one", 5)]) (N := N_arrangements) (sc := defScope s_arrangements) (by decide +kernel)) (by decide) (fun _ _ _ _ _ => (pg_name (i := 4) sc_arrangements.nd rfl (Or.inl rfl))) (fun _ _ _ _ _ => pts_nil) (fun _ _ _ _ _ => (pi_listK (K := K) rfl (pv 0))) (fun _ _ _ _ _ => (pg_name (i := 5) sc_arrangements.nd rfl (Or.inl rfl))) (fun _ _ _ _ _ => (pts_one (pt_cmpR (op_notIn_seqK (K := K) rfl) (pv 5) (pv 4) (by rfl)))) (fun _ _ _ _ _ => (pe_op (op_catAK (K := K) rfl) (pv 4) (pe_tup (pa_cons (pv 5) pa_nil)))))))
  (pss_one (ps_ret (pv 2))))), ?_⟩
  obtain ⟨fs, n⟩ := a
  obtain ⟨⟨v, rfl, hv⟩, hf, hn⟩ := hp
  dsimp only at hv hf hn
  refine q_asg (P := rL (rT rS) (arr fs 0)) (ev_l1 (R := rT rS) (x := []) ev_tT0) sG fun v0 G1 H1 e1 p1 => ?_
  refine q_for (Gb := G) (Hb := H) e1 (ei_range1 (n := n) (ev_vi rfl) (by omega) (by omega)) (fun i σ' G' H' => ∃ u y, σ' = [some v, some (.int n), some u, y, none, none] ∧ rL (rT rS) (arr fs i) u G')
    (fun G2 H2 e2 => ⟨v0, none, rfl, mn e2.g p1⟩) (fun G2 sG2 i d v' σ' G0 H0 G' H' hk s0 e0' j e' r => ?_) (fun G2 σ' G' H' sG2 s2 e2 j => ?_)
  · obtain ⟨u, y, rfl, hu'⟩ := j
    have hi : i < n := by have := (upTo_get hk).1; omega
    cases (show v' = .int d from r)
    have hu2 := mn e'.g hu'
    have hv2 : rL rS fs v G' := mn ((e1.g.trans sG2).trans (s0.trans e'.g)) hv
    have hlen : ((arr fs i).flatMap fun _ => fs).length < sizeLine := by
      have h1 := arr_len fs i
      have h2 : ((arr fs i).flatMap fun _ => fs).length = (arr fs i).length * fs.length := by
        generalize arr fs i = l
        induction l with
        | nil => simp
        | cons a l ih => rw [List.flatMap_cons, List.length_append, ih, List.length_cons, Nat.succ_mul]; omega
      rw [h2, sizeLine_eq]
      have h3 : fs.length ^ i ≤ 12 ^ 3 := Nat.le_trans (Nat.pow_le_pow_left hf i) (Nat.pow_le_pow_right (by omega) (by omega))
      have h4 : (arr fs i).length * fs.length ≤ 12 ^ 3 * 12 := Nat.mul_le_mul (Nat.le_trans h1 h3) hf
      omega
    refine s_asg (P := rL (rT rS) (arr fs (i + 1))) (EvN.list (en_lc2 (R := rT rS) (R1 := rS) (S := rT rS) (fun _ => fs) (fun row o => decide (o ∉ row)) (fun row o => row ++ [o]) (ei_list (ev_var rfl hu2)) hlen fun row rv G3 hrow s3 r3 => ?_)) e'.s fun v4 G4 H4 e4 p4 => ⟨G4, (s0.trans e'.g).trans e4.g, (e0'.trans e').trans e4, v4, _, rfl, p4⟩
    have hrl := (mem_arr.mp hrow).1
    refine ⟨_, eg_name, rfl, ei_list (ev_var rfl (mn s3 hv2)), fun o ov G4 ho s4 r4 => ?_⟩
    cases (show ov = .str o from r4)
    refine ⟨_, eg_name, rfl, et_B (ev_nin (ev_vs rfl) (ev_var rfl (mn s4 r3))), fun _ => ev_catT (ev_var rfl (mn s4 r3)) (ev_tT1 (ev_vs rfl)) ?_⟩
    rw [hrl, sizeLine_eq]
    show i + 1 ≤ _
    omega
  · obtain ⟨u, y, rfl, hu'⟩ := j
    rw [upTo_len, Int.toNat_natCast] at hu'
    exact s_ret (P := rL (rT rS) (arr fs n)) (ev_var rfl hu') e2.s fun v G3 H3 e3 p3 => k v G3 H3 (e2.trans e3) p3
/-! letters_in -/
def kvL (ks : List Nat) : List (Key × V) := ks.map fun i => (.inr (let1 i), .bl true)
theorem any_kvL (ks : List Nat) (j : Nat) : ((kvL ks).any fun kv => decide (kv.1 = Sum.inr (let1 j))) = decide (j ∈ ks) := by
  unfold kvL
  induction ks with
  | nil => rfl
  | cons i ks ih =>
    rw [List.map_cons, List.any_cons, ih]
    by_cases e : i = j
    · subst e; simp
    · have h1 : (decide (((Sum.inr (let1 i) : Key), V.bl true).1 = Sum.inr (let1 j))) = false := decide_eq_false fun h => e (let1_inj (Sum.inr.inj h))
      rw [h1, Bool.false_or, decide_eq_decide, List.mem_cons]
      exact ⟨.inr, fun h => h.resolve_left fun z => e z.symm⟩
theorem putK_kvL (ks : List Nat) (j : Nat) : putK (kvL ks) (.inr (let1 j)) (.bl true) = kvL (if j ∈ ks then ks else ks ++ [j]) := by
  unfold putK
  rw [any_kvL]
  by_cases e : j ∈ ks
  · rw [if_pos e, if_pos (decide_eq_true e)]
    unfold kvL
    rw [List.map_map]
    refine List.map_congr_left fun i hi => ?_
    show (if (Sum.inr (let1 i) : Key) = Sum.inr (let1 j) then ((Sum.inr (let1 i) : Key), V.bl true) else (Sum.inr (let1 i), V.bl true)) = _
    split <;> rfl
  · rw [if_neg e, if_neg (by rw [decide_eq_false e]; exact Bool.false_ne_true)]
    unfold kvL
    rw [List.map_append]
    rfl
abbrev N_letters_in : List Str := ["demand", "found", "factor", "label", "letters", "letter"]
theorem sc_letters_in : FnScope N_letters_in ["demand"] (defScope s_letters_in) := ⟨rfl, rfl, rfl, by decide +kernel, rfl, by decide +kernel, by decide +kernel⟩
abbrev sp_letters_in : Sp := pSp (fun (d : Dm) vs G => (∃ v, vs = [v] ∧ rDm d v G) ∧ d.Ok) (fun d => rS (lets d.L))
theorem has_letters_in (C : Ctx K mg) : Has P w K mg base "letters_in" ["demand"] 1 sp_letters_in := by
  obtain ⟨fd, F⟩ := C.d_letters_in
  refine has_pure F C.g_letters_in sc_letters_in (fun _ _ _ _ _ _ us hl => match us, hl with | [_], _ => rfl) (fun a vs G h => by obtain ⟨⟨v, rfl, _⟩, _⟩ := h; rfl) (fun cdv A outer s H vs Q E hr a G sG hp k => ?_)
  have hu := hu_of hr
  refine ⟨_, (pss_cons (ps_set (i := 1) sc_letters_in.nd rfl (Or.inl rfl) pe_dnewK)
  (pss_cons (ps_for PassesOwn.never (by rfl) (pi_tup (pe_ix ix_tup (pv 0) pe_int (fun _ _ => rfl))) (pg_tup rfl (pgs_cons (pg_name (i := 2) sc_letters_in.nd rfl (Or.inl rfl)) (pgs_cons (pg_name (i := 3) sc_letters_in.nd rfl (Or.inl rfl)) (pgs_cons (pg_name (i := 4) sc_letters_in.nd rfl (Or.inl rfl)) pgs_nil))))
    (pss_one (ps_for PassesOwn.never (by rfl) (pi_str (pv 4)) (pg_name (i := 5) sc_letters_in.nd rfl (Or.inl rfl))
    (pss_one (ps_dput hu (pv 1) (pv 5) pe_bl rfl)))))
  (pss_one (ps_ret (pe_join pe_str (pe_callB cr_sortedS (by rfl) C.f_sorted (by decide +kernel) (pa_cons (pe_callTy (call_list_dK rfl) (by rfl) C.f_list (by decide +kernel) (pa_cons (pv 1) pa_nil)) pa_nil))))))), ?_⟩
  obtain ⟨⟨v, rfl, hv⟩, ok⟩ := hp
  have hTl := ok.Tl
  refine q_asgN en_dK sG fun p o G1 H1 e1 hp1 gp1 ho eo => ?_
  subst eo
  refine q_for (Gb := G) (Hb := H) e1 (ei_tup (ev_fst (ev_var (P := rDm a) rfl (mn e1.g hv)))) (fun i σ' G' H' => ∃ x y z u ks, σ' = [some v, some (.ref p), x, y, z, u] ∧ H' p = some (.dK (kvL ks)) ∧ G' p = none ∧ ks.Nodup ∧ ∀ j, j ∈ ks ↔ ∃ t ∈ a.T.take i, j ∈ t.2)
    (fun G2 H2 e2 => ⟨none, none, none, none, [], rfl, e2.h _ _ ho, e2.f p (by rw [ho]; exact fun z => nomatch z) gp1, List.nodup_nil, fun j => ⟨(fun h => nomatch h), fun ⟨t, h, _⟩ => by simp at h⟩⟩) (fun G2 sG2 i d v' σ' G0 H0 G' H' hk s0 e0' j e' r => ?_) (fun G2 σ' G' H' sG2 s2 e2 j => ?_)
  · obtain ⟨x, y, z, u, ks, rfl, hx, gx, nd, hks⟩ := j
    have hx' := e'.h _ _ hx
    have gx' := e'.f p (by rw [hx]; exact fun z => nomatch z) gx
    unfold Dm.terms at hk
    rw [List.getElem?_map] at hk
    cases ht : a.T[i]? with
    | none => rw [ht] at hk; cases hk
    | some t =>
    rw [ht] at hk
    cases hk
    have hi : i < a.T.length := (List.getElem?_eq_some_iff.mp ht).1
    have hti : a.T.take (i + 1) = a.T.take i ++ [t] := by
      rw [take_snoc hi]
      rw [List.getElem?_eq_getElem hi] at ht
      rw [Option.some.inj ht]
    obtain ⟨t0, t1, t2, t3, t4, t5⟩ := ok.t t (List.mem_of_getElem? ht)
    obtain ⟨w1, w2, w3, q1, q2, q3, eg⟩ := eg_3 (K := K) (σ := [some v, some (.ref p), x, y, z, u]) (i := 2) (j := 3) (k := 4) r
    refine eg _ e'.s _ ?_
    cases (show w3 = .str (lets t.2) from q3)
    refine s_for (Gb := G) (Hb := H) (e0'.trans e') (ei_str (x := lets t.2) (ev_vs rfl)) (fun j σ' G' H' => ∃ x y z u ks', σ' = [some v, some (.ref p), x, y, z, u] ∧ z = some (.str (lets t.2)) ∧ H' p = some (.dK (kvL ks')) ∧ G' p = none ∧ ks'.Nodup ∧ ks'.length ≤ ks.length + j ∧ ∀ m, m ∈ ks' ↔ (∃ t ∈ a.T.take i, m ∈ t.2) ∨ m ∈ t.2.take j)
      (fun G3 H3 e3 => ⟨_, _, _, _, ks, rfl, rfl, e3.h _ _ hx', e3.f p (by rw [hx']; exact fun z => nomatch z) gx', nd, Nat.le_refl _, fun m => by rw [List.take_zero, hks m]; simp⟩) (fun G3 sG3 m dd v' σ' G4 H4 G5 H5 hk s4 e4 jj e5 r => ?_) (fun G3 σ' G4 H4 sG3 s4 e4 jj => ?_)
    · obtain ⟨x, y, z, u, ks', rfl, rfl, hx5, gx5, nd', hl5, hm5⟩ := jj
      cases (show v' = .str dd from r)
      rw [signs_lets, List.getElem?_map] at hk
      cases hn : t.2[m]? with
      | none => rw [hn] at hk; cases hk
      | some n =>
      rw [hn] at hk
      cases hk
      have hml : m < t.2.length := (List.getElem?_eq_some_iff.mp hn).1
      refine eg_name _ e5.s _ ?_
      have hx6 := e5.h _ _ hx5
      have gx6 := e5.f p (by rw [hx5]; exact fun z => nomatch z) gx5
      have hks4 : ks'.length ≤ 4 := by
        have := nodup_len (l := ks') (m := List.range 4) nd' fun q hq => by
          rw [List.mem_range]
          rcases (hm5 q).mp hq with ⟨t', h1, h2⟩ | h
          · exact (ok.t t' (List.mem_of_mem_take h1)).2.2.2.2.2 q h2
          · exact t5 q (List.mem_of_mem_take h)
        rwa [List.length_range] at this
      refine s_dput (P := rB true) (k := .inr (let1 n)) hx6 (ev_bl.at e5.s) (ev_var rfl rfl) (ev_var rfl rfl) (by unfold kvL; rw [List.length_map, sizeLine_eq]; omega) fun v7 G7 H7 e7 p7 h7 => ?_
      have gx7 := e7.f p (by rw [hx6]; exact fun z => nomatch z) gx6
      cases (show v7 = .bl true from p7)
      refine ⟨G7, (s4.trans e5.g).trans e7.g, ((e4.trans e5).trans e7).upd hp1 gx7, _, _, _, _, if n ∈ ks' then ks' else ks' ++ [n], rfl, rfl, by rw [upd_same, putK_kvL], gx7, ?_, ?_, fun q => ?_⟩
      · by_cases h : n ∈ ks'
        · rw [if_pos h]; exact nd'
        · rw [if_neg h, List.nodup_append]
          exact ⟨nd', by simp, fun a ha b hb e => h (by rw [List.mem_singleton] at hb; rw [← hb, ← e]; exact ha)⟩
      · split
        · omega
        · rw [List.length_append]; simp only [List.length_cons, List.length_nil]; omega
      · have htk : t.2.take (m + 1) = t.2.take m ++ [n] := by
          rw [take_snoc hml]
          rw [List.getElem?_eq_getElem hml] at hn
          rw [Option.some.inj hn]
        rw [htk, List.mem_append, List.mem_singleton, ← or_assoc, ← hm5 q]
        by_cases h : n ∈ ks'
        · rw [if_pos h]
          exact ⟨.inl, fun z => z.elim id fun e => e ▸ h⟩
        · rw [if_neg h, List.mem_append, List.mem_singleton]
    · obtain ⟨x, y, z, u, ks', rfl, rfl, hx5, gx5, nd', hl5, hm5⟩ := jj
      refine ⟨G4, ((s0.trans e'.g).trans sG3).trans s4, e4, x, y, _, u, ks', rfl, hx5, gx5, nd', fun m => ?_⟩
      rw [hm5 m, hti, show (signs (lets t.2)).length = t.2.length by rw [signs_lets, List.length_map], List.take_length]
      constructor
      · rintro (⟨t', h1, h2⟩ | h)
        · exact ⟨t', List.mem_append_left _ h1, h2⟩
        · exact ⟨t, List.mem_append_right _ (List.mem_singleton.mpr rfl), h⟩
      · rintro ⟨t', h1, h2⟩
        rcases List.mem_append.mp h1 with h1 | h1
        · exact .inl ⟨t', h1, h2⟩
        · rw [List.mem_singleton.mp h1] at h2; exact .inr h2
  · obtain ⟨x, y, z, u, ks, rfl, hx, gx, nd, hks⟩ := j
    have e3 := e2.know hp1 gx hx
    have htk : a.T.take a.terms.length = a.T := by unfold Dm.terms; rw [List.length_map, List.take_length]
    have h4 : ∀ i ∈ ks, i < 4 := fun i hi => by
      obtain ⟨t, h1, h2⟩ := (hks i).mp hi
      exact (ok.t t (List.mem_of_mem_take h1)).2.2.2.2.2 i h2
    have hL : ((List.range 4).filter fun i => decide (i ∈ ks)) = a.L := by
      unfold Dm.L
      refine List.filter_congr fun i _ => ?_
      rw [Bool.eq_iff_iff, decide_eq_true_eq, hks i, htk, List.any_eq_true]
      simp only [List.contains_iff_mem]
    have hk4 : ks.length ≤ 4 := by
      have := nodup_len (l := ks) (m := List.range 4) nd fun q hq => List.mem_range.mpr (h4 q hq)
      rwa [List.length_range] at this
    have hlist : EvP (tCB rListD (tCons (tVar 1) tNil)) [some v, some (.ref p), x, y, z, u] (L2.upd G' p (.dK (kvL ks))) (rL rS (ks.map let1)) := ev_cb1 (P1 := rKd (kvL ks)) (ev_var rfl ⟨p, rfl, upd_same⟩) fun v G3 s pp H s' Q qq => by
      obtain ⟨d, rfl, hd⟩ := pp
      exact ⟨d, _, rfl, s' _ _ hd, fun p hp => qq _ _ _ (Ext.new s' hp) ⟨p, _, rfl, upd_same, by
        rw [all2_strs]
        unfold kvL
        rw [List.map_map, List.map_map]
        rfl⟩⟩
    refine s_ret (P := rS (lets a.L)) (ev_join (a := Str.empty) ev_str (EvP.imp (ev_sortS hlist (by rw [List.length_map]; omega)) fun v G3 _ ⟨ys, h1, h2, h3⟩ => ⟨ys, h3, ?_, ?_⟩)) e3.s fun v G3 H3 e4 p4 => k v G3 H3 (e3.trans e4) p4
    · have hy := sorted_letters nd h4 h1 h2
      have hl : ys.length ≤ 4 := by rw [h1.length_eq, List.length_map]; exact hk4
      have hsum : (ys.map (·.length)).sum ≤ ys.length * 1 := by
        rw [hy]
        generalize ((List.range 4).filter fun i => decide (i ∈ ks)) = l
        induction l with
        | nil => simp
        | cons i l ih =>
          simp only [List.map_cons, List.sum_cons, List.length_cons] at ih ⊢
          have : (let1 i).length = 1 := rfl
          omega
      show (ys.map (·.length)).sum + ys.length * 0 ≤ 16777216
      omega
    · rw [sorted_letters nd h4 h1 h2, hL]
      exact join_letters a
end
end Eld
set_option maxRecDepth 100000
set_option maxHeartbeats 1000000
/-! most_letters, instances_of, places_of. -/
namespace Eld
open PySem PySem.Spec PyProof.Rows L2
section
variable {P : Program} {w : World} {K : PySem.W.Frag} {mg : Str → Option Value} {base : Heap}
abbrev N_most_letters : List Str := ["book", "demand"]
theorem sc_most_letters : FnScope N_most_letters ["book"] (defScope s_most_letters) := ⟨rfl, rfl, rfl, by decide +kernel, rfl, by decide +kernel, by decide +kernel⟩
abbrev sp_most_letters (K : PySem.W.Frag) : Sp := pSp (fun (d : Dm) vs G => (∃ v, vs = [v] ∧ rBk K d v G) ∧ d.Ok) (fun d => rI (d.L.length : Int))
theorem lets_small {ls : List Nat} (h : ls.length ≤ 1000) : (lets ls).length ≤ sizeLine := by rw [lets_len]; exact Nat.le_of_lt (small1000 h)
theorem Dm.L_1000 (d : Dm) : d.L.length ≤ 1000 := by have := d.L_len; omega
theorem has_most_letters (C : Ctx K mg) : Has P w K mg base "most_letters" ["book"] 2 (sp_most_letters K) := by
  obtain ⟨fd, F⟩ := C.d_most_letters
  refine has_pure F C.g_most_letters sc_most_letters (fun _ _ _ _ _ _ us hl => match us, hl with | [_], _ => rfl) (fun a vs G h => by obtain ⟨⟨v, rfl, _⟩, _⟩ := h; rfl) (fun cdv A outer s H vs Q E hr a G sG hp k => ?_)
  have hu := hu_of hr
  refine ⟨_, (pss_one (ps_ret (pe_callB (cr_max rfl) (by rfl) C.f_max (by decide +kernel) (pa_cons (pe_op op_cat (pe_lst (pa_cons pe_int pa_nil)) (pe_lc (own := [("demand", 1)]) (by rfl) sc_most_letters.nd (pi_tup (pe_fld (pv 0) rfl)) (blkOk_by (own := [("demand", 1)]) (N := N_most_letters) (sc := defScope s_most_letters) (by decide +kernel)) (fun _ _ _ _ _ => (pg_name (i := 1) sc_most_letters.nd rfl (Or.inl rfl))) (fun _ _ _ _ _ => pts_nil) (fun _ _ _ _ _ => (pe_callB call_len_str (by rfl) C.f_len (by decide +kernel) (pa_cons (pe_callH (has_letters_in C) hr (by decide) rfl (pa_cons (pv 1) pa_nil)) pa_nil))))) pa_nil)))), ?_⟩
  obtain ⟨⟨v, rfl, hv⟩, ok⟩ := hp
  refine s_ret (P := rI (a.L.length : Int)) (ev_maxI (ns := [0] ++ [a].map fun d => (d.L.length : Int)) (ev_catL (ev_l1 ev_int) (ev_lcm (R := rDm) (S := rI) (fun d => (d.L.length : Int)) (ei_tup (ev_demands C (ev_var rfl hv))) (small1000 (by show 1 ≤ 1000; omega)) fun d v' G' hd s r => ?_) (by rw [sizeLine_eq]; show 1 + 1 ≤ 16777216; omega)) (by simp) fun y hy => ?_) sG fun v G' H' e p => k v G' H' e p
  · obtain rfl := List.mem_singleton.mp hd
    refine ⟨_, eg_name, rfl, EvP.imp (ev_lenS (x := lets d.L) (ev_call1 (P := rDm d) (post := fun d : Dm => rS (lets d.L)) d (ev_var rfl r) fun v G' _ p => ⟨⟨v, rfl, p⟩, ok⟩) (lets_small d.L_1000)) fun v G' _ p => by rw [lets_len] at p; exact p⟩
  · have hy : y = 0 ∨ y = (a.L.length : Int) := by simpa using hy
    rcases hy with rfl | rfl <;> omega
abbrev N_instances_of : List Str := ["book", "folk", "found", "number", "demand", "row"]
theorem sc_instances_of : FnScope N_instances_of ["book", "folk"] (defScope s_instances_of) := ⟨rfl, rfl, rfl, by decide +kernel, rfl, by decide +kernel, by decide +kernel⟩
abbrev sp_instances_of (K : PySem.W.Frag) : Sp := pSp (fun (a : Dm × List Str) vs G => (∃ u v, vs = [u, v] ∧ rBk K a.1 u G ∧ rL rS a.2 v G) ∧ a.1.Ok ∧ a.1.L.length ≤ 3 ∧ a.2.length ≤ 8) (fun a => rL (r2 rI (rT rS)) ((arr a.2 a.1.L.length).map fun row => ((0 : Int), row)))
theorem has_instances_of (C : Ctx K mg) : Has P w K mg base "instances_of" ["book", "folk"] 2 (sp_instances_of K) := by
  obtain ⟨fd, F⟩ := C.d_instances_of
  refine has_pure F C.g_instances_of sc_instances_of (fun _ _ _ _ _ _ us hl => match us, hl with | [_, _], _ => rfl) (fun a vs G h => by obtain ⟨⟨u, v, rfl, _⟩, _⟩ := h; rfl) (fun cdv A outer s H vs Q E hr a G sG hp k => ?_)
  have hu := hu_of hr
  refine ⟨_, (pss_cons (ps_set (i := 2) sc_instances_of.nd rfl (Or.inl rfl) (pe_lst pa_nil))
  (pss_cons (ps_for PassesOwn.never (by rfl) (pi_enumT rfl C.f_enumerate (pa_cons (pe_fld (pv 0) rfl) pa_nil)) (pg_tup rfl (pgs_cons (pg_name (i := 3) sc_instances_of.nd rfl (Or.inr rfl)) (pgs_cons (pg_name (i := 4) sc_instances_of.nd rfl (Or.inl rfl)) pgs_nil)))
    (pss_one (ps_expr (pe_bm PySem.F.plainAttrs_list PySem.F.slot_list_extend PySem.F.type_list_extend mt_extend (pv 2) (pa_cons (pe_lc (own := [("row", 5)]) (by rfl) sc_instances_of.nd (pi_list (pe_callH (has_arrangements C) hr (by decide) rfl (pa_cons (pv 1) (pa_cons (pe_callB call_len_str (by rfl) C.f_len (by decide +kernel) (pa_cons (pe_callH (has_letters_in C) hr (by decide) rfl (pa_cons (pv 4) pa_nil)) pa_nil)) pa_nil)))) (blkOk_by (own := [("row", 5)]) (N := N_instances_of) (sc := defScope s_instances_of) (by decide +kernel)) (fun _ _ _ _ _ => (pg_name (i := 5) sc_instances_of.nd rfl (Or.inl rfl))) (fun _ _ _ _ _ => pts_nil) (fun _ _ _ _ _ => (pe_tup (pa_cons (pv 3) (pa_cons (pv 5) pa_nil))))) pa_nil)))))
  (pss_one (ps_ret (pv 2))))), ?_⟩
  obtain ⟨d, fs⟩ := a
  obtain ⟨⟨u, v, rfl, hb, hv⟩, ok, h3, hf⟩ := hp
  dsimp only at hb hv ok h3 hf
  have hal : (arr fs d.L.length).length ≤ 512 := Nat.le_trans (arr_len fs _) (Nat.le_trans (Nat.pow_le_pow_left hf _) (Nat.pow_le_pow_right (by omega) h3))
  refine q_asgN (en_l0 (R := r2 rI (rT rS))) sG fun l o G1 H1 e1 hl gl hol ol => ?_
  obtain ⟨xs0, rfl, al0⟩ := ol
  cases al0
  refine q_for (Gb := G) (Hb := H) e1 (ei_enumT (R := rDm) (ds := [d]) (ev_demands C (ev_var rfl (mn e1.g hb)))) (fun i σ' G' H' => ∃ y z xs, σ' = [some u, some v, some (.ref l), y, z, none] ∧ H' l = some (.lst xs) ∧ G' l = none ∧ All2 (r2 rI (rT rS)) G' xs (if i = 0 then [] else (arr fs d.L.length).map fun row => ((0 : Int), row)))
    (fun G2 H2 e2 => ⟨none, none, [], rfl, e2.h _ _ hol, e2.f l (by rw [hol]; exact fun z => nomatch z) gl, .nil⟩) (fun G2 sG2 i dd v' σ' G0 H0 G' H' hk s0 e0' j e' r => ?_) (fun G2 σ' G' H' sG2 s2 e2 j => ?_)
  · obtain ⟨y, z, xs, rfl, hx, gx, al⟩ := j
    have hx' := e'.h _ _ hx
    have gx' := e'.f l (by rw [hx]; exact fun z => nomatch z) gx
    obtain ⟨h1, h2⟩ := get_zip hk
    have hi : i = 0 := by
      have := (List.getElem?_eq_some_iff.mp h2).1
      simpa using this
    subst hi
    obtain ⟨n, d'⟩ := dd
    have hn0 : n = 0 := h1
    have hd0 : d = d' := by simpa using h2
    clear h1 h2
    subst hn0 hd0
    rw [if_pos rfl] at al
    cases al
    obtain ⟨w1, w2, q1, q2, eg⟩ := eg_2 (K := K) (σ := [some u, some v, some (.ref l), y, z, none]) (i := 3) (j := 4) r
    refine eg _ e'.s _ ?_
    cases (show w1 = .int 0 from q1)
    refine s_ext hx' (ev_var rfl rfl) (ev_lcm (R := rT rS) (S := r2 rI (rT rS)) (fun row => ((0 : Int), row)) (ei_list (ev_call2 (P := rL rS fs) (P1 := rI (d.L.length : Int)) (post := fun a : List Str × Nat => rL (rT rS) (arr a.1 a.2)) (fs, d.L.length) (ev_var rfl (mn ((e1.g.trans sG2).trans (s0.trans e'.g)) hv)) (EvP.imp (ev_lenS (x := lets d.L) (ev_call1 (P := rDm d) (post := fun d : Dm => rS (lets d.L)) d (ev_var rfl q2) fun v G' _ p => ⟨⟨v, rfl, p⟩, ok⟩) (lets_small d.L_1000)) fun v G' _ p => by rw [lets_len] at p; exact p) fun v1 v2 G' _ p1 p2 => ⟨⟨v1, by rw [show v2 = .int _ from p2], p1⟩, by show fs.length ≤ 12; omega, d.L_len⟩)) (small1000 (by show (arr fs d.L.length).length ≤ 1000; omega)) fun row rv G3 hrow s3 r3 => ⟨_, eg_name, rfl, ev_t2 (R := rI) (S := rT rS) (x := 0) (y := row) (ev_vi rfl) (ev_var rfl r3)⟩) e'.s ?_ fun ys G3 H3 e3 al3 h3 => ?_
    · show ([] : List V).length + ((arr fs d.L.length).map fun row => ((0 : Int), row)).length ≤ _
      rw [List.length_map, List.length_nil, sizeLine_eq]; omega
    · have gx3 := e3.f l (by rw [hx']; exact fun z => nomatch z) gx'
      refine ⟨G3, (s0.trans e'.g).trans e3.g, ((e0'.trans e').trans e3).upd hl gx3, _, _, _, rfl, upd_same, gx3, ?_⟩
      rw [if_neg (by omega), List.nil_append]
      exact al3
  · obtain ⟨y, z, xs, rfl, hx, gx, al⟩ := j
    rw [if_neg (by show ¬ ((upTo 0 1).zip [d]).length = 0; rw [List.length_zip, upTo_len]; simp)] at al
    have e3 := e2.know hl gx hx
    exact s_ret (P := rL (r2 rI (rT rS)) ((arr fs d.L.length).map fun row => ((0 : Int), row))) (ev_var rfl ⟨l, xs, rfl, upd_same, al.mono (Same.new gx)⟩) e3.s fun v G3 H3 e4 p4 => k v G3 H3 (e3.trans e4) p4
abbrev N_places_of : List Str := ["book", "folk", "found", "label", "size", "row"]
theorem sc_places_of : FnScope N_places_of ["book", "folk"] (defScope s_places_of) := ⟨rfl, rfl, rfl, by decide +kernel, rfl, by decide +kernel, by decide +kernel⟩
abbrev sp_places_of (K : PySem.W.Frag) : Sp := pSp (fun (a : Dm × List Str) vs G => (∃ u v, vs = [u, v] ∧ rBk K a.1 u G ∧ rL rS a.2 v G) ∧ a.1.Ok ∧ a.2.length ≤ 8) (fun a => rL rPl ((arr a.2 a.1.s).map fun row => (a.1.lab, row)))
theorem has_places_of (C : Ctx K mg) : Has P w K mg base "places_of" ["book", "folk"] 2 (sp_places_of K) := by
  obtain ⟨fd, F⟩ := C.d_places_of
  refine has_pure F C.g_places_of sc_places_of (fun _ _ _ _ _ _ us hl => match us, hl with | [_, _], _ => rfl) (fun a vs G h => by obtain ⟨⟨u, v, rfl, _⟩, _⟩ := h; rfl) (fun cdv A outer s H vs Q E hr a G sG hp k => ?_)
  have hu := hu_of hr
  refine ⟨_, (pss_cons (ps_set (i := 2) sc_places_of.nd rfl (Or.inl rfl) (pe_lst pa_nil))
  (pss_cons (ps_for PassesOwn.never (by rfl) (pi_tup (pe_fld (pv 0) rfl)) (pg_tup rfl (pgs_cons (pg_name (i := 3) sc_places_of.nd rfl (Or.inr rfl)) (pgs_cons (pg_name (i := 4) sc_places_of.nd rfl (Or.inl rfl)) pgs_nil)))
    (pss_one (ps_expr (pe_bm PySem.F.plainAttrs_list PySem.F.slot_list_extend PySem.F.type_list_extend mt_extend (pv 2) (pa_cons (pe_lc (own := [("row", 5)]) (by rfl) sc_places_of.nd (pi_list (pe_callH (has_arrangements C) hr (by decide) rfl (pa_cons (pv 1) (pa_cons (pv 4) pa_nil)))) (blkOk_by (own := [("row", 5)]) (N := N_places_of) (sc := defScope s_places_of) (by decide +kernel)) (fun _ _ _ _ _ => (pg_name (i := 5) sc_places_of.nd rfl (Or.inl rfl))) (fun _ _ _ _ _ => pts_nil) (fun _ _ _ _ _ => (pe_tup (pa_cons (pv 3) (pa_cons (pv 5) pa_nil))))) pa_nil)))))
  (pss_one (ps_ret (pv 2))))), ?_⟩
  obtain ⟨d, fs⟩ := a
  obtain ⟨⟨u, v, rfl, hb, hv⟩, ok, hf⟩ := hp
  dsimp only at hb hv ok hf
  have hs2 : d.s ≤ 2 := by rcases ok.s with h | h <;> omega
  have hal : (arr fs d.s).length ≤ 64 := Nat.le_trans (arr_len fs _) (Nat.le_trans (Nat.pow_le_pow_left hf _) (Nat.pow_le_pow_right (by omega) hs2))
  refine q_asgN (en_l0 (R := rPl)) sG fun l o G1 H1 e1 hl gl hol ol => ?_
  obtain ⟨xs0, rfl, al0⟩ := ol
  cases al0
  refine q_for (Gb := G) (Hb := H) e1 (ei_tupZ (R := rTb) (d := d.tb) (ev_tables C (ev_var rfl (mn e1.g hb)))) (fun i σ' G' H' => ∃ y z xs, σ' = [some u, some v, some (.ref l), y, z, none] ∧ H' l = some (.lst xs) ∧ G' l = none ∧ All2 rPl G' xs (if i = 0 then [] else (arr fs d.s).map fun row => (d.lab, row)))
    (fun G2 H2 e2 => ⟨none, none, [], rfl, e2.h _ _ hol, e2.f l (by rw [hol]; exact fun z => nomatch z) gl, .nil⟩) (fun G2 sG2 i dd v' σ' G0 H0 G' H' hk s0 e0' j e' r => ?_) (fun G2 σ' G' H' sG2 s2 e2 j => ?_)
  · obtain ⟨y, z, xs, rfl, hx, gx, al⟩ := j
    have hx' := e'.h _ _ hx
    have gx' := e'.f l (by rw [hx]; exact fun z => nomatch z) gx
    have hi : i = 0 := by
      have := (List.getElem?_eq_some_iff.mp hk).1
      simpa using this
    subst hi
    have hd : d.tb = dd := by simpa using hk
    subst hd
    rw [if_pos rfl] at al
    cases al
    obtain ⟨w1, w2, q1, q2, eg⟩ := eg_2 (K := K) (σ := [some u, some v, some (.ref l), y, z, none]) (i := 3) (j := 4) r
    refine eg _ e'.s _ ?_
    cases (show w1 = .str d.lab from q1)
    cases (show w2 = .int (d.s : Int) from q2)
    refine s_ext hx' (ev_var rfl rfl) (ev_lcm (R := rT rS) (S := rPl) (fun row => (d.lab, row)) (ei_list (ev_call2 (P := rL rS fs) (P1 := rI (d.s : Int)) (post := fun a : List Str × Nat => rL (rT rS) (arr a.1 a.2)) (fs, d.s) (ev_var rfl (mn ((e1.g.trans sG2).trans (s0.trans e'.g)) hv)) (ev_vi rfl) fun v1 v2 G' _ p1 p2 => ⟨⟨v1, by rw [show v2 = .int _ from p2], p1⟩, by show fs.length ≤ 12; omega, by show d.s ≤ 4; omega⟩)) (small1000 (by show (arr fs d.s).length ≤ 1000; omega)) fun row rv G3 hrow s3 r3 => ⟨_, eg_name, rfl, ev_t2 (R := rS) (S := rT rS) (x := d.lab) (y := row) (ev_vs rfl) (ev_var rfl r3)⟩) e'.s ?_ fun ys G3 H3 e3 al3 h3 => ?_
    · show ([] : List V).length + ((arr fs d.s).map fun row => (d.lab, row)).length ≤ _
      rw [List.length_map, List.length_nil, sizeLine_eq]; omega
    · have gx3 := e3.f l (by rw [hx']; exact fun z => nomatch z) gx'
      refine ⟨G3, (s0.trans e'.g).trans e3.g, ((e0'.trans e').trans e3).upd hl gx3, _, _, _, rfl, upd_same, gx3, ?_⟩
      rw [if_neg (by omega), List.nil_append]
      exact al3
  · obtain ⟨y, z, xs, rfl, hx, gx, al⟩ := j
    rw [if_neg (by show ¬ ([d.tb] : List (Str × Int)).length = 0; simp)] at al
    have e3 := e2.know hl gx hx
    exact s_ret (P := rL rPl ((arr fs d.s).map fun row => (d.lab, row))) (ev_var rfl ⟨l, xs, rfl, upd_same, al.mono (Same.new gx)⟩) e3.s fun v G3 H3 e4 p4 => k v G3 H3 (e3.trans e4) p4
end
end Eld
set_option maxRecDepth 100000
set_option maxHeartbeats 1000000
/-! left_of, equation_of, opened, open_equations, unknowns_of. -/
namespace Eld
open PySem PySem.Spec PyProof.Rows L2
/-! ### sums of factors by place -/
def accN (ts : List (Pl × Int)) : List (Pl × Int) := ts.foldl (fun acc kv => putN acc kv.1 ((getN acc kv.1).getD 0 + kv.2)) []
theorem accN_snoc (ts : List (Pl × Int)) (kv : Pl × Int) : accN (ts ++ [kv]) = putN (accN ts) kv.1 ((getN (accN ts) kv.1).getD 0 + kv.2) := by
  unfold accN; rw [List.foldl_append]; rfl
theorem acc_nd (ts : List (Pl × Int)) : ∀ acc : List (Pl × Int), (acc.map (·.1)).Nodup → ((ts.foldl (fun acc kv => putN acc kv.1 ((getN acc kv.1).getD 0 + kv.2)) acc).map (·.1)).Nodup := by
  induction ts with
  | nil => exact fun acc h => h
  | cons t ts ih => exact fun acc h => ih _ (putN_nodup _ _ h)
theorem accN_nd (ts : List (Pl × Int)) : ((accN ts).map (·.1)).Nodup := acc_nd ts [] List.nodup_nil
theorem psum_put {l : List (Pl × Int)} (nd : (l.map (·.1)).Nodup) (k : Pl) (n : Int) (y : Pl → Int) : psum (putN l k n) y = psum l y + (n - (getN l k).getD 0) * y k := by
  unfold putN
  cases h : getN l k with
  | none =>
    rw [if_neg (by simp)]
    unfold psum
    rw [List.map_append, List.sum_append]
    simp
  | some v =>
    rw [if_pos (by simp)]
    show psum _ y = psum l y + (n - v) * y k
    have hm := getN_some h
    clear h
    induction l with
    | nil => cases hm
    | cons p l ih =>
      rw [List.map_cons, List.nodup_cons] at nd
      unfold psum at ih ⊢
      rw [List.map_cons, List.map_cons, List.sum_cons, List.map_cons, List.sum_cons]
      by_cases e : p.1 = k
      · rw [if_pos e]
        have hp : p.2 = v := by
          rcases List.mem_cons.mp hm with rfl | h
          · rfl
          · exact (nd.1 (List.mem_map.mpr ⟨_, h, e.symm⟩)).elim
        have hl : (l.map fun kv => if kv.1 = k then (kv.1, n) else kv) = l := by
          refine (List.map_congr_left fun kv hkv => ?_).trans (List.map_id l)
          rw [if_neg fun z => nd.1 (List.mem_map.mpr ⟨kv, hkv, z.trans e.symm⟩)]; rfl
        rw [hl]
        show n * y p.1 + _ = _
        rw [hp, e]
        grind
      · rw [if_neg e]
        have hm2 : (k, v) ∈ l := (List.mem_cons.mp hm).resolve_left fun z => e (by rw [← z])
        rw [ih nd.2 hm2]
        omega
theorem psum_acc (ts : List (Pl × Int)) (y : Pl → Int) : ∀ acc : List (Pl × Int), (acc.map (·.1)).Nodup → psum (ts.foldl (fun acc kv => putN acc kv.1 ((getN acc kv.1).getD 0 + kv.2)) acc) y = psum acc y + psum ts y := by
  induction ts with
  | nil => intro acc _; show psum acc y = psum acc y + 0; omega
  | cons t ts ih =>
    intro acc nd
    rw [List.foldl_cons, ih _ (putN_nodup _ _ nd), psum_put nd]
    have : psum (t :: ts) y = t.2 * y t.1 + psum ts y := by unfold psum; rw [List.map_cons, List.sum_cons]
    rw [this]
    grind
theorem psum_accN (ts : List (Pl × Int)) (y : Pl → Int) : psum (accN ts) y = psum ts y := by
  have := psum_acc ts y [] List.nodup_nil
  unfold accN
  rw [this]
  show 0 + _ = _
  omega
theorem acc_bnd {c : Nat} (ts : List (Pl × Int)) (hc : ∀ t ∈ ts, t.2.natAbs ≤ c) : ∀ (acc : List (Pl × Int)) (B : Nat), (∀ kv ∈ acc, kv.2.natAbs ≤ B) → ∀ kv ∈ ts.foldl (fun acc kv => putN acc kv.1 ((getN acc kv.1).getD 0 + kv.2)) acc, kv.2.natAbs ≤ B + c * ts.length := by
  induction ts with
  | nil => exact fun acc B h kv hk => h kv hk
  | cons t ts ih =>
    intro acc B h kv hk
    have ht := hc t (List.mem_cons_self ..)
    have hg : ((getN acc t.1).getD 0).natAbs ≤ B := by
      cases e : getN acc t.1 with
      | none => exact Nat.zero_le _
      | some v => exact h _ (getN_some e)
    have := ih (fun t ht => hc t (List.mem_cons_of_mem _ ht)) _ (B + c) (fun kv hkv => ?_) kv hk
    · rw [List.length_cons, Nat.mul_succ]; omega
    · have hkv : kv ∈ putN acc t.1 ((getN acc t.1).getD 0 + t.2) := hkv
      unfold putN at hkv
      split at hkv
      · obtain ⟨p, hp, rfl⟩ := List.mem_map.mp hkv
        split
        · show ((getN acc t.1).getD 0 + t.2).natAbs ≤ _; omega
        · have := h p hp; omega
      · rcases List.mem_append.mp hkv with hkv | hkv
        · have := h kv hkv; omega
        · rw [List.mem_singleton.mp hkv]
          show ((getN acc t.1).getD 0 + t.2).natAbs ≤ _; omega
theorem acc_keys (ts : List (Pl × Int)) : ∀ (acc : List (Pl × Int)) (kv : Pl × Int), kv ∈ ts.foldl (fun acc kv => putN acc kv.1 ((getN acc kv.1).getD 0 + kv.2)) acc → kv.1 ∈ acc.map (·.1) ∨ kv.1 ∈ ts.map (·.1) := by
  induction ts with
  | nil => exact fun acc kv h => .inl (List.mem_map.mpr ⟨kv, h, rfl⟩)
  | cons t ts ih =>
    intro acc kv h
    rcases ih _ kv h with h | h
    · rw [putN_keys] at h
      split at h
      · exact .inl h
      · rcases List.mem_append.mp h with h | h
        · exact .inl h
        · rw [List.mem_singleton.mp h, List.map_cons]; exact .inr (List.mem_cons_self ..)
    · rw [List.map_cons]; exact .inr (List.mem_cons_of_mem _ h)
theorem acc_len (ts : List (Pl × Int)) : ∀ acc : List (Pl × Int), (ts.foldl (fun acc kv => putN acc kv.1 ((getN acc kv.1).getD 0 + kv.2)) acc).length ≤ acc.length + ts.length := by
  induction ts with
  | nil => exact fun acc => Nat.le_refl _
  | cons t ts ih =>
    intro acc
    have h1 := ih (putN acc t.1 ((getN acc t.1).getD 0 + t.2))
    have h2 := putN_length acc t.1 ((getN acc t.1).getD 0 + t.2)
    rw [List.foldl_cons, List.length_cons]
    omega
/-- without the factors that are nought -/
def filtN (m : Int) (l : List (Pl × Int)) : List (Pl × Int) := l.filter fun kv => !decide (kv.2.fmod m = 0)
theorem psum_filt {m : Int} (l : List (Pl × Int)) (y : Pl → Int) : m ∣ psum l y - psum (filtN m l) y := by
  unfold filtN
  induction l with
  | nil => exact ⟨0, by show (0 : Int) - 0 = m * 0; omega⟩
  | cons kv l ih =>
    rw [List.filter_cons]
    have h1 : psum (kv :: l) y = kv.2 * y kv.1 + psum l y := by unfold psum; rw [List.map_cons, List.sum_cons]
    obtain ⟨a, ha⟩ := ih
    by_cases e : kv.2.fmod m = 0
    · rw [decide_eq_true e]
      obtain ⟨b, hb⟩ := Int.dvd_of_fmod_eq_zero e
      rw [if_neg (by simp), h1]
      exact ⟨b * y kv.1 + a, by rw [hb]; grind⟩
    · rw [decide_eq_false e, if_pos (by simp), h1]
      have h2 : psum (kv :: l.filter fun kv => !decide (kv.2.fmod m = 0)) y = kv.2 * y kv.1 + psum (l.filter fun kv => !decide (kv.2.fmod m = 0)) y := by unfold psum; rw [List.map_cons, List.sum_cons]
      rw [h2]
      exact ⟨a, by rw [← ha]; omega⟩
def eqN1 (m : Int) (ts : List (Pl × Int)) : List (Pl × Int) := filtN m (accN ts)
theorem eqN1_sum {m : Int} (ts : List (Pl × Int)) (y : Pl → Int) : m ∣ psum ts y - psum (eqN1 m ts) y := by
  have := psum_filt (m := m) (accN ts) y
  rwa [psum_accN] at this
theorem eqN1_ok {m r : Int} {us : List Pl} {ts : List (Pl × Int)} (hm : 0 < m) (hk : ∀ t ∈ ts, t.1 ∈ us) (hb : ∀ t ∈ ts, t.2.natAbs ≤ 1000) (hl : ts.length ≤ 100) : EqOk us (eqN1 m ts, r) := by
  refine ⟨(accN_nd ts).sublist (List.filter_sublist.map _), fun kv hkv => ?_, fun kv hkv => ⟨fun z => ?_, ?_⟩⟩
  · have := acc_keys ts [] kv (List.mem_filter.mp hkv).1
    obtain ⟨t, ht, e⟩ := List.mem_map.mp (this.resolve_left fun h => nomatch h)
    rw [← e]; exact hk t ht
  · have := (List.mem_filter.mp hkv).2
    rw [z, Int.zero_fmod] at this
    simp at this
  · have := acc_bnd ts hb [] 0 (fun kv h => nomatch h) kv (List.mem_filter.mp hkv).1
    have h2 : kv.2.natAbs ≤ 100000 := by
      have : 1000 * ts.length ≤ 1000 * 100 := Nat.mul_le_mul_left _ hl
      omega
    unfold sml
    rw [decide_eq_true_eq]
    omega
/-- the place of a term with some folk for the letters -/
def Dm.sub (d : Dm) (row : List Str) (t : Int × List Nat) : Pl := (d.lab, t.2.map fun i => row.getD (d.L.idxOf i) Str.empty)
def Dm.ts (d : Dm) (row : List Str) : List (Pl × Int) := d.T.map fun t => (d.sub row t, t.1)
def Dm.eqn (d : Dm) (row : List Str) : PEq := (eqN1 d.m (d.ts row), d.r.fmod d.m)
section
variable {P : Program} {w : World} {K : PySem.W.Frag} {mg : Str → Option Value} {base : Heap}
def kvZ (L : List Nat) (row : List Str) : List (Key × V) := ((L.map let1).zip row).map fun p => (Sum.inr p.1, V.str p.2)
theorem kvZ_get : ∀ {L : List Nat} {row : List Str} {i : Nat}, i ∈ L → row.length = L.length → valV (kvZ L row) (.inr (let1 i)) = some (.str (row.getD (L.idxOf i) Str.empty))
  | [], _, _, h, _ => nomatch h
  | j :: L, [], _, _, h => by cases h
  | j :: L, x :: row, i, h, hl => by
    unfold kvZ
    rw [List.map_cons, List.zip_cons_cons, List.map_cons]
    unfold valV
    rw [List.find?_cons]
    by_cases e : j = i
    · subst e
      simp
    · have h1 : (decide (((Sum.inr (let1 j) : Key), V.str x).1 = Sum.inr (let1 i))) = false := decide_eq_false fun h => e (let1_inj (Sum.inr.inj h))
      simp only [h1]
      have ih := kvZ_get (L := L) (row := row) (i := i) ((List.mem_cons.mp h).resolve_left fun z => e z.symm) (Nat.succ.inj hl)
      unfold kvZ valV at ih
      rw [ih, List.idxOf_cons]
      have : (j == i) = false := beq_eq_false_iff_ne.mpr e
      rw [this]
      simp
abbrev N_left_of : List Str := ["world", "demand", "folk", "known", "found", "factor", "label", "letters", "place", "letter"]
theorem sc_left_of : FnScope N_left_of ["world", "demand", "folk"] (defScope s_left_of) := ⟨rfl, rfl, rfl, by decide +kernel, rfl, by decide +kernel, by decide +kernel⟩
abbrev sp_left_of (P : Program) (w : World) : Sp := pSp (fun (a : Dm × List Str) vs G => (∃ u v, vs = [.int a.1.m, u, v] ∧ rDm a.1 u G ∧ rT rS a.2 v G) ∧ a.1.Ok ∧ a.2.length = a.1.L.length) (fun a => rPD P w (a.1.eqn a.2).1)
theorem has_left_of (C : Ctx K mg) : Has P w K mg base "left_of" ["world", "demand", "folk"] 2 (sp_left_of P w) := by
  obtain ⟨fd, F⟩ := C.d_left_of
  refine has_pure F C.g_left_of sc_left_of (fun _ _ _ _ _ _ us hl => match us, hl with | [_, _, _], _ => rfl) (fun a vs G h => by obtain ⟨⟨u, v, rfl, _⟩, _⟩ := h; rfl) (fun cdv A outer s H vs Q E hr a G sG hp k => ?_)
  have hu := hu_of hr
  refine ⟨_, (pss_cons (ps_set (i := 3) sc_left_of.nd rfl (Or.inr rfl) (pe_dictZipS rfl (by rfl) C.f_dict (by rfl) C.f_zip (pa_cons (pe_callH (has_letters_in C) hr (by decide) rfl (pa_cons (pv 1) pa_nil)) (pa_cons (pv 2) pa_nil))))
  (pss_cons (ps_set (i := 4) sc_left_of.nd rfl (Or.inl rfl) pe_dnewN)
  (pss_cons (ps_for PassesOwn.never (by rfl) (pi_tup (pe_ix ix_tup (pv 1) pe_int (fun _ _ => rfl))) (pg_tup rfl (pgs_cons (pg_name (i := 5) sc_left_of.nd rfl (Or.inl rfl)) (pgs_cons (pg_name (i := 6) sc_left_of.nd rfl (Or.inl rfl)) (pgs_cons (pg_name (i := 7) sc_left_of.nd rfl (Or.inl rfl)) pgs_nil))))
    (pss_cons (ps_set (i := 8) sc_left_of.nd rfl (Or.inl rfl) (pe_tup (pa_cons (pv 6) (pa_cons (pe_callTy call_tuple_of (by rfl) C.f_tuple (by decide +kernel) (pa_cons (pe_lc (own := [("letter", 9)]) (by rfl) sc_left_of.nd (pi_str (pv 7)) (blkOk_by (own := [("letter", 9)]) (N := N_left_of) (sc := defScope s_left_of) (by decide +kernel)) (fun _ _ _ _ _ => (pg_name (i := 9) sc_left_of.nd rfl (Or.inl rfl))) (fun _ _ _ _ _ => pts_nil) (fun _ _ _ _ _ => (pe_dget hu (pv 3) (pv 9) (fun _ _ => rfl)))) pa_nil)) pa_nil))))
  (pss_one (ps_ndput hr.units (pv 4) (pv 8) (pe_op op_add (pe_ndget2 hr.units (pv 4) (pv 8) pe_int ⟨rfl, rfl, rfl, rfl⟩) (pv 5)) rfl))))
  (pss_one (ps_ret (pe_dcN hr.units (g := (gTup K 2 (gCons (gName 8) (gCons (gName 5) gNil)))) (own := [("place", 8), ("factor", 5)]) (by rfl) sc_left_of.nd (pi_itemsN (pv 4)) (blkOk_by (own := [("place", 8), ("factor", 5)]) (N := N_left_of) (sc := defScope s_left_of) (by decide +kernel)) (fun _ _ _ _ _ => (pg_tupK (K := K) rfl rfl (pgs_cons (pg_name (i := 8) sc_left_of.nd rfl (Or.inl rfl)) (pgs_cons (pg_name (i := 5) sc_left_of.nd rfl (Or.inl rfl)) pgs_nil)))) (fun _ _ _ _ _ => (pts_one (pt_not (pt_val (pe_callH (has_is_factor_nought C) hr (by decide) rfl (pa_cons (pv 0) (pa_cons (pv 5) pa_nil))))))) (fun _ _ _ _ _ => (pv 8)) (fun _ _ _ _ _ => (pv 5)))))))), ?_⟩
  obtain ⟨d, row⟩ := a
  obtain ⟨⟨u, v, rfl, hu', hv⟩, ok, hrow⟩ := hp
  dsimp only at hu' hv ok hrow
  have hTl := ok.Tl
  have hm := ok.m
  refine q_asg (P := rKd (kvZ d.L row)) (EvP.imp (ev_dictZipS (x := lets d.L) (ss := row) (ev_call1 (P := rDm d) (post := fun d : Dm => rS (lets d.L)) d (ev_var rfl hu') fun v G' _ p => ⟨⟨v, rfl, p⟩, ok⟩) (ev_var rfl hv) (signs_nd d.L_nd) (by rw [signs_lets, List.length_map, hrow])) fun v G' _ ⟨a, e, h⟩ => ⟨a, e, by rw [h, signs_lets]; rfl⟩) sG fun kd G1 H1 e1 p1 => ?_
  refine q_asgN en_nd e1.s fun p o G2 H2 e2 hp2 gp2 ho eo => ?_
  obtain ⟨ob, rfl, hob⟩ := eo
  have hpn : H p = none := e1.h.free hp2
  have e02 := e1.trans e2
  refine q_for (Gb := G) (Hb := H) e02 (ei_tup (ev_fst (ev_var (P := rDm d) rfl (mn e02.g hu')))) (fun i σ' G' H' => ∃ x y z u1 u2 ob, σ' = [some (.int d.m), some u, some v, some kd, some (.ref p), x, y, z, u1, u2] ∧ u2 = none ∧ H' p = some (.ext (NObj p ob)) ∧ G' p = none ∧ NRep P w G' p ob (accN ((d.T.take i).map fun t => (d.sub row t, t.1))))
    (fun G3 H3 e3 => ⟨none, none, none, none, none, ob, rfl, rfl, e3.h _ _ ho, e3.f p (by rw [ho]; exact fun z => nomatch z) gp2, hob.mono e3.g⟩) (fun G3 sG3 i dd v' σ' G0 H0 G' H' hk s0 e0' j e' r => ?_) (fun G3 σ' G' H' sG3 s3 e3 j => ?_)
  · obtain ⟨x, y, z, u1, u2, ob, rfl, rfl, hx, gx, hr1⟩ := j
    have hx' := e'.h _ _ hx
    have gx' := e'.f p (by rw [hx]; exact fun z => nomatch z) gx
    have hr' := hr1.mono e'.g
    unfold Dm.terms at hk
    rw [List.getElem?_map] at hk
    cases ht : d.T[i]? with
    | none => rw [ht] at hk; cases hk
    | some t =>
    rw [ht] at hk
    cases hk
    have hi : i < d.T.length := (List.getElem?_eq_some_iff.mp ht).1
    have hti : d.T.take (i + 1) = d.T.take i ++ [t] := by
      rw [take_snoc hi]
      rw [List.getElem?_eq_getElem hi] at ht
      rw [Option.some.inj ht]
    have htm := List.mem_of_getElem? ht
    obtain ⟨t0, t1, t2, t3, t4, t5⟩ := ok.t t htm
    have hlt : t.2.length ≤ 2 := by rcases ok.s with h | h <;> omega
    obtain ⟨w1, w2, w3, q1, q2, q3, eg⟩ := eg_3 (K := K) (σ := [some (.int d.m), some u, some v, some kd, some (.ref p), x, y, z, u1, none]) (i := 5) (j := 6) (k := 7) r
    refine eg _ e'.s _ ?_
    cases (show w1 = .int t.1 from q1)
    cases (show w2 = .str d.lab from q2)
    cases (show w3 = .str (lets t.2) from q3)
    have p1' : rKd (kvZ d.L row) kd G' := mn (((e2.g.trans sG3).trans s0).trans e'.g) p1
    refine q_asg (P := rPl (d.sub row t)) (ev_t2 (R := rS) (S := rT rS) (x := d.lab) (y := t.2.map fun i => row.getD (d.L.idxOf i) Str.empty) (ev_vs rfl) (ev_tupL (EvP.imp (ev_lcm (R := rS) (S := rS) (fun x => row.getD (d.L.idxOf (unlet x)) Str.empty) (ei_str (x := lets t.2) (ev_vs rfl)) (by rw [signs_lets, List.length_map]; exact small1000 (by omega)) fun c cv G4 hc s4 r4 => ?_) fun v G4 _ h => ?_))) e'.s fun pl G5 H5 e5 p5 => ?_
    · rw [signs_lets] at hc
      obtain ⟨n, hn, rfl⟩ := List.mem_map.mp hc
      refine ⟨_, eg_name, rfl, EvP.imp (ev_kget (kvs := kvZ d.L row) (k := .inr (let1 n)) (ev_var rfl (mn s4 p1')) (EvP.imp (ev_var rfl r4) fun v G' _ p => p) (kvZ_get (Dm.L_mem.mpr ⟨t5 n hn, t, htm, hn⟩) hrow)) fun v G' _ p => ?_⟩
      rw [unlet_let]
      exact p
    · have h : rL rS ((signs (lets t.2)).map fun x => row.getD (d.L.idxOf (unlet x)) Str.empty) v G4 := h
      rw [signs_lets, List.map_map] at h
      have e : ((fun x => row.getD (d.L.idxOf (unlet x)) Str.empty) ∘ let1) = fun i => row.getD (d.L.idxOf i) Str.empty := funext fun i => by
        show row.getD (d.L.idxOf (unlet (let1 i))) Str.empty = _
        rw [unlet_let]
      rw [e] at h
      exact h
    have hx5 := e5.h _ _ hx'
    have gx5 := e5.f p (by rw [hx']; exact fun z => nomatch z) gx'
    have hr5 := hr'.mono e5.g
    have hkl : EvP (tVar 8) _ G5 (rPl (d.sub row t)) := ev_var (σ := (((([some (.int d.m), some u, some v, some kd, some (.ref p), x, y, z, u1, none] : St).set 5 (some (.int t.1))).set 6 (some (.str d.lab))).set 7 (some (.str (lets t.2)))).set 8 (some pl)) rfl p5
    refine xs_ndput (n := (getN (accN ((d.T.take i).map fun t => (d.sub row t, t.1))) (d.sub row t)).getD 0 + t.1) (l := accN ((d.T.take i).map fun t => (d.sub row t, t.1))) (k := d.sub row t) hx5 hr5 (ex_add (ex_ndget2 hx5 hr5 e5.s (ev_var rfl rfl) hkl ev_int) fun G' H' e => (ev_vi rfl).at e.s) (ev_var rfl rfl) hkl ?_ fun ob' G6 H6 e6 h6 r6 => ?_
    · have h1 := acc_len ((d.T.take i).map fun t => (d.sub row t, t.1)) []
      rw [List.length_map, List.length_take] at h1
      have h2 : (accN ((d.T.take i).map fun t => (d.sub row t, t.1))).length ≤ 8 := by
        unfold accN
        refine Nat.le_trans h1 ?_
        show 0 + _ ≤ 8
        omega
      exact small1000 (by omega)
    · have gx6 := e6.f p (by rw [hx5]; exact fun z => nomatch z) gx5
      refine ⟨G6, ((s0.trans e'.g).trans e5.g).trans e6.g, (((e0'.trans e').trans e5).trans e6).upd hpn gx6, _, _, _, _, none, ob', rfl, rfl, upd_same, gx6, ?_⟩
      rw [hti, List.map_append, List.map_cons, List.map_nil, accN_snoc]
      exact r6
  · obtain ⟨x, y, z, u1, u2, ob, rfl, rfl, hx, gx, hr1⟩ := j
    rw [show d.T.take d.terms.length = d.T by unfold Dm.terms; rw [List.length_map, List.take_length]] at hr1
    have e4 := e3.know hpn gx hx
    have hdk : rPD P w (accN (d.ts row)) (.ref p) (L2.upd G' p (.ext (NObj p ob))) := ⟨p, ob, rfl, upd_same, hr1.mono (Same.new gx)⟩
    have hz : (accN (d.ts row)).length < sizeLine := by
      have h1 := acc_len (d.ts row) []
      unfold Dm.ts at h1
      rw [List.length_map] at h1
      have h2 : (accN (d.ts row)).length ≤ 8 := by
        unfold accN
        refine Nat.le_trans h1 ?_
        show 0 + _ ≤ 8
        omega
      exact small1000 (by omega)
    refine s_ret (P := rPD P w (d.eqn row).1) (EvP.imp (EvN.nd (en_dcN (fun kv : Pl × Int => !decide (kv.2.fmod d.m = 0)) (fun kv => kv.1) (fun kv => kv.2) (ei_itemsN (ev_var rfl hdk)) hz (accN_nd _) fun kv vv G5 hkv s5 r5 => ?_)) fun v G5 _ h => ?_) e4.s fun v G5 H5 e5 p5 => k v G5 H5 (e4.trans e5) p5
    · obtain ⟨w1, w2, q1, q2, eg⟩ := eg_2 (K := K) (σ := wipe [some (.int d.m), some u, some v, some kd, some (.ref p), x, y, z, u1, none] [8, 5]) (i := 8) (j := 5) r5
      cases (show w2 = .int kv.2 from q2)
      refine ⟨_, eg, rfl, et_not (et_B (ev_call2 (P := rI d.m) (P1 := rI kv.2) (post := fun a : Int × Int => rB (decide (a.2.fmod a.1 = 0))) (d.m, kv.2) (ev_vi rfl) (ev_vi rfl) fun v1 v2 G' _ p1 p2 => ⟨by rw [show v1 = .int _ from p1, show v2 = .int _ from p2], hm.1⟩)), fun _ => ⟨ev_var rfl q1, ev_vi rfl⟩⟩
    · have h : rPD P w (((accN (d.ts row)).filter fun kv => !decide (kv.2.fmod d.m = 0)).map fun kv => (kv.1, kv.2)) v G5 := h
      rw [show (fun kv : Pl × Int => (kv.1, kv.2)) = id from rfl, List.map_id] at h
      exact h
end
end Eld
set_option maxRecDepth 100000
set_option maxHeartbeats 1000000
/-! equation_of, opened, open_equations, unknowns_of, told_for, filling, refusal. -/
namespace Eld
open PySem PySem.Spec PyProof.Rows L2
/-! ### plain: what the equations of instances ask -/
theorem getD_eq {α : Type} {l : List α} {i : Nat} (d : α) (h : i < l.length) : l.getD i d = l[i] := by
  rw [List.getD_eq_getElem?_getD, List.getElem?_eq_getElem h]; rfl
theorem arr_nd {α : Type} [DecidableEq α] {fs : List α} (nd : fs.Nodup) : ∀ n, (arr fs n).Nodup
  | 0 => by show [[]].Nodup; simp
  | n + 1 => by
    show ((arr fs n).flatMap _).Nodup
    rw [List.nodup_iff_pairwise_ne, List.pairwise_flatMap]
    refine ⟨fun row _ => ?_, ?_⟩
    · rw [List.pairwise_map]
      have h := nd.sublist (List.filter_sublist (p := fun o => decide (o ∉ row)))
      rw [List.nodup_iff_pairwise_ne] at h
      exact h.imp fun {a b} hn e => hn (by
        have := List.append_cancel_left e
        simpa using this)
    · have h := arr_nd nd n
      rw [List.nodup_iff_pairwise_ne] at h
      refine h.imp fun {a b} hn x hx y hy e => hn ?_
      obtain ⟨o, _, rfl⟩ := List.mem_map.mp hx
      obtain ⟨o', _, rfl⟩ := List.mem_map.mp hy
      exact (List.append_inj' e rfl).1
theorem folk_nd (n : Nat) : (folk n).Nodup := by
  unfold folk
  have := List.nodup_range (n := n)
  rw [List.nodup_iff_pairwise_ne] at this ⊢
  exact List.Pairwise.map _ (fun a b h e => h (dig_inj e)) this
/-- a demand's terms by the positions of their letters -/
def Dm.Tp (d : Dm) : Tms := d.T.map fun t => (t.1, t.2.map fun i => d.L.idxOf i)
def Dm.Fill (d : Dm) (N : Nat) : Prop := Eld.Fill d.m d.Tp d.r d.L.length N
def undig (x : Str) : Nat := x.cps.toList.headD 0 - 48
theorem undig_dig (i : Nat) : undig (dig i) = i := by
  show (48 + i) - 48 = i
  omega
theorem undig_map (l : List Nat) : (l.map dig).map undig = l := by
  rw [List.map_map]
  refine (List.map_congr_left fun i _ => ?_).trans (List.map_id l)
  exact undig_dig i
theorem Dm.idx_lt {d : Dm} {t : Int × List Nat} (ok : d.Ok) (ht : t ∈ d.T) : ∀ i ∈ t.2, d.L.idxOf i < d.L.length := fun i hi =>
  List.idxOf_lt_length_of_mem (Dm.L_mem.mpr ⟨(ok.t t ht).2.2.2.2.2 i hi, t, ht, hi⟩)
theorem Dm.sub_dig {d : Dm} {t : Int × List Nat} (ok : d.Ok) (ht : t ∈ d.T) {r : List Nat} (hr : r.length = d.L.length) : d.sub (r.map dig) t = (d.lab, (pick r (t.2.map fun i => d.L.idxOf i)).map dig) := by
  unfold Dm.sub pick
  rw [List.map_map, List.map_map]
  congr 1
  refine List.map_congr_left fun i hi => ?_
  have hlt : d.L.idxOf i < r.length := by rw [hr]; exact Dm.idx_lt ok ht i hi
  show (r.map dig).getD _ _ = dig (r.getD _ _)
  rw [getD_eq _ (by rw [List.length_map]; exact hlt), getD_eq _ hlt, List.getElem_map]
theorem Dm.psum_ts {d : Dm} (ok : d.Ok) {r : List Nat} (hr : r.length = d.L.length) (y : Pl → Int) : psum (d.ts (r.map dig)) y = tot d.Tp r fun p => y (d.lab, p.map dig) := by
  unfold psum Dm.ts tot Dm.Tp
  rw [List.map_map, List.map_map]
  congr 1
  refine List.map_congr_left fun t ht => ?_
  show t.1 * y (d.sub (r.map dig) t) = t.1 * y (d.lab, _)
  rw [Dm.sub_dig ok ht hr]
theorem dvd_shift {m a b c e : Int} (h1 : m ∣ a - b) (h2 : m ∣ c - e) : m ∣ b - e ↔ m ∣ a - c := by
  obtain ⟨x, hx⟩ := h1
  obtain ⟨y, hy⟩ := h2
  constructor
  · rintro ⟨z, hz⟩; exact ⟨z + x - y, by grind⟩
  · rintro ⟨z, hz⟩; exact ⟨z - x + y, by grind⟩
theorem Dm.eqn_iff {d : Dm} (row : List Str) (y : Pl → Int) : d.m ∣ psum (d.eqn row).1 y - (d.eqn row).2 ↔ d.m ∣ psum (d.ts row) y - d.r := by
  refine dvd_shift (eqN1_sum (d.ts row) y) ?_
  have := fmod_dvd d.r d.m
  obtain ⟨x, hx⟩ := this
  exact ⟨-x, by show d.r - d.r.fmod d.m = _; grind⟩
theorem Dm.psol {d : Dm} (ok : d.Ok) (N : Nat) : PSol d.m ((arr (folk N) d.L.length).map d.eqn) ↔ d.Fill N := by
  unfold PSol Dm.Fill Eld.Fill
  constructor
  · rintro ⟨y, h⟩
    refine ⟨fun p => y (d.lab, p.map dig), fun r hr => ?_⟩
    have := h (d.eqn (r.map dig)) (List.mem_map.mpr ⟨r.map dig, by rw [arr_folk]; exact List.mem_map.mpr ⟨r, hr, rfl⟩, rfl⟩)
    rw [Dm.eqn_iff, Dm.psum_ts ok (mem_arr.mp hr).1] at this
    exact this
  · rintro ⟨y, h⟩
    refine ⟨fun pl => y (pl.2.map undig), fun e he => ?_⟩
    obtain ⟨row, hrow, rfl⟩ := List.mem_map.mp he
    rw [arr_folk] at hrow
    obtain ⟨r, hr, rfl⟩ := List.mem_map.mp hrow
    rw [Dm.eqn_iff, Dm.psum_ts ok (mem_arr.mp hr).1]
    simp only [undig_map]
    exact h r hr
theorem pick_nd {r js : List Nat} (hr : r.Nodup) (hj : js.Nodup) (hl : ∀ j ∈ js, j < r.length) : (pick r js).Nodup := by
  unfold pick
  rw [List.nodup_iff_pairwise_ne] at hj ⊢
  rw [List.pairwise_map]
  refine hj.imp_of_mem fun {a b} ha hb hn e => hn ?_
  rw [getD_eq _ (hl a ha), getD_eq _ (hl b hb)] at e
  exact (List.getElem_inj hr).mp e
theorem Dm.pos_nd {d : Dm} {t : Int × List Nat} (ok : d.Ok) (ht : t ∈ d.T) : (t.2.map fun i => d.L.idxOf i).Nodup := by
  have h := (ok.t t ht).2.2.2.2.1
  rw [List.nodup_iff_pairwise_ne] at h ⊢
  rw [List.pairwise_map]
  refine h.imp_of_mem fun {a b} ha hb hn e => hn ?_
  have h1 := List.getElem_idxOf (Dm.idx_lt ok ht a ha)
  have h2 := List.getElem_idxOf (Dm.idx_lt ok ht b hb)
  rw [← h1, ← h2]
  simp only [e]
theorem Dm.Tp_pos {d : Dm} (ok : d.Ok) : ∀ t ∈ d.Tp, t.2 ∈ poss d.s d.L.length := fun t ht => by
  obtain ⟨t, h, rfl⟩ := List.mem_map.mp ht
  refine mem_arr.mpr ⟨?_, Dm.pos_nd ok h, fun x hx => ?_⟩
  · show (t.2.map _).length = _
    rw [List.length_map]; exact (ok.t t h).2.2.2.1
  · obtain ⟨i, hi, rfl⟩ := List.mem_map.mp hx
    exact List.mem_range.mpr (Dm.idx_lt ok h i hi)
/-- the places of so many comers -/
def Dm.places (d : Dm) (N : Nat) : List Pl := (arr (folk N) d.s).map fun row => (d.lab, row)
theorem Dm.places_nd (d : Dm) (N : Nat) : (d.places N).Nodup := by
  have := arr_nd (folk_nd N) d.s
  unfold Dm.places
  rw [List.nodup_iff_pairwise_ne] at this ⊢
  exact List.Pairwise.map _ (fun a b h e => h (Prod.mk.inj e).2) this
theorem Dm.sub_mem {d : Dm} (ok : d.Ok) {N : Nat} {row : List Str} (hr : row ∈ arr (folk N) d.L.length) {t : Int × List Nat} (ht : t ∈ d.T) : d.sub row t ∈ d.places N := by
  rw [arr_folk] at hr
  obtain ⟨r, hr2, rfl⟩ := List.mem_map.mp hr
  clear hr
  obtain ⟨r1, r2, r3⟩ := mem_arr.mp hr2
  rw [Dm.sub_dig ok ht r1]
  refine List.mem_map.mpr ⟨_, ?_, rfl⟩
  rw [arr_folk]
  have hlt : ∀ j ∈ t.2.map (fun i => d.L.idxOf i), j < r.length := fun j hj => by
    obtain ⟨i, hi, rfl⟩ := List.mem_map.mp hj
    rw [r1]; exact Dm.idx_lt ok ht i hi
  refine List.mem_map.mpr ⟨_, mem_arr.mpr ⟨?_, pick_nd r2 (Dm.pos_nd ok ht) hlt, fun x hx => ?_⟩, rfl⟩
  · unfold pick
    rw [List.length_map, List.length_map]; exact (ok.t t ht).2.2.2.1
  · unfold pick at hx
    obtain ⟨j, hj, rfl⟩ := List.mem_map.mp hx
    rw [getD_eq _ (hlt j hj)]
    exact r3 _ (List.getElem_mem _)
theorem Dm.eqn_ok {d : Dm} (ok : d.Ok) {N : Nat} {row : List Str} (hr : row ∈ arr (folk N) d.L.length) : EqOk (d.places N) (d.eqn row) := by
  have hm := ok.m
  refine eqN1_ok (by omega) (fun t ht => ?_) (fun t ht => ?_) ?_
  · obtain ⟨t, h, rfl⟩ := List.mem_map.mp ht
    exact Dm.sub_mem ok hr h
  · obtain ⟨t, h, rfl⟩ := List.mem_map.mp ht
    have := ok.t t h
    show t.1.natAbs ≤ 1000
    omega
  · unfold Dm.ts
    rw [List.length_map]
    have := ok.Tl
    omega
section
variable {P : Program} {w : World} {K : PySem.W.Frag} {mg : Str → Option Value} {base : Heap}
abbrev rIn1 : Int × List Str → V → Hp → Prop := r2 rI (rT rS)
abbrev N_equation_of : List Str := ["book", "instance", "demand"]
theorem sc_equation_of : FnScope N_equation_of ["book", "instance"] (defScope s_equation_of) := ⟨rfl, rfl, rfl, by decide +kernel, rfl, by decide +kernel, by decide +kernel⟩
abbrev sp_equation_of (P : Program) (w : World) (K : PySem.W.Frag) : Sp := pSp (fun (a : Dm × List Str) vs G => (∃ u v, vs = [u, v] ∧ rBk K a.1 u G ∧ rIn1 (0, a.2) v G) ∧ a.1.Ok ∧ a.2.length = a.1.L.length) (fun a => rPE P w (a.1.eqn a.2))
theorem has_equation_of (C : Ctx K mg) : Has P w K mg base "equation_of" ["book", "instance"] 3 (sp_equation_of P w K) := by
  obtain ⟨fd, F⟩ := C.d_equation_of
  refine has_pure F C.g_equation_of sc_equation_of (fun _ _ _ _ _ _ us hl => match us, hl with | [_, _], _ => rfl) (fun a vs G h => by obtain ⟨⟨u, v, rfl, _⟩, _⟩ := h; rfl) (fun cdv A outer s H vs Q E hr a G sG hp k => ?_)
  have hu := hu_of hr
  refine ⟨_, (pss_cons (ps_set (i := 2) sc_equation_of.nd rfl (Or.inl rfl) (pe_ix ix_tup (pe_fld (pv 0) rfl) (pe_ix ix_tup (pv 1) pe_int (fun _ _ => rfl)) (fun _ _ => rfl)))
  (pss_one (ps_ret (pe_tup (pa_cons (pe_callH (has_left_of C) hr (by decide) rfl (pa_cons (pe_fld (pv 0) rfl) (pa_cons (pv 2) (pa_cons (pe_ix ix_tup (pv 1) pe_int (fun _ _ => rfl)) pa_nil)))) (pa_cons (pe_callH (has_told_in C) hr (by decide) rfl (pa_cons (pe_fld (pv 0) rfl) (pa_cons (pe_ix ix_tup (pv 2) pe_int (fun _ _ => rfl)) pa_nil))) pa_nil)))))), ?_⟩
  obtain ⟨d, row⟩ := a
  obtain ⟨⟨u, v, rfl, hb, hv⟩, ok, hrow⟩ := hp
  dsimp only at hb hv ok hrow
  refine q_asg (P := rDm d) (ev_ixT (ds := [d]) (i := 0) (j := 0) (ev_demands C (ev_var rfl hb)) (ev_fst (ev_var (P := rIn1 (0, row)) rfl hv)) rfl rfl) sG fun u2 G1 H1 e1 p1 => ?_
  refine s_ret (P := rPE P w (d.eqn row)) (ev_t2 (R := rPD P w) (S := rI) (x := (d.eqn row).1) (y := d.r.fmod d.m) (ev_call3 (P := rI d.m) (P1 := rDm d) (P2 := rT rS row) (post := fun a : Dm × List Str => rPD P w (a.1.eqn a.2).1) (d, row) (ev_world C (ev_var rfl (mn e1.g hb))) (ev_var rfl p1) (ev_snd (ev_var (P := rIn1 (0, row)) rfl (mn e1.g hv))) fun v1 v2 v3 G' _ p1 p2 p3 => ⟨⟨v2, v3, by rw [show v1 = .int _ from p1], p2, p3⟩, ok, hrow⟩)
    (ev_call2 (P := rI d.m) (P1 := rI d.r) (post := fun a : Int × Int => rI (a.2.fmod a.1)) (d.m, d.r) (ev_world C (ev_var rfl (mn e1.g hb))) (ev_snd (ev_var (P := rDm d) rfl p1)) fun v1 v2 G' _ p1 p2 => ⟨by rw [show v1 = .int _ from p1, show v2 = .int _ from p2], ok.m.1⟩)) e1.s fun v G2 H2 e2 p2 => k v G2 H2 (e1.trans e2) p2
abbrev N_opened : List Str := ["party", "equation", "lefts", "right", "found", "place", "factor"]
theorem sc_opened : FnScope N_opened ["party", "equation"] (defScope s_opened) := ⟨rfl, rfl, rfl, by decide +kernel, rfl, by decide +kernel, by decide +kernel⟩
abbrev sp_opened (P : Program) (w : World) (K : PySem.W.Frag) : Sp := pSp (fun (a : Dm × PEq) vs G => (∃ u v, vs = [u, v] ∧ rPa P w K a.1 u G ∧ rPE P w a.2 v G) ∧ a.2.1.length ≤ 900) (fun a => rPE P w a.2)
theorem put_take {l : List (Pl × Int)} (nd : (l.map (·.1)).Nodup) {i : Nat} {kv : Pl × Int} (h : l[i]? = some kv) : putN (l.take i) kv.1 kv.2 = l.take (i + 1) := by
  have hi : i < l.length := (List.getElem?_eq_some_iff.mp h).1
  have ht : l.take (i + 1) = l.take i ++ [kv] := by
    rw [take_snoc hi]
    rw [List.getElem?_eq_getElem hi] at h
    rw [Option.some.inj h]
  rw [ht, putN_new]
  refine getN_none fun hm => ?_
  have nd2 := nd.sublist ((List.take_sublist (i + 1) l).map _)
  rw [ht, List.map_append, List.nodup_append] at nd2
  exact nd2.2.2 _ hm kv.1 (List.mem_singleton.mpr rfl) rfl
theorem has_opened (C : Ctx K mg) : Has P w K mg base "opened" ["party", "equation"] 1 (sp_opened P w K) := by
  obtain ⟨fd, F⟩ := C.d_opened
  refine has_pure F C.g_opened sc_opened (fun _ _ _ _ _ _ us hl => match us, hl with | [_, _], _ => rfl) (fun a vs G h => by obtain ⟨⟨u, v, rfl, _⟩, _⟩ := h; rfl) (fun cdv A outer s H vs Q E hr a G sG hp k => ?_)
  have hu := hu_of hr
  refine ⟨_, (pss_cons (ps_asg (pv 1) (pg_tup rfl (pgs_cons (pg_name (i := 2) sc_opened.nd rfl (Or.inl rfl)) (pgs_cons (pg_name (i := 3) sc_opened.nd rfl (Or.inl rfl)) pgs_nil))))
  (pss_cons (ps_set (i := 4) sc_opened.nd rfl (Or.inl rfl) pe_dnewN)
  (pss_cons (ps_for PassesOwn.never (by rfl) (pi_itemsN (pv 2)) (pg_tup rfl (pgs_cons (pg_name (i := 5) sc_opened.nd rfl (Or.inl rfl)) (pgs_cons (pg_name (i := 6) sc_opened.nd rfl (Or.inl rfl)) pgs_nil)))
    (pss_one (ps_if (pt_cmp (pc_ndin hr.units (pv 5) (pe_fld (pv 0) rfl)))
    (pss_one ps_never)
    (pss_one (ps_ndput hr.units (pv 4) (pv 5) (pv 6) rfl)))))
  (pss_one (ps_ret (pe_tup (pa_cons (pv 4) (pa_cons (pv 3) pa_nil)))))))), ?_⟩
  obtain ⟨d, e⟩ := a
  obtain ⟨⟨u, v, rfl, hpa, hv⟩, hlen⟩ := hp
  dsimp only at hpa hv hlen
  refine q_asgG (P := rPE P w e) (ev_var rfl hv) sG fun v' G1 H1 e1 p1 => ?_
  obtain ⟨x, y, px, py, eg⟩ := eg_2 (K := K) (σ := start N_opened [u, v]) (i := 2) (j := 3) p1
  refine ⟨_, eg, ?_⟩
  cases (show y = .int e.2 from py)
  refine q_asgN en_nd e1.s fun p o G2 H2 e2 hp2 gp2 ho eo => ?_
  obtain ⟨ob, rfl, hob⟩ := eo
  have hpn : H p = none := e1.h.free hp2
  have e02 := e1.trans e2
  have nd : (e.1.map (·.1)).Nodup := by
    obtain ⟨_, _, _, _, hr⟩ := (show rPD P w e.1 x G1 from px)
    exact hr.2.2.1
  refine q_for (Gb := G) (Hb := H) e02 (ei_itemsN (l := e.1) (ev_var rfl (mn e2.g px))) (fun i σ' G' H' => ∃ y z ob, σ' = [some u, some v, some x, some (.int e.2), some (.ref p), y, z] ∧ H' p = some (.ext (NObj p ob)) ∧ G' p = none ∧ NRep P w G' p ob (e.1.take i))
    (fun G3 H3 e3 => ⟨none, none, ob, rfl, e3.h _ _ ho, e3.f p (by rw [ho]; exact fun z => nomatch z) gp2, hob.mono e3.g⟩) (fun G3 sG3 i kv v' σ' G0 H0 G' H' hk s0 e0' j e' r => ?_) (fun G3 σ' G' H' sG3 s3 e3 j => ?_)
  · obtain ⟨y, z, ob, rfl, hx, gx, hr1⟩ := j
    have hx' := e'.h _ _ hx
    have gx' := e'.f p (by rw [hx]; exact fun z => nomatch z) gx
    have hr' := hr1.mono e'.g
    obtain ⟨w1, w2, q1, q2, eg⟩ := eg_2 (K := K) (σ := [some u, some v, some x, some (.int e.2), some (.ref p), y, z]) (i := 5) (j := 6) r
    refine eg _ e'.s _ ?_
    cases (show w2 = .int kv.2 from q2)
    have hpa' : rPa P w K d u G' := mn (((e02.g.trans sG3).trans s0).trans e'.g) hpa
    refine s_no (EvT.to (et_val (ev_ndin (ev_var rfl q1) (ev_keptOf C (ev_var rfl hpa')))) rfl) e'.s fun G5 H5 e5 => ?_
    have hx5 := e5.h _ _ hx'
    have gx5 := e5.f p (by rw [hx']; exact fun z => nomatch z) gx'
    refine xs_ndput (n := kv.2) (l := e.1.take i) (k := kv.1) hx5 (hr'.mono e5.g) ((ev_vi rfl).at e5.s) (ev_var rfl rfl) (ev_var rfl (mn e5.g q1)) ?_ fun ob' G6 H6 e6 h6 r6 => ?_
    · rw [List.length_take]; exact small1000 (by omega)
    · have gx6 := e6.f p (by rw [hx5]; exact fun z => nomatch z) gx5
      refine ⟨G6, ((s0.trans e'.g).trans e5.g).trans e6.g, (((e0'.trans e').trans e5).trans e6).upd hpn gx6, _, _, ob', rfl, upd_same, gx6, ?_⟩
      rw [← put_take nd hk]
      exact r6
  · obtain ⟨y, z, ob, rfl, hx, gx, hr1⟩ := j
    rw [List.take_length] at hr1
    have e4 := e3.know hpn gx hx
    exact s_ret (P := rPE P w e) (ev_t2 (R := rPD P w) (S := rI) (x := e.1) (y := e.2) (ev_var rfl ⟨p, ob, rfl, upd_same, hr1.mono (Same.new gx)⟩) (ev_vi rfl)) e4.s fun v G5 H5 e5 p5 => k v G5 H5 (e4.trans e5) p5
end
end Eld
set_option maxRecDepth 100000
set_option maxHeartbeats 1000000
/-! open_equations, unknowns_of, told_for, filling, refusal. -/
namespace Eld
open PySem PySem.Spec PyProof.Rows L2
section
variable {P : Program} {w : World} {K : PySem.W.Frag} {mg : Str → Option Value} {base : Heap}
def Dm.rows (d : Dm) (N : Nat) : List (Int × List Str) := (arr (folk N) d.L.length).map fun row => ((0 : Int), row)
theorem Dm.rows_len {d : Dm} (h3 : d.L.length ≤ 3) {N : Nat} (hN : N ≤ 8) : (d.rows N).length ≤ 512 := by
  unfold Dm.rows
  rw [List.length_map]
  refine Nat.le_trans (arr_len _ _) ?_
  rw [folk_len]
  exact Nat.le_trans (Nat.pow_le_pow_left hN _) (Nat.pow_le_pow_right (by omega) h3)
theorem Dm.places_len {d : Dm} (ok : d.Ok) {N : Nat} (hN : N ≤ 8) : (d.places N).length ≤ 64 := by
  unfold Dm.places
  rw [List.length_map]
  refine Nat.le_trans (arr_len _ _) ?_
  rw [folk_len]
  have hs2 : d.s ≤ 2 := by rcases ok.s with h | h <;> omega
  exact Nat.le_trans (Nat.pow_le_pow_left hN _) (Nat.pow_le_pow_right (by omega) hs2)
abbrev N_open_equations : List Str := ["party", "folk", "rows", "row"]
theorem sc_open_equations : FnScope N_open_equations ["party", "folk"] (defScope s_open_equations) := ⟨rfl, rfl, rfl, by decide +kernel, rfl, by decide +kernel, by decide +kernel⟩
abbrev sp_open_equations (P : Program) (w : World) (K : PySem.W.Frag) : Sp := pSp (fun (a : Dm × Nat) vs G => (∃ u v, vs = [u, v] ∧ rPa P w K a.1 u G ∧ rL rS (folk a.2) v G) ∧ a.1.Ok ∧ a.1.L.length ≤ 3 ∧ a.2 ≤ 8) (fun a => r2 (rL rIn1) (rL (rPE P w)) (a.1.rows a.2, (arr (folk a.2) a.1.L.length).map a.1.eqn))
theorem has_open_equations (C : Ctx K mg) : Has P w K mg base "open_equations" ["party", "folk"] 4 (sp_open_equations P w K) := by
  obtain ⟨fd, F⟩ := C.d_open_equations
  refine has_pure F C.g_open_equations sc_open_equations (fun _ _ _ _ _ _ us hl => match us, hl with | [_, _], _ => rfl) (fun a vs G h => by obtain ⟨⟨u, v, rfl, _⟩, _⟩ := h; rfl) (fun cdv A outer s H vs Q E hr a G sG hp k => ?_)
  have hu := hu_of hr
  refine ⟨_, (pss_cons (ps_set (i := 2) sc_open_equations.nd rfl (Or.inl rfl) (pe_callH (has_instances_of C) hr (by decide) rfl (pa_cons (pe_fld (pv 0) rfl) (pa_cons (pv 1) pa_nil))))
  (pss_one (ps_ret (pe_tup (pa_cons (pv 2) (pa_cons (pe_lc (own := [("row", 3)]) (by rfl) sc_open_equations.nd (pi_list (pv 2)) (blkOk_by (own := [("row", 3)]) (N := N_open_equations) (sc := defScope s_open_equations) (by decide +kernel)) (fun _ _ _ _ _ => (pg_name (i := 3) sc_open_equations.nd rfl (Or.inl rfl))) (fun _ _ _ _ _ => pts_nil) (fun _ _ _ _ _ => (pe_callH (has_opened (P := P) (w := w) (base := base) C) hr (by decide) rfl (pa_cons (pv 0) (pa_cons (pe_callH (has_equation_of (P := P) (w := w) (base := base) C) hr (by decide) rfl (pa_cons (pe_fldK (K := K) rfl (pv 0) rfl) (pa_cons (pv 3) pa_nil))) pa_nil))))) pa_nil)))))), ?_⟩
  obtain ⟨d, N⟩ := a
  obtain ⟨⟨u, v, rfl, hpa, hv⟩, ok, h3, hN⟩ := hp
  dsimp only at hpa hv ok h3 hN
  refine q_asg (P := rL rIn1 (d.rows N)) (ev_call2 (P := rBk K d) (P1 := rL rS (folk N)) (d, folk N) (ev_bookOf C (ev_var rfl hpa)) (ev_var rfl hv) fun v1 v2 G' _ p1 p2 => ⟨⟨v1, v2, rfl, p1, p2⟩, ok, h3, by show (folk N).length ≤ 8; rw [folk_len]; exact hN⟩) sG fun u2 G1 H1 e1 p1 => ?_
  have hl := Dm.rows_len h3 hN
  refine s_ret (P := r2 (rL rIn1) (rL (rPE P w)) (d.rows N, (arr (folk N) d.L.length).map d.eqn)) (EvP.imp (ev_t2 (R := rL rIn1) (S := rL (rPE P w)) (x := d.rows N) (y := (d.rows N).map fun p => d.eqn p.2) (ev_var rfl p1) (ev_lcm (R := rIn1) (S := rPE P w) (fun p => d.eqn p.2) (ei_list (ev_var rfl p1)) (small1000 (by omega)) fun p pv G3 hp3 s3 r3 => ?_)) fun v G' _ h => ?_) e1.s fun v G2 H2 e2 p2 => k v G2 H2 (e1.trans e2) p2
  · obtain ⟨row, hrow, rfl⟩ := List.mem_map.mp hp3
    have hpa3 : rPa P w K d u G3 := mn (e1.g.trans s3) hpa
    refine ⟨_, eg_name, rfl, ev_call2 (P := rPa P w K d) (P1 := rPE P w (d.eqn row)) (d, d.eqn row) (ev_var rfl hpa3) (ev_call2 (P := rBk K d) (P1 := rIn1 (0, row)) (d, row) (ev_bookOf C (ev_var rfl hpa3)) (ev_var rfl r3) fun v1 v2 G' _ p1 p2 => ⟨⟨v1, v2, rfl, p1, p2⟩, ok, (mem_arr.mp hrow).1⟩) fun v1 v2 G' _ p1 p2 => ⟨⟨v1, v2, rfl, p1, p2⟩, ?_⟩⟩
    have h1 := (Dm.eqn_ok ok hrow).nd
    have h2 := nodup_len (l := (d.eqn row).1.map (·.1)) (m := d.places N) h1 fun x hx => by
      obtain ⟨kv, hkv, rfl⟩ := List.mem_map.mp hx
      exact (Dm.eqn_ok ok hrow).k kv hkv
    rw [List.length_map] at h2
    have := Dm.places_len ok hN
    show (d.eqn row).1.length ≤ 900
    omega
  · have h : r2 (rL rIn1) (rL (rPE P w)) (d.rows N, (d.rows N).map fun p => d.eqn p.2) v G' := h
    unfold Dm.rows at h ⊢
    rw [List.map_map] at h
    exact h
abbrev N_unknowns_of : List Str := ["party", "folk", "place"]
theorem sc_unknowns_of : FnScope N_unknowns_of ["party", "folk"] (defScope s_unknowns_of) := ⟨rfl, rfl, rfl, by decide +kernel, rfl, by decide +kernel, by decide +kernel⟩
abbrev sp_unknowns_of (P : Program) (w : World) (K : PySem.W.Frag) : Sp := pSp (fun (a : Dm × Nat) vs G => (∃ u v, vs = [u, v] ∧ rPa P w K a.1 u G ∧ rL rS (folk a.2) v G) ∧ a.1.Ok ∧ a.2 ≤ 8) (fun a => rL rPl (a.1.places a.2))
theorem has_unknowns_of (C : Ctx K mg) : Has P w K mg base "unknowns_of" ["party", "folk"] 3 (sp_unknowns_of P w K) := by
  obtain ⟨fd, F⟩ := C.d_unknowns_of
  refine has_pure F C.g_unknowns_of sc_unknowns_of (fun _ _ _ _ _ _ us hl => match us, hl with | [_, _], _ => rfl) (fun a vs G h => by obtain ⟨⟨u, v, rfl, _⟩, _⟩ := h; rfl) (fun cdv A outer s H vs Q E hr a G sG hp k => ?_)
  have hu := hu_of hr
  refine ⟨_, (pss_one (ps_ret (pe_lc (own := [("place", 2)]) (by rfl) sc_unknowns_of.nd (pi_list (pe_callH (has_places_of C) hr (by decide) rfl (pa_cons (pe_fld (pv 0) rfl) (pa_cons (pv 1) pa_nil)))) (blkOk_by (own := [("place", 2)]) (N := N_unknowns_of) (sc := defScope s_unknowns_of) (by decide +kernel)) (fun _ _ _ _ _ => (pg_name (i := 2) sc_unknowns_of.nd rfl (Or.inl rfl))) (fun _ _ _ _ _ => (pts_one (pt_cmp (pc_ndnotinK (P := P) (w := w) rfl rfl hr.units (pv 2) (pe_fldK (K := K) rfl (pv 0) rfl))))) (fun _ _ _ _ _ => (pv 2))))), ?_⟩
  obtain ⟨d, N⟩ := a
  obtain ⟨⟨u, v, rfl, hpa, hv⟩, ok, hN⟩ := hp
  dsimp only at hpa hv ok hN
  have hl := Dm.places_len ok hN
  refine s_ret (P := rL rPl (d.places N)) (EvP.imp (ev_lc (R := rPl) (S := rPl) (fun _ => true) id (ei_list (ev_call2 (P := rBk K d) (P1 := rL rS (folk N)) (post := fun a : Dm × List Str => rL rPl ((arr a.2 a.1.s).map fun row => (a.1.lab, row))) (d, folk N) (ev_bookOf C (ev_var rfl hpa)) (ev_var rfl hv) fun v1 v2 G' _ p1 p2 => ⟨⟨v1, v2, rfl, p1, p2⟩, ok, by show (folk N).length ≤ 8; rw [folk_len]; exact hN⟩)) (small1000 (by show (d.places N).length ≤ 1000; omega)) fun pl pv G3 hp3 s3 r3 => ?_) fun v G' _ h => ?_) sG fun v G2 H2 e2 p2 => k v G2 H2 e2 p2
  · exact ⟨_, eg_name, rfl, EvT.to (et_val (ev_ndnotin (ev_var rfl r3) (ev_keptOf C (ev_var rfl (mn s3 hpa))))) rfl, fun _ => ev_var rfl r3⟩
  · rw [List.filter_eq_self.mpr (fun _ _ => rfl), List.map_id] at h
    exact h
/-- what told_for tells -/
def ToldPost (E : Prop) : V → Hp → Prop := fun v G => ∃ a x y, v = .ref a ∧ G a = some (.tup [x, y]) ∧ ((E ∧ x = .str "filling") ∨ (¬ E ∧ x = .str "refusal")) ∧ y ≠ .non
instance {E : Prop} : MnP (ToldPost E) := ⟨fun s ⟨a, x, y, e, h, o⟩ => ⟨a, x, y, e, s _ _ h, o⟩⟩
def rLst : V → Hp → Prop := fun v G => ∃ a xs, v = .ref a ∧ G a = some (.lst xs)
instance : MnP rLst := ⟨fun s ⟨a, xs, e, h⟩ => ⟨a, xs, e, s _ _ h⟩⟩
abbrev N_told_for : List Str := ["party", "many", "folk", "rows", "equations", "word", "thing", "index", "weight"]
theorem sc_told_for : FnScope N_told_for ["party", "many"] (defScope s_told_for) := ⟨rfl, rfl, rfl, by decide +kernel, rfl, by decide +kernel, by decide +kernel⟩
abbrev sp_told_for (P : Program) (w : World) (K : PySem.W.Frag) : Sp := pSp (fun (a : Dm × Nat) vs G => (∃ u, vs = [u, .int a.2] ∧ rPa P w K a.1 u G) ∧ a.1.Ok ∧ a.1.L.length ≤ 3 ∧ a.2 ≤ 8) (fun a => ToldPost (a.1.Fill a.2))
theorem eg_2v {σ : St} {G : Hp} {i j : Nat} {a : Addr} {x y : V} (h : G a = some (.tup [x, y])) : EvG (gTup K 2 (gCons (gName i) (gCons (gName j) gNil))) (.ref a) σ G ((σ.set i (some x)).set j (some y)) := fun H s Q q => ⟨a, _, rfl, SqT.of (s _ _ h), rfl, x, [y], rfl, y, [], rfl, rfl, q⟩
theorem has_told_for (C : Ctx K mg) : Has P w K mg base "told_for" ["party", "many"] 9 (sp_told_for P w K) := by
  obtain ⟨fd, F⟩ := C.d_told_for
  refine has_pure F C.g_told_for sc_told_for (fun _ _ _ _ _ _ us hl => match us, hl with | [_, _], _ => rfl) (fun a vs G h => by obtain ⟨⟨u, rfl, _⟩, _⟩ := h; rfl) (fun cdv A outer s H vs Q E hr a G sG hp k => ?_)
  have hu := hu_of hr
  refine ⟨_, (pss_cons (ps_set (i := 2) sc_told_for.nd rfl (Or.inl rfl) (pe_callH (has_all_folk C) hr (by decide) rfl (pa_cons (pv 0) (pa_cons (pv 1) pa_nil))))
  (pss_cons (ps_asg (pe_callH (has_open_equations C) hr (by decide) rfl (pa_cons (pv 0) (pa_cons (pv 2) pa_nil))) (pg_tup rfl (pgs_cons (pg_name (i := 3) sc_told_for.nd rfl (Or.inr rfl)) (pgs_cons (pg_name (i := 4) sc_told_for.nd rfl (Or.inl rfl)) pgs_nil))))
  (pss_cons (ps_asg (pe_callH (has_solved C) hr (by decide) rfl (pa_cons (pe_fld (pe_fld (pv 0) rfl) rfl) (pa_cons (pe_callH (has_unknowns_of C) hr (by decide) rfl (pa_cons (pv 0) (pa_cons (pv 2) pa_nil))) (pa_cons (pv 4) pa_nil)))) (pg_tup rfl (pgs_cons (pg_name (i := 5) sc_told_for.nd rfl (Or.inl rfl)) (pgs_cons (pg_name (i := 6) sc_told_for.nd rfl (Or.inl rfl)) pgs_nil))))
  (pss_cons (ps_if (pt_cmpR op_eq (pv 5) pe_str (nomark _))
    (pss_one (ps_ret (pe_tup (pa_cons (pv 5) (pa_cons (pe_lc (g := (gTup K 2 (gCons (gName 7) (gCons (gName 8) gNil)))) (own := [("index", 7), ("weight", 8)]) (by rfl) sc_told_for.nd (pi_list (pv 6)) (blkOk_by (own := [("index", 7), ("weight", 8)]) (N := N_told_for) (sc := defScope s_told_for) (by decide +kernel)) (fun _ _ _ _ _ => (pg_tupK (K := K) rfl rfl (pgs_cons (pg_name (i := 7) sc_told_for.nd rfl (Or.inl rfl)) (pgs_cons (pg_name (i := 8) sc_told_for.nd rfl (Or.inl rfl)) pgs_nil)))) (fun _ _ _ _ _ => pts_nil) (fun _ _ _ _ _ => (pe_tup (pa_cons (pe_ix (ix_listK (K := K) rfl) (pv 3) (pv 7) (fun _ _ => rfl)) (pa_cons (pv 8) pa_nil))))) pa_nil)))))
    pss_nil)
  (pss_cons (ps_expr (pe_ndupd (pv 6) (pe_fld (pv 0) rfl)))
  (pss_one (ps_ret (pe_tup (pa_cons (pv 5) (pa_cons (pv 6) pa_nil)))))))))), ?_⟩
  obtain ⟨d, N⟩ := a
  obtain ⟨⟨u, rfl, hpa⟩, ok, h3, hN⟩ := hp
  dsimp only at hpa ok h3 hN
  have hrl := Dm.rows_len h3 hN
  refine q_asg (P := rL rS (folk N)) (ev_call2 (P := rPa P w K d) (P1 := rI N) (post := fun a : Dm × Nat => rL rS (folk a.2)) (d, N) (ev_var rfl hpa) (ev_vi rfl) fun v1 v2 G' _ p1 p2 => ⟨v1, by rw [show v2 = .int _ from p2], p1, by show N ≤ 10; omega⟩) sG fun fv G1 H1 e1 p1 => ?_
  refine q_asgG (P := r2 (rL rIn1) (rL (rPE P w)) (d.rows N, (arr (folk N) d.L.length).map d.eqn)) (ev_call2 (P := rPa P w K d) (P1 := rL rS (folk N)) (d, N) (ev_var rfl (mn e1.g hpa)) (ev_var rfl p1) fun v1 v2 G' _ p1 p2 => ⟨⟨v1, v2, rfl, p1, p2⟩, ok, h3, hN⟩) e1.s fun v2 G2 H2 e2 p2 => ?_
  obtain ⟨rv, ev, pr, pe, eg⟩ := eg_2 (K := K) (σ := (start N_told_for [u, .int N]).set 2 (some fv)) (i := 3) (j := 4) p2
  refine ⟨_, eg, ?_⟩
  have e02 := e1.trans e2
  have hpa2 := mn e02.g hpa
  have hq : ((arr (folk N) d.L.length).map d.eqn).length = (d.rows N).length := by unfold Dm.rows; rw [List.length_map, List.length_map]
  have hpl := Dm.places_len ok hN
  refine q_asgG (P := SolPost P w (d.rows N).length (d.Fill N)) (EvP.imp (ev_call3 (P := rI d.m) (P1 := rL rPl (d.places N)) (P2 := rL (rPE P w) ((arr (folk N) d.L.length).map d.eqn)) (⟨d.m, d.places N, (arr (folk N) d.L.length).map d.eqn⟩ : SoA) (ev_world C (ev_bookOf C (ev_var rfl hpa2))) (ev_call2 (P := rPa P w K d) (P1 := rL rS (folk N)) (d, N) (ev_var rfl hpa2) (ev_var rfl (mn e2.g p1)) fun v1 v2 G' _ p1 p2 => ⟨⟨v1, v2, rfl, p1, p2⟩, ok, hN⟩) (ev_var rfl pe) fun v1 v2 v3 G' _ q1 q2 q3 => ⟨⟨v2, v3, by rw [show v1 = .int _ from q1], q2, q3⟩, ok.m, d.places_nd N, by show (d.places N).length ≤ 900; omega, by show ((arr (folk N) d.L.length).map d.eqn).length ≤ 900; omega, fun e he => ?_⟩) fun v G' _ h => ?_) e2.s fun v3 G3 H3 e3 p3 => ?_
  · obtain ⟨row, hrow, rfl⟩ := List.mem_map.mp he
    exact Dm.eqn_ok ok hrow
  · have h : SolPost P w ((arr (folk N) d.L.length).map d.eqn).length (PSol d.m ((arr (folk N) d.L.length).map d.eqn)) v G' := h
    rw [hq, propext (Dm.psol ok N)] at h
    exact h
  obtain ⟨a3, wd, th, rfl, ha3, hor⟩ := p3
  refine ⟨_, eg_2v ha3, ?_⟩
  have e03 := e02.trans e3
  rcases hor with ⟨hE, rfl, hth⟩ | ⟨hE, rfl, hth⟩
  · obtain ⟨l, hth⟩ := hth
    obtain ⟨at', _, rfl, _⟩ := id hth
    refine q_skip (EvT.to (et_B (ev_eqS (ev_vs rfl) ev_str)) (by decide +kernel)) e3.s fun G4 H4 e4 => ?_
    refine s_drop (D := { nx := _, rt := _, bk := _, ct := _ }) (P := rN) (ev_ndupd (ev_var rfl (mn e4.g hth)) (ev_keptOf C (ev_var rfl (mn (e3.g.trans e4.g) hpa2)))) e4.s fun v5 G5 H5 e5 p5 => ?_
    have e05 := (e03.trans e4).trans e5
    refine s_ret (P := ToldPost (d.Fill N)) (ev_tupA (ea_2 (P := rS "filling") (P1 := rV (.ref at')) (ev_vs rfl) (ev_var rfl rfl)) (fun vs _ p => by obtain ⟨v, _, rfl, _, w, _, rfl, _, rfl⟩ := p; show 2 ≤ sizeLine; decide) fun vs a G' s p n => ?_) e5.s fun v G6 H6 e6 p6 => k v G6 H6 (e05.trans e6) p6
    obtain ⟨v1, _, rfl, p1, v2, _, rfl, p2, rfl⟩ := p
    exact ⟨a, v1, v2, rfl, upd_same, .inl ⟨hE, p1⟩, by rw [show v2 = .ref at' from p2]; exact fun z => nomatch z⟩
  · obtain ⟨ws, hws, hwl, hwr⟩ := hth
    refine q_yes (EvT.to (et_B (ev_eqS (ev_vs rfl) ev_str)) (by decide +kernel)) e3.s fun G4 H4 e4 => ?_
    have pr4 : rL rIn1 (d.rows N) rv G4 := mn (e3.g.trans e4.g) pr
    refine s_ret (P := ToldPost (d.Fill N)) (ev_tupA (ea_2 (P := rS "refusal") (P1 := rLst) (ev_vs rfl) (EvP.imp (ev_lcm (R := r2 rI rI) (S := r2 (fun _ : Int => Eld.rAny) rI) (fun p => (p.1, p.2)) (ei_list (ev_var rfl (mn e4.g hws))) (small1000 (by omega)) fun p pv G5 hp5 s5 r5 => ?_) fun v G' _ ⟨a, xs, e, h, _⟩ => ⟨a, xs, e, h⟩)) (fun vs _ p => by obtain ⟨v, _, rfl, _, w, _, rfl, _, rfl⟩ := p; show 2 ≤ sizeLine; decide) fun vs a G' s p n => ?_) e4.s fun v G5 H5 e5 p5 => k v G5 H5 ((e03.trans e4).trans e5) p5
    · obtain ⟨h0, h1⟩ := hwr p hp5
      obtain ⟨w1, w2, q1, q2, eg7⟩ := eg_2 (K := K) (i := 7) (j := 8) (σ := wipe ((((((start N_told_for [u, .int N]).set 2 (some fv)).set 3 (some rv)).set 4 (some ev)).set 5 (some (.str "refusal"))).set 6 (some th)) [7, 8]) r5
      refine ⟨_, eg7, rfl, ev_t2 (R := fun _ : Int => Eld.rAny) (S := rI) (x := p.1) (y := p.2) (EvP.imp (ev_ixL (R := rIn1) (ds := d.rows N) (i := p.1) (j := p.1.toNat) (d := (d.rows N)[p.1.toNat]'(by omega)) (ev_var rfl (mn s5 pr4)) (ev_var rfl q1) (by omega) (List.getElem?_eq_getElem _)) fun v G' _ _ => trivial) (ev_var rfl q2)⟩
    · obtain ⟨v1, _, rfl, p1, v2, _, rfl, ⟨a2, xs, rfl, _⟩, rfl⟩ := p
      exact ⟨a, v1, _, rfl, upd_same, .inr ⟨hE, p1⟩, fun z => nomatch z⟩
end
end Eld
set_option maxRecDepth 100000
set_option maxHeartbeats 1000000
/-! filling, refusal. -/
namespace Eld
open PySem PySem.Spec PyProof.Rows L2
section
variable {P : Program} {w : World} {K : PySem.W.Frag} {mg : Str → Option Value} {base : Heap}
/-- None just if E does not hold -/
def rIfN (E : Prop) : V → Hp → Prop := fun v _ => v = .non ↔ ¬ E
instance {E : Prop} : MnP (rIfN E) := ⟨fun _ h => h⟩
abbrev preFl (P : Program) (w : World) (K : PySem.W.Frag) : Dm × Nat → List V → Hp → Prop := fun a vs G => (∃ u, vs = [u, .int a.2] ∧ rPa P w K a.1 u G) ∧ a.1.Ok ∧ a.1.L.length ≤ 3 ∧ a.2 ≤ 8
abbrev N_filling : List Str := ["party", "many", "word", "thing"]
theorem sc_filling : FnScope N_filling ["party", "many"] (defScope s_filling) := ⟨rfl, rfl, rfl, by decide +kernel, rfl, by decide +kernel, by decide +kernel⟩
abbrev sp_filling (P : Program) (w : World) (K : PySem.W.Frag) : Sp := pSp (preFl P w K) (fun a => rIfN (a.1.Fill a.2))
theorem has_filling (C : Ctx K mg) : Has P w K mg base "filling" ["party", "many"] 10 (sp_filling P w K) := by
  obtain ⟨fd, F⟩ := C.d_filling
  refine has_pure F C.g_filling sc_filling (fun _ _ _ _ _ _ us hl => match us, hl with | [_, _], _ => rfl) (fun a vs G h => by obtain ⟨⟨u, rfl, _⟩, _⟩ := h; rfl) (fun cdv A outer s H vs Q E hr a G sG hp k => ?_)
  have hu := hu_of hr
  refine ⟨_, (pss_cons (ps_expr (pe_callH (has_check_number C) hr (by decide) rfl (pa_cons (pv 1) (pa_cons pe_int (pa_cons (pe_gi C.i_MOST_COMERS rfl) pa_nil)))))
  (pss_cons (ps_asg (pe_callH (has_told_for C) hr (by decide) rfl (pa_cons (pv 0) (pa_cons (pv 1) pa_nil))) (pg_tup rfl (pgs_cons (pg_name (i := 2) sc_filling.nd rfl (Or.inl rfl)) (pgs_cons (pg_name (i := 3) sc_filling.nd rfl (Or.inl rfl)) pgs_nil))))
  (pss_one (ps_ret (pe_ifExp (pt_cmpR op_eq (pv 2) pe_str (nomark _)) (pv 3) pe_non))))), ?_⟩
  obtain ⟨d, N⟩ := a
  obtain ⟨⟨u, rfl, hpa⟩, ok, h3, hN⟩ := hp
  dsimp only at hpa ok h3 hN
  refine s_drop (D := { nx := _, rt := _, bk := _, ct := _ }) (P := rN) (ev_call3 (P := rI N) (P1 := rI 0) (P2 := rI 8) (post := fun _ => rN) ((N : Int), 0, 8) (ev_vi rfl) ev_int ev_int fun v1 v2 v3 G' _ p1 p2 p3 => ⟨by rw [show v1 = .int _ from p1, show v2 = .int _ from p2, show v3 = .int _ from p3], by show (0 : Int) ≤ (N : Int); omega, by show (N : Int) ≤ 8; omega⟩) sG fun v1 G1 H1 e1 p1 => ?_
  refine q_asgG (P := ToldPost (d.Fill N)) (ev_call2 (P := rPa P w K d) (P1 := rI N) (post := fun a : Dm × Nat => ToldPost (a.1.Fill a.2)) (d, N) (ev_var rfl (mn e1.g hpa)) (ev_vi rfl) fun v1 v2 G' _ p1 p2 => ⟨⟨v1, by rw [show v2 = .int _ from p2], p1⟩, ok, h3, hN⟩) e1.s fun v3 G3 H3 e3 p3 => ?_
  obtain ⟨a3, wd, th, rfl, ha3, hor, hne⟩ := p3
  refine ⟨_, eg_2v ha3, ?_⟩
  have e03 := e1.trans e3
  rcases hor with ⟨hE, rfl⟩ | ⟨hE, rfl⟩
  · exact s_ret (P := rIfN (d.Fill N)) (ev_if (EvT.to (et_B (ev_eqS (ev_vs rfl) ev_str)) (show decide (("filling" : Str) = "filling") = true by decide +kernel)) (fun _ => ev_var rfl ⟨fun z => (hne z).elim, fun z => (z hE).elim⟩) fun h => nomatch h) e3.s fun v G4 H4 e4 p4 => k v G4 H4 (e03.trans e4) p4
  · exact s_ret (P := rIfN (d.Fill N)) (ev_if (EvT.to (et_B (ev_eqS (ev_vs rfl) ev_str)) (show decide (("refusal" : Str) = "filling") = false by decide +kernel)) (fun h => nomatch h) fun _ => EvP.imp ev_non fun v G' _ p => ⟨fun _ => hE, fun _ => p⟩) e3.s fun v G4 H4 e4 p4 => k v G4 H4 (e03.trans e4) p4
abbrev N_refusal : List Str := ["party", "many", "word", "thing"]
theorem sc_refusal : FnScope N_refusal ["party", "many"] (defScope s_refusal) := ⟨rfl, rfl, rfl, by decide +kernel, rfl, by decide +kernel, by decide +kernel⟩
abbrev sp_refusal (P : Program) (w : World) (K : PySem.W.Frag) : Sp := pSp (preFl P w K) (fun a => rIfN (¬ a.1.Fill a.2))
theorem has_refusal (C : Ctx K mg) : Has P w K mg base "refusal" ["party", "many"] 10 (sp_refusal P w K) := by
  obtain ⟨fd, F⟩ := C.d_refusal
  refine has_pure F C.g_refusal sc_refusal (fun _ _ _ _ _ _ us hl => match us, hl with | [_, _], _ => rfl) (fun a vs G h => by obtain ⟨⟨u, rfl, _⟩, _⟩ := h; rfl) (fun cdv A outer s H vs Q E hr a G sG hp k => ?_)
  have hu := hu_of hr
  refine ⟨_, (pss_cons (ps_expr (pe_callH (has_check_number C) hr (by decide) rfl (pa_cons (pv 1) (pa_cons pe_int (pa_cons (pe_gi C.i_MOST_COMERS rfl) pa_nil)))))
  (pss_cons (ps_asg (pe_callH (has_told_for C) hr (by decide) rfl (pa_cons (pv 0) (pa_cons (pv 1) pa_nil))) (pg_tup rfl (pgs_cons (pg_name (i := 2) sc_refusal.nd rfl (Or.inl rfl)) (pgs_cons (pg_name (i := 3) sc_refusal.nd rfl (Or.inl rfl)) pgs_nil))))
  (pss_one (ps_ret (pe_ifExp (pt_cmpR op_eq (pv 2) pe_str (nomark _)) (pv 3) pe_non))))), ?_⟩
  obtain ⟨d, N⟩ := a
  obtain ⟨⟨u, rfl, hpa⟩, ok, h3, hN⟩ := hp
  dsimp only at hpa ok h3 hN
  refine s_drop (D := { nx := _, rt := _, bk := _, ct := _ }) (P := rN) (ev_call3 (P := rI N) (P1 := rI 0) (P2 := rI 8) (post := fun _ => rN) ((N : Int), 0, 8) (ev_vi rfl) ev_int ev_int fun v1 v2 v3 G' _ p1 p2 p3 => ⟨by rw [show v1 = .int _ from p1, show v2 = .int _ from p2, show v3 = .int _ from p3], by show (0 : Int) ≤ (N : Int); omega, by show (N : Int) ≤ 8; omega⟩) sG fun v1 G1 H1 e1 p1 => ?_
  refine q_asgG (P := ToldPost (d.Fill N)) (ev_call2 (P := rPa P w K d) (P1 := rI N) (post := fun a : Dm × Nat => ToldPost (a.1.Fill a.2)) (d, N) (ev_var rfl (mn e1.g hpa)) (ev_vi rfl) fun v1 v2 G' _ p1 p2 => ⟨⟨v1, by rw [show v2 = .int _ from p2], p1⟩, ok, h3, hN⟩) e1.s fun v3 G3 H3 e3 p3 => ?_
  obtain ⟨a3, wd, th, rfl, ha3, hor, hne⟩ := p3
  refine ⟨_, eg_2v ha3, ?_⟩
  have e03 := e1.trans e3
  rcases hor with ⟨hE, rfl⟩ | ⟨hE, rfl⟩
  · exact s_ret (P := rIfN (¬ d.Fill N)) (ev_if (EvT.to (et_B (ev_eqS (ev_vs rfl) ev_str)) (show decide (("filling" : Str) = "refusal") = false by decide +kernel)) (fun h => nomatch h) fun _ => EvP.imp ev_non fun v G' _ p => ⟨fun _ z => z hE, fun _ => p⟩) e3.s fun v G4 H4 e4 p4 => k v G4 H4 (e03.trans e4) p4
  · exact s_ret (P := rIfN (¬ d.Fill N)) (ev_if (EvT.to (et_B (ev_eqS (ev_vs rfl) ev_str)) (show decide (("refusal" : Str) = "refusal") = true by decide +kernel)) (fun _ => ev_var rfl ⟨fun z => (hne z).elim, fun z => (z hE).elim⟩) fun h => nomatch h) e3.s fun v G4 H4 e4 p4 => k v G4 H4 (e03.trans e4) p4
end
end Eld
set_option maxRecDepth 100000
set_option maxHeartbeats 1000000
/-! ranked, place_form, forms_of, forms. -/
namespace Eld
open PySem PySem.Spec PyProof.Rows L2
theorem rank_rows' : ((List.range 3).all fun n => (arr (List.range 3) n).all fun row => (arr (List.range 3) n).all fun ks => !((ks.all fun x => row.contains x) && sortedS (ks.map dig)) || row.all fun x => ks.contains x && (ks.idxOf x == (row.filter fun y => decide (y < x)).length)) = true := by decide +kernel
theorem str_dig0 : (List.range 3).all (fun i => decide ((toString ((i : Nat) : Int) : Str) = dig i)) = true := by decide +kernel
theorem str_dig (i : Nat) (h : i < 3) : (toString ((i : Nat) : Int) : Str) = dig i := of_decide_eq_true (List.all_eq_true.mp str_dig0 i (List.mem_range.mpr h))
theorem rank_rows {n : Nat} (hn : n < 3) {row ks : List Nat} (hr : row ∈ arr (List.range 3) n) (hk : ks ∈ arr (List.range 3) n) (h1 : ∀ x ∈ ks, x ∈ row) (h2 : sortedS (ks.map dig) = true) {x : Nat} (hx : x ∈ row) : x ∈ ks ∧ ks.idxOf x = (row.filter fun y => decide (y < x)).length := by
  have h := List.all_eq_true.mp (List.all_eq_true.mp (List.all_eq_true.mp rank_rows' n (List.mem_range.mpr hn)) row hr) ks hk
  rw [h2, List.all_eq_true.mpr fun x hx => List.contains_iff_mem.mpr (h1 x hx)] at h
  have h3 := List.all_eq_true.mp (show (row.all fun x => ks.contains x && (ks.idxOf x == (row.filter fun y => decide (y < x)).length)) = true from h) x hx
  rw [Bool.and_eq_true] at h3
  exact ⟨List.contains_iff_mem.mp h3.1, beq_iff_eq.mp h3.2⟩
theorem rank_forms : ∀ n ∈ List.range 3, ∀ row ∈ arr (List.range 3) n, rank row ∈ arr (List.range 3) n ∧ rank (rank row) = rank row := by decide +kernel
/-- the form of a place -/
def fm (pl : Pl) : Pl := (pl.1, (rank (pl.2.map undig)).map dig)
theorem fm_dig (lab : Str) (r : List Nat) : fm (lab, r.map dig) = (lab, (rank r).map dig) := by
  unfold fm
  show (lab, (rank ((r.map dig).map undig)).map dig) = _
  rw [undig_map]
def Dm.forms (d : Dm) : List Pl := ((arr (List.range 3) d.s).filter fun r => decide (rank r = r)).map fun r => (d.lab, r.map dig)
theorem map_dig_inj {a b : List Nat} (h : a.map dig = b.map dig) : a = b := by
  rw [← undig_map a, ← undig_map b, h]
theorem Dm.forms_nd (d : Dm) : d.forms.Nodup := by
  have := (arr_nd (List.nodup_range (n := 3)) d.s).sublist (List.filter_sublist (p := fun r => decide (rank r = r)))
  unfold Dm.forms
  rw [List.nodup_iff_pairwise_ne] at this ⊢
  exact List.Pairwise.map _ (fun a b h e => h (map_dig_inj (Prod.mk.inj e).2)) this
theorem strOk_dig : ∀ i ∈ List.range 10, PyData.strOk (dig i) = true := by decide +kernel
theorem pl0_strs (xs : List Str) : pl0s (xs.map PyData.str) = true := by
  induction xs with
  | nil => rfl
  | cons x xs ih => rw [List.map_cons]; unfold pl0s; rw [ih]; rfl
theorem shaped_tup {xs : List Str} (h : ∀ x ∈ xs, PyData.strOk x = true) : SeqAt.shaped (.tuple (xs.map PyData.str)) = true := by
  unfold SeqAt.shaped
  rw [Bool.and_eq_true]
  refine ⟨?_, decide_eq_true ?_⟩
  · unfold PyData.canLay0
    rw [canLayAll_strs', List.all_eq_true]
    exact h
  · unfold PyData.depth
    rw [depth_strs]
    decide
theorem eqv_tup (a b : List Str) : PyData.eqv (.tuple (a.map .str)) (.tuple (b.map .str)) = decide (a = b) := by
  by_cases e : a = b
  · subst e
    rw [decide_eq_true rfl]
    exact eqv_rfl (by unfold pl0; exact pl0_strs a)
  · rw [decide_eq_false e]
    cases z : PyData.eqv (.tuple (a.map .str)) (.tuple (b.map .str)) with
    | false => rfl
    | true =>
      have := eqv_eq (by unfold pl0; exact pl0_strs a) (by unfold pl0; exact pl0_strs b) z
      injection this with this
      refine (e ?_).elim
      clear z e
      induction a generalizing b with
      | nil => cases b with
        | nil => rfl
        | cons y b => cases this
      | cons x a ih => cases b with
        | nil => cases this
        | cons y b =>
          rw [List.map_cons, List.map_cons] at this
          injection this with h1 h2
          injection h1 with h1
          rw [h1, ih b h2]
section
variable {P : Program} {w : World} {K : PySem.W.Frag} {mg : Str → Option Value} {base : Heap}
abbrev N_ranked : List Str := ["folk", "row", "one"]
theorem sc_ranked : FnScope N_ranked ["folk"] (defScope s_ranked) := ⟨rfl, rfl, rfl, by decide +kernel, rfl, by decide +kernel, by decide +kernel⟩
abbrev sp_ranked : Sp := pSp (fun (r : List Nat) vs G => (∃ v, vs = [v] ∧ rT rS (r.map dig) v G) ∧ r.length ≤ 2 ∧ r ∈ arr (List.range 3) r.length) (fun r => rT rS ((rank r).map dig))
theorem has_ranked (C : Ctx K mg) : Has P w K mg base "ranked" ["folk"] 2 sp_ranked := by
  obtain ⟨fd, F⟩ := C.d_ranked
  refine has_pure F C.g_ranked sc_ranked (fun _ _ _ _ _ _ us hl => match us, hl with | [_], _ => rfl) (fun a vs G h => by obtain ⟨⟨v, rfl, _⟩, _⟩ := h; rfl) (fun cdv A outer s H vs Q E hr a G sG hp k => ?_)
  have hu := hu_of hr
  refine ⟨_, (pss_cons (ps_set (i := 1) sc_ranked.nd rfl (Or.inr rfl) (pe_callB cr_sortedS (by rfl) C.f_sorted (by decide +kernel) (pa_cons (pe_lc (own := [("one", 2)]) (by rfl) sc_ranked.nd (pi_tup (pv 0)) (blkOk_by (own := [("one", 2)]) (N := N_ranked) (sc := defScope s_ranked) (by decide +kernel)) (fun _ _ _ _ _ => (pg_name (i := 2) sc_ranked.nd rfl (Or.inl rfl))) (fun _ _ _ _ _ => (pts_one (pt_val (pe_callH (has_is_comer (P := P) (w := w) (base := base) C) hr (by decide) rfl (pa_cons (pv 2) pa_nil))))) (fun _ _ _ _ _ => (pv 2))) pa_nil)))
  (pss_one (ps_ret (pe_callTy call_tuple_of (by rfl) C.f_tuple (by decide +kernel) (pa_cons (pe_lc (own := [("one", 2)]) (by rfl) sc_ranked.nd (pi_tup (pv 0)) (blkOk_by (own := [("one", 2)]) (N := N_ranked) (sc := defScope s_ranked) (by decide +kernel)) (fun _ _ _ _ _ => (pg_name (i := 2) sc_ranked.nd rfl (Or.inl rfl))) (fun _ _ _ _ _ => pts_nil) (fun _ _ _ _ _ => (pe_ifExp (pt_val (pe_callH (has_is_comer (P := P) (w := w) (base := base) C) hr (by decide) rfl (pa_cons (pv 2) pa_nil))) (pe_callTy call_str_int (by rfl) C.f_str (by decide +kernel) (pa_cons (pe_bmK (K := K) rfl PySem.F.plainAttrs_list PySem.F.slot_list_index PySem.F.type_list_index (mt_indexK (K := K) rfl) (pv 1) (pa_cons (pv 2) pa_nil)) pa_nil)) (pv 2)))) pa_nil))))), ?_⟩
  obtain ⟨⟨v, rfl, hv⟩, hl, hr3⟩ := hp
  have hz : (a.map dig).length < sizeLine := by rw [List.length_map]; exact small1000 (by omega)
  have hcom : ∀ i ∈ a, 48 + i ∈ figS.cps.toList := fun i hi => by
    have := List.mem_range.mp ((mem_arr.mp hr3).2.2 i hi)
    rcases (by omega : i = 0 ∨ i = 1 ∨ i = 2) with rfl | rfl | rfl <;> decide +kernel
  refine q_asg (P := fun v G => ∃ ys : List Str, ys.Perm (a.map dig) ∧ sortedS ys = true ∧ rL rS ys v G) (EvP.imp (ev_sortS (ds := a.map dig) (EvP.imp (ev_lc (R := rS) (S := rS) (fun _ => true) id (ei_tup (ev_var rfl hv)) hz fun x xv G' hx s r => ?_) fun v G' _ h => ?_) (by rw [List.length_map]; omega)) fun v G' _ h => h) sG fun v1 G1 H1 e1 ⟨ys, y1, y2, p1⟩ => ?_
  · obtain ⟨i, hi, rfl⟩ := List.mem_map.mp hx
    exact ⟨_, eg_name, rfl, et_B (ev_call1 (P := rS (dig i)) (post := fun _ => rB true) (48 + i) (ev_var rfl r) fun v G' _ p => ⟨by rw [show v = .str (dig i) from p]; rfl, hcom i hi⟩), fun _ => ev_var rfl r⟩
  · rw [List.filter_eq_self.mpr (fun _ _ => rfl), List.map_id] at h
    exact h
  obtain ⟨ks, rfl, h1⟩ : ∃ ks : List Nat, ys = ks.map dig ∧ ks.Perm a := by
    refine ⟨ys.map undig, ?_, ?_⟩
    · rw [List.map_map]
      refine ((List.map_congr_left fun y hy => ?_).trans (List.map_id ys)).symm
      obtain ⟨i, _, rfl⟩ := List.mem_map.mp (y1.mem_iff.mp hy)
      show dig (undig (dig i)) = dig i
      rw [undig_dig]
    · have := y1.map undig
      rwa [undig_map] at this
  have hks : ks ∈ arr (List.range 3) a.length := mem_arr.mpr ⟨h1.length_eq, h1.nodup_iff.mpr (mem_arr.mp hr3).2.1, fun x hx => (mem_arr.mp hr3).2.2 x (h1.mem_iff.mp hx)⟩
  refine s_ret (P := rT rS ((rank a).map dig)) (ev_tupL (EvP.imp (ev_lcm (R := rS) (S := rS) (fun x => dig ((a.filter fun y => decide (y < undig x)).length)) (ei_tup (ev_var rfl (mn e1.g hv))) hz fun x xv G' hx s r => ?_) fun v G' _ h => ?_)) e1.s fun v G' H' e p => k v G' H' (e1.trans e) p
  · obtain ⟨i, hi, rfl⟩ := List.mem_map.mp hx
    obtain ⟨m1, m2⟩ := rank_rows (by omega) hr3 hks (fun x hx => h1.mem_iff.mp hx) y2 hi
    refine ⟨_, eg_name, rfl, ev_if (et_B (ev_call1 (P := rS (dig i)) (post := fun _ => rB true) (48 + i) (ev_var rfl r) fun v G' _ p => ⟨by rw [show v = .str (dig i) from p]; rfl, hcom i hi⟩)) (fun _ => EvP.imp (ev_strI (ev_idxL (ds := ks.map dig) (x := dig i) (j := ks.idxOf i) (ev_var rfl (mn s p1)) (ev_var rfl r) ?_ fun m hm hq => ?_) ?_) fun v G' _ p => ?_) fun h => nomatch h⟩
    · rw [List.getElem?_map, List.getElem?_eq_getElem (List.idxOf_lt_length_of_mem m1), List.getElem_idxOf]
      rfl
    · rw [List.getElem?_map] at hq
      cases hmm : ks[m]? with
      | none => rw [hmm] at hq; cases hq
      | some q =>
        rw [hmm] at hq
        have e : q = i := dig_inj (Option.some.inj hq)
        subst e
        obtain ⟨hlt, he⟩ := List.getElem?_eq_some_iff.mp hmm
        have := List.Nodup.idxOf_getElem (mem_arr.mp hks).2.1 m hlt
        rw [he] at this
        omega
    · have h5 : ks.idxOf i < 3 := by
        have := List.idxOf_lt_length_of_mem m1
        rw [(mem_arr.mp hks).1] at this
        omega
      rcases (by omega : ks.idxOf i = 0 ∨ ks.idxOf i = 1 ∨ ks.idxOf i = 2) with e | e | e <;> rw [e] <;> decide +kernel
    · have p : v = .str (toString ((ks.idxOf i : Nat) : Int)) := p
      have h5 : ks.idxOf i < 3 := by
        have := List.idxOf_lt_length_of_mem m1
        rw [(mem_arr.mp hks).1] at this
        omega
      rw [str_dig _ h5, m2] at p
      show v = .str (dig _)
      rw [undig_dig]
      exact p
  · rw [List.map_map] at h
    unfold rank
    rw [List.map_map]
    have e : ((fun x => dig ((a.filter fun y => decide (y < undig x)).length)) ∘ dig) = dig ∘ fun x => (a.filter fun y => decide (y < x)).length := funext fun i => by
      show dig _ = dig _
      rw [undig_dig]
    rw [e] at h
    exact h
abbrev N_place_form : List Str := ["place"]
theorem sc_place_form : FnScope N_place_form ["place"] (defScope s_place_form) := ⟨rfl, rfl, rfl, by decide +kernel, rfl, by decide +kernel, by decide +kernel⟩
abbrev sp_place_form : Sp := pSp (fun (a : Str × List Nat) vs G => (∃ v, vs = [v] ∧ rPl (a.1, a.2.map dig) v G) ∧ a.2.length ≤ 2 ∧ a.2 ∈ arr (List.range 3) a.2.length) (fun a => rPl (a.1, (rank a.2).map dig))
theorem has_place_form (C : Ctx K mg) : Has P w K mg base "place_form" ["place"] 3 sp_place_form := by
  obtain ⟨fd, F⟩ := C.d_place_form
  refine has_pure F C.g_place_form sc_place_form (fun _ _ _ _ _ _ us hl => match us, hl with | [_], _ => rfl) (fun a vs G h => by obtain ⟨⟨v, rfl, _⟩, _⟩ := h; rfl) (fun cdv A outer s H vs Q E hr a G sG hp k => ?_)
  have hu := hu_of hr
  refine ⟨_, (pss_one (ps_ret (pe_tup (pa_cons (pe_ix ix_tup (pv 0) pe_int (fun _ _ => rfl)) (pa_cons (pe_callH (has_ranked C) hr (by decide) rfl (pa_cons (pe_ix ix_tup (pv 0) pe_int (fun _ _ => rfl)) pa_nil)) pa_nil))))), ?_⟩
  obtain ⟨lab, r⟩ := a
  obtain ⟨⟨v, rfl, hv⟩, hl, hr3⟩ := hp
  exact s_ret (P := rPl (lab, (rank r).map dig)) (ev_t2 (R := rS) (S := rT rS) (x := lab) (y := (rank r).map dig) (ev_fst (ev_var (P := rPl (lab, r.map dig)) rfl hv)) (ev_call1 (P := rT rS (r.map dig)) (post := fun r => rT rS ((rank r).map dig)) r (ev_snd (ev_var (P := rPl (lab, r.map dig)) rfl hv)) fun v G' _ p => ⟨⟨v, rfl, p⟩, hl, hr3⟩)) sG fun v G' H' e p => k v G' H' e p
abbrev N_forms_of : List Str := ["book", "names", "found", "label", "size", "row"]
theorem sc_forms_of : FnScope N_forms_of ["book", "names"] (defScope s_forms_of) := ⟨rfl, rfl, rfl, by decide +kernel, rfl, by decide +kernel, by decide +kernel⟩
abbrev sp_forms_of (K : PySem.W.Frag) : Sp := pSp (fun (d : Dm) vs G => (∃ u v, vs = [u, v] ∧ rBk K d u G ∧ rT rS [] v G) ∧ d.Ok) (fun d => rL rPl d.forms)
theorem has_forms_of (C : Ctx K mg) : Has P w K mg base "forms_of" ["book", "names"] 3 (sp_forms_of K) := by
  obtain ⟨fd, F⟩ := C.d_forms_of
  refine has_pure F C.g_forms_of sc_forms_of (fun _ _ _ _ _ _ us hl => match us, hl with | [_, _], _ => rfl) (fun a vs G h => by obtain ⟨⟨u, v, rfl, _⟩, _⟩ := h; rfl) (fun cdv A outer s H vs Q E hr a G sG hp k => ?_)
  have hu := hu_of hr
  refine ⟨_, (pss_cons (ps_set (i := 2) sc_forms_of.nd rfl (Or.inl rfl) (pe_lst pa_nil))
  (pss_cons (ps_for PassesOwn.never (by rfl) (pi_tup (pe_fld (pv 0) rfl)) (pg_tup rfl (pgs_cons (pg_name (i := 3) sc_forms_of.nd rfl (Or.inl rfl)) (pgs_cons (pg_name (i := 4) sc_forms_of.nd rfl (Or.inl rfl)) pgs_nil)))
    (pss_one (ps_for PassesOwn.never (by rfl) (pi_list (pe_callH (has_arrangements C) hr (by decide) rfl (pa_cons (pe_op op_cat (pe_callH (has_comers C) hr (by decide) rfl (pa_cons (pe_gi C.i_MOST_SIZE_rules rfl) pa_nil)) (pe_callTy call_list_of (by rfl) C.f_list (by decide +kernel) (pa_cons (pv 1) pa_nil))) (pa_cons (pv 4) pa_nil)))) (pg_name (i := 5) sc_forms_of.nd rfl (Or.inl rfl))
    (pss_one (ps_if (pt_cmpR (op_eqD hr.units) (pe_callH (has_ranked C) hr (by decide) rfl (pa_cons (pv 5) pa_nil)) (pv 5) (nomark _))
    (pss_one (ps_expr (pe_bm PySem.F.plainAttrs_list PySem.F.slot_list_append PySem.F.type_list_append mt_append (pv 2) (pa_cons (pe_tup (pa_cons (pv 3) (pa_cons (pv 5) pa_nil))) pa_nil))))
    pss_nil)))))
  (pss_one (ps_ret (pv 2))))), ?_⟩
  obtain ⟨⟨u, v, rfl, hb, hv⟩, ok⟩ := hp
  have hs2 : a.s ≤ 2 := by rcases ok.s with h | h <;> omega
  have h64 : (arr (List.range 3) a.s).length ≤ 9 := Nat.le_trans (arr_len _ _) (by rw [List.length_range]; exact Nat.le_trans (Nat.pow_le_pow_right (by omega) hs2) (by decide))
  refine q_asgN (en_l0 (R := rPl)) sG fun l o G1 H1 e1 hl gl hol ol => ?_
  obtain ⟨xs0, rfl, al0⟩ := ol
  cases al0
  refine q_for (Gb := G) (Hb := H) e1 (ei_tupZ (R := rTb) (d := a.tb) (ev_tables C (ev_var rfl (mn e1.g hb)))) (fun i σ' G' H' => ∃ y z q xs, σ' = [some u, some v, some (.ref l), y, z, q] ∧ H' l = some (.lst xs) ∧ G' l = none ∧ All2 rPl G' xs (if i = 0 then [] else a.forms))
    (fun G2 H2 e2 => ⟨none, none, none, [], rfl, e2.h _ _ hol, e2.f l (by rw [hol]; exact fun z => nomatch z) gl, .nil⟩) (fun G2 sG2 i dd v' σ' G0 H0 G' H' hk s0 e0' j e' r => ?_) (fun G2 σ' G' H' sG2 s2 e2 j => ?_)
  · obtain ⟨y, z, q, xs, rfl, hx, gx, al⟩ := j
    have hx' := e'.h _ _ hx
    have gx' := e'.f l (by rw [hx]; exact fun z => nomatch z) gx
    have hi : i = 0 := by
      have := (List.getElem?_eq_some_iff.mp hk).1
      simpa using this
    subst hi
    have hd : a.tb = dd := by simpa using hk
    subst hd
    rw [if_pos rfl] at al
    cases al
    obtain ⟨w1, w2, q1, q2, eg⟩ := eg_2 (K := K) (σ := [some u, some v, some (.ref l), y, z, q]) (i := 3) (j := 4) r
    refine eg _ e'.s _ ?_
    cases (show w1 = .str a.lab from q1)
    cases (show w2 = .int (a.s : Int) from q2)
    have hvn : rT rS [] v G' := mn ((e1.g.trans sG2).trans (s0.trans e'.g)) hv
    refine s_for (Gb := G) (Hb := H) (e0'.trans e') (ei_list (R := rT rS) (ds := arr (folk 3) a.s) (ev_call2 (P := rL rS (folk 3)) (P1 := rI (a.s : Int)) (post := fun a : List Str × Nat => rL (rT rS) (arr a.1 a.2)) (folk 3, a.s) (EvP.imp (ev_catL (es := []) (ev_call1 (P := rI 3) (post := fun n => rL rS (folk n)) 3 ev_int fun v G' _ p => ⟨by rw [show v = .int 3 from p]; rfl, by omega⟩) (ev_listT (ev_var rfl hvn)) (by rw [sizeLine_eq]; decide)) fun v G' _ p => by rw [List.append_nil] at p; exact p) (ev_vi rfl) fun v1 v2 G' _ p1 p2 => ⟨⟨v1, by rw [show v2 = .int _ from p2], p1⟩, by show (folk 3).length ≤ 12; rw [folk_len]; omega, by show a.s ≤ 4; omega⟩))
      (fun j σ' G' H' => ∃ q xs, σ' = [some u, some v, some (.ref l), some (.str a.lab), some (.int (a.s : Int)), q] ∧ H' l = some (.lst xs) ∧ G' l = none ∧ All2 rPl G' xs ((((arr (List.range 3) a.s).take j).filter fun r => decide (rank r = r)).map fun r => (a.lab, r.map dig)))
      (fun G3 H3 e3 => ⟨q, [], rfl, e3.h _ _ hx', e3.f l (by rw [hx']; exact fun z => nomatch z) gx', .nil⟩) (fun G3 sG3 m dd v' σ' G4 H4 G5 H5 hk s4 e4 jj e5 r => ?_) (fun G3 σ' G4 H4 sG3 s4 e4 jj => ?_)
    · obtain ⟨q, xs, rfl, hx4, gx4, al4⟩ := jj
      rw [arr_folk, List.getElem?_map] at hk
      cases hn : (arr (List.range 3) a.s)[m]? with
      | none => rw [hn] at hk; cases hk
      | some r0 =>
      rw [hn] at hk
      cases hk
      have hm := (List.getElem?_eq_some_iff.mp hn).1
      have hr0 := List.mem_of_getElem? hn
      have hrl := (mem_arr.mp hr0).1
      have hti : (arr (List.range 3) a.s).take (m + 1) = (arr (List.range 3) a.s).take m ++ [r0] := by
        rw [take_snoc hm]
        rw [List.getElem?_eq_getElem hm] at hn
        rw [Option.some.inj hn]
      have hx5 := e5.h _ _ hx4
      have gx5 := e5.f l (by rw [hx4]; exact fun z => nomatch z) gx4
      refine eg_name _ e5.s _ ?_
      have hok : ∀ (r : List Nat), r ∈ arr (List.range 3) a.s → ∀ x ∈ r.map dig, PyData.strOk x = true := fun r hr x hx => by
        obtain ⟨i, hi, rfl⟩ := List.mem_map.mp hx
        have := List.mem_range.mp ((mem_arr.mp hr).2.2 i hi)
        exact strOk_dig i (List.mem_range.mpr (by omega))
      have hrank := rank_forms a.s (List.mem_range.mpr (by omega)) r0 hr0
      refine s_ifn (b := decide (rank r0 = r0)) (EvT.to (et_B (ev_eqD (d := .tuple (((rank r0).map dig).map .str)) (e := .tuple ((r0.map dig).map .str)) (ev_dp (ev_call1 (P := rT rS (r0.map dig)) (post := fun r => rT rS ((rank r).map dig)) r0 (ev_var rfl r) fun v G' _ p => ⟨⟨v, rfl, p⟩, by omega, by rw [hrl]; exact hr0⟩) fun v G' p => dp_T p fun d x => dp_s) (ev_dp (PP := rT rS (r0.map dig)) (ev_var rfl r) fun v G' p => dp_T p fun d x => dp_s) (shaped_tup (hok _ hrank.1)) (shaped_tup (hok _ hr0)))) ?_) e5.s (fun hb G6 H6 e6 => ?_) (fun hb G6 H6 e6 => ?_)
      · rw [eqv_tup, decide_eq_decide]
        exact ⟨map_dig_inj, fun e => by rw [e]⟩
      · have hx6 := e6.h _ _ hx5
        have gx6 := e6.f l (by rw [hx5]; exact fun z => nomatch z) gx5
        refine s_app hx6 (ev_var rfl rfl) (ev_t2 (R := rS) (S := rT rS) (x := a.lab) (y := r0.map dig) (ev_vs rfl) (ev_var rfl (mn e6.g r))) e6.s ?_ fun v7 G7 H7 e7 p7 h7 => ?_
        · have h1 := al4.length
          rw [List.length_map] at h1
          have h2 := List.length_filter_le (fun r => decide (rank r = r)) ((arr (List.range 3) a.s).take m)
          rw [List.length_take] at h2
          exact small1000 (by omega)
        · have gx7 := e7.f l (by rw [hx6]; exact fun z => nomatch z) gx6
          refine ⟨G7, ((s4.trans e5.g).trans e6.g).trans e7.g, (((e4.trans e5).trans e6).trans e7).upd hl gx7, _, _, rfl, upd_same, gx7, ?_⟩
          rw [hti, List.filter_append, List.map_append, List.filter_cons, if_pos hb]
          exact (al4.mono ((e5.g.trans e6.g).trans e7.g)).snoc p7
      · refine ⟨G6, (s4.trans e5.g).trans e6.g, (e4.trans e5).trans e6, _, xs, rfl, e6.h _ _ hx5, e6.f l (by rw [hx5]; exact fun z => nomatch z) gx5, ?_⟩
        rw [hti, List.filter_append, List.map_append, List.filter_cons, if_neg (by rw [hb]; exact Bool.false_ne_true)]
        show All2 rPl G6 xs (_ ++ [])
        rw [List.append_nil]
        exact al4.mono (e5.g.trans e6.g)
    · obtain ⟨q, xs, rfl, hx4, gx4, al4⟩ := jj
      refine ⟨G4, ((s0.trans e'.g).trans sG3).trans s4, e4, _, _, q, xs, rfl, hx4, gx4, ?_⟩
      rw [if_neg (by omega)]
      rw [show (arr (folk 3) a.s).length = (arr (List.range 3) a.s).length by rw [arr_folk, List.length_map], List.take_length] at al4
      exact al4
  · obtain ⟨y, z, q, xs, rfl, hx, gx, al⟩ := j
    rw [if_neg (by show ¬ ([a.tb] : List (Str × Int)).length = 0; simp)] at al
    have e3 := e2.know hl gx hx
    exact s_ret (P := rL rPl a.forms) (ev_var rfl ⟨l, xs, rfl, upd_same, al.mono (Same.new gx)⟩) e3.s fun v G3 H3 e4 p4 => k v G3 H3 (e3.trans e4) p4
abbrev N_forms : List Str := ["party"]
theorem sc_forms : FnScope N_forms ["party"] (defScope s_forms) := ⟨rfl, rfl, rfl, by decide +kernel, rfl, by decide +kernel, by decide +kernel⟩
abbrev sp_forms (P : Program) (w : World) (K : PySem.W.Frag) : Sp := pSp (fun (d : Dm) vs G => (∃ u, vs = [u] ∧ rPa P w K d u G) ∧ d.Ok) (fun d => rL rPl d.forms)
theorem has_forms (C : Ctx K mg) : Has P w K mg base "forms" ["party"] 4 (sp_forms P w K) := by
  obtain ⟨fd, F⟩ := C.d_forms
  refine has_pure F C.g_forms sc_forms (fun _ _ _ _ _ _ us hl => match us, hl with | [_], _ => rfl) (fun a vs G h => by obtain ⟨⟨u, rfl, _⟩, _⟩ := h; rfl) (fun cdv A outer s H vs Q E hr a G sG hp k => ?_)
  have hu := hu_of hr
  refine ⟨_, (pss_one (ps_ret (pe_callH (has_forms_of C) hr (by decide) rfl (pa_cons (pe_fld (pv 0) rfl) (pa_cons (pe_fld (pv 0) rfl) pa_nil))))), ?_⟩
  obtain ⟨⟨u, rfl, hpa⟩, ok⟩ := hp
  exact s_ret (P := rL rPl a.forms) (ev_call2 (P := rBk K a) (P1 := rT rS []) (post := fun d : Dm => rL rPl d.forms) a (ev_bookOf C (ev_var rfl hpa)) (ev_namesOf C (ev_var rfl hpa)) fun v1 v2 G' _ p1 p2 => ⟨⟨v1, v2, rfl, p1, p2⟩, ok⟩) sG fun v G3 H3 e4 p4 => k v G3 H3 e4 p4
end
end Eld
set_option maxRecDepth 100000
set_option maxHeartbeats 1000000
/-! formed, rule_folk, form_equations, rule_rows, rule. -/
namespace Eld
open PySem PySem.Spec PyProof.Rows L2
/-! ### plain: the equations of forms -/
def formE (m : Int) (e : PEq) : PEq := (eqN1 m (e.1.map fun kv => (fm kv.1, kv.2)), e.2)
def Dm.fall (d : Dm) : List PEq := (arr (folk d.L.length) d.L.length).map fun row => formE d.m (d.eqn row)
def Dm.Rule (d : Dm) : Prop := Eld.Rule d.m d.Tp d.r d.L.length
theorem psum_fm (l : List (Pl × Int)) (y : Pl → Int) : psum (l.map fun kv => (fm kv.1, kv.2)) y = psum l fun p => y (fm p) := by
  unfold psum; rw [List.map_map]; rfl
theorem formE_iff {d : Dm} (row : List Str) (y : Pl → Int) : d.m ∣ psum (formE d.m (d.eqn row)).1 y - (formE d.m (d.eqn row)).2 ↔ d.m ∣ psum (d.ts row) (fun p => y (fm p)) - d.r := by
  rw [← Dm.eqn_iff]
  have h := eqN1_sum (m := d.m) ((d.eqn row).1.map fun kv => (fm kv.1, kv.2)) y
  rw [psum_fm] at h
  exact dvd_shift h ⟨0, by show (d.eqn row).2 - (d.eqn row).2 = _; omega⟩
theorem Dm.prule {d : Dm} (ok : d.Ok) : PSol d.m d.fall ↔ d.Rule := by
  unfold PSol Dm.Rule Eld.Rule
  constructor
  · rintro ⟨y, h⟩
    refine ⟨fun q => y (d.lab, q.map dig), fun r hr => ?_⟩
    have := h (formE d.m (d.eqn (r.map dig))) (List.mem_map.mpr ⟨r.map dig, by rw [arr_folk]; exact List.mem_map.mpr ⟨r, hr, rfl⟩, rfl⟩)
    rw [formE_iff, Dm.psum_ts ok (mem_arr.mp hr).1] at this
    simp only [fm_dig] at this
    exact this
  · rintro ⟨z, h⟩
    refine ⟨fun pl => z (pl.2.map undig), fun e he => ?_⟩
    obtain ⟨row, hrow, rfl⟩ := List.mem_map.mp he
    rw [arr_folk] at hrow
    obtain ⟨r, hr, rfl⟩ := List.mem_map.mp hrow
    rw [formE_iff, Dm.psum_ts ok (mem_arr.mp hr).1]
    simp only [fm_dig, undig_map]
    exact h r hr
theorem Dm.place_row {d : Dm} {N : Nat} {pl : Pl} (h : pl ∈ d.places N) : ∃ r, r ∈ arr (List.range N) d.s ∧ pl = (d.lab, r.map dig) := by
  obtain ⟨row, hrow, rfl⟩ := List.mem_map.mp h
  rw [arr_folk] at hrow
  obtain ⟨r, hr, rfl⟩ := List.mem_map.mp hrow
  exact ⟨r, hr, rfl⟩
theorem arr3 {N n : Nat} (h : N ≤ 3) {r : List Nat} (hr : r ∈ arr (List.range N) n) : r ∈ arr (List.range 3) n := by
  rw [mem_arr] at hr ⊢
  exact ⟨hr.1, hr.2.1, fun x hx => by have := List.mem_range.mp (hr.2.2 x hx); exact List.mem_range.mpr (by omega)⟩
theorem Dm.fm_mem {d : Dm} (ok : d.Ok) {N : Nat} (hN : N ≤ 3) {pl : Pl} (h : pl ∈ d.places N) : fm pl ∈ d.forms := by
  obtain ⟨r, hr, rfl⟩ := Dm.place_row h
  rw [fm_dig]
  have hs2 : d.s < 3 := by rcases ok.s with h | h <;> omega
  obtain ⟨h1, h2⟩ := rank_forms d.s (List.mem_range.mpr hs2) r (arr3 hN hr)
  exact List.mem_map.mpr ⟨rank r, List.mem_filter.mpr ⟨h1, decide_eq_true h2⟩, rfl⟩
theorem Dm.eqn_len (d : Dm) (ok : d.Ok) (row : List Str) : (d.eqn row).1.length ≤ 8 ∧ ∀ kv ∈ (d.eqn row).1, kv.2.natAbs ≤ 1000 := by
  have hl : (d.ts row).length ≤ 8 := by unfold Dm.ts; rw [List.length_map]; exact ok.Tl
  constructor
  · refine Nat.le_trans (List.length_filter_le _ _) ?_
    have := acc_len (d.ts row) []
    unfold accN
    simp only [List.length_nil] at this
    omega
  · intro kv hkv
    have := acc_bnd (c := 99) (d.ts row) (fun t ht => by
      obtain ⟨t, h, rfl⟩ := List.mem_map.mp ht
      have := ok.t t h
      show t.1.natAbs ≤ 99
      omega) [] 0 (fun kv h => nomatch h) kv (List.mem_filter.mp hkv).1
    omega
theorem Dm.form_ok {d : Dm} (ok : d.Ok) (h3 : d.L.length ≤ 3) {row : List Str} (hr : row ∈ arr (folk d.L.length) d.L.length) : EqOk d.forms (formE d.m (d.eqn row)) := by
  have hm := ok.m
  obtain ⟨h1, h2⟩ := d.eqn_len ok row
  refine eqN1_ok (by omega) (fun t ht => ?_) (fun t ht => ?_) ?_
  · obtain ⟨kv, hkv, rfl⟩ := List.mem_map.mp ht
    exact Dm.fm_mem ok h3 ((Dm.eqn_ok ok hr).k kv hkv)
  · obtain ⟨kv, hkv, rfl⟩ := List.mem_map.mp ht
    exact h2 kv hkv
  · rw [List.length_map]; omega
/-- equal dicts have equal sums -/
theorem psum_perm {l m : List (Pl × Int)} (h : l.Perm m) (y : Pl → Int) : psum l y = psum m y := by
  unfold psum
  induction h with
  | nil => rfl
  | cons a _ ih => simp only [List.map_cons, List.sum_cons, ih]
  | swap a b l => simp only [List.map_cons, List.sum_cons]; omega
  | trans _ _ h1 h2 => exact h1.trans h2
theorem perm_sub {α : Type} [DecidableEq α] : ∀ {l m : List α}, l.Nodup → l.length = m.length → (∀ x ∈ l, x ∈ m) → l.Perm m
  | [], m, _, hl, _ => by rw [List.length_eq_zero_iff.mp hl.symm]
  | a :: l, m, nd, hl, h => by
    rw [List.nodup_cons] at nd
    have hm := h a (List.mem_cons_self ..)
    have h2 := perm_sub (l := l) (m := m.erase a) nd.2 (by rw [List.length_erase_of_mem hm]; rw [List.length_cons] at hl; omega) fun x hx => (List.mem_erase_of_ne fun e => nd.1 (by subst e; exact hx)).mpr (h x (List.mem_cons_of_mem _ hx))
    exact (h2.cons a).trans (List.perm_cons_erase hm).symm
theorem nd_keys {l : List (Pl × Int)} (h : (l.map (·.1)).Nodup) : l.Nodup := by
  rw [List.nodup_iff_pairwise_ne] at h ⊢
  rw [List.pairwise_map] at h
  exact h.imp fun hn e => hn (by rw [e])
theorem eqPE_sum {p q : PEq} (nd : (p.1.map (·.1)).Nodup) (h : eqPE p q = true) (m : Int) (y : Pl → Int) : m ∣ psum p.1 y - p.2 ↔ m ∣ psum q.1 y - q.2 := by
  unfold eqPE eqN at h
  rw [Bool.and_eq_true, Bool.and_eq_true, beq_iff_eq, beq_iff_eq, List.all_eq_true] at h
  obtain ⟨⟨h1, h2⟩, h3⟩ := h
  rw [h3, psum_perm (perm_sub (nd_keys nd) h1 fun x hx => getN_some (by have := h2 x hx; exact beq_iff_eq.mp this)) y]
/-- some of the equations of forms, that ask the same as all -/
structure FE (d : Dm) (n : Nat) (es : List PEq) : Prop where
  len : es.length ≤ n
  sub : ∀ e ∈ es, e ∈ d.fall
  all : ∀ y : Pl → Int, (∀ e ∈ es, d.m ∣ psum e.1 y - e.2) → ∀ e ∈ d.fall.take n, d.m ∣ psum e.1 y - e.2
section
variable {P : Program} {w : World} {K : PySem.W.Frag} {mg : Str → Option Value} {base : Heap}
abbrev N_formed : List Str := ["world", "equation", "lefts", "right", "found", "place", "factor", "form"]
theorem sc_formed : FnScope N_formed ["world", "equation"] (defScope s_formed) := ⟨rfl, rfl, rfl, by decide +kernel, rfl, by decide +kernel, by decide +kernel⟩
abbrev sp_formed (P : Program) (w : World) : Sp := pSp (fun (a : Dm × PEq) vs G => (∃ v, vs = [.int a.1.m, v] ∧ rPE P w a.2 v G) ∧ a.1.Ok ∧ a.2.1.length ≤ 100 ∧ ∀ kv ∈ a.2.1, kv.1 ∈ a.1.places 3) (fun a => rPE P w (formE a.1.m a.2))
theorem has_formed (C : Ctx K mg) : Has P w K mg base "formed" ["world", "equation"] 4 (sp_formed P w) := by
  obtain ⟨fd, F⟩ := C.d_formed
  refine has_pure F C.g_formed sc_formed (fun _ _ _ _ _ _ us hl => match us, hl with | [_, _], _ => rfl) (fun a vs G h => by obtain ⟨⟨v, rfl, _⟩, _⟩ := h; rfl) (fun cdv A outer s H vs Q E hr a G sG hp k => ?_)
  have hu := hu_of hr
  refine ⟨_, (pss_cons (ps_asg (pv 1) (pg_tup rfl (pgs_cons (pg_name (i := 2) sc_formed.nd rfl (Or.inl rfl)) (pgs_cons (pg_name (i := 3) sc_formed.nd rfl (Or.inl rfl)) pgs_nil))))
  (pss_cons (ps_set (i := 4) sc_formed.nd rfl (Or.inl rfl) pe_dnewN)
  (pss_cons (ps_for PassesOwn.never (by rfl) (pi_itemsN (pv 2)) (pg_tup rfl (pgs_cons (pg_name (i := 5) sc_formed.nd rfl (Or.inl rfl)) (pgs_cons (pg_name (i := 6) sc_formed.nd rfl (Or.inl rfl)) pgs_nil)))
    (pss_cons (ps_set (i := 7) sc_formed.nd rfl (Or.inl rfl) (pe_callH (has_place_form C) hr (by decide) rfl (pa_cons (pv 5) pa_nil)))
  (pss_one (ps_ndput hr.units (pv 4) (pv 7) (pe_op op_add (pe_ndget2 hr.units (pv 4) (pv 7) pe_int ⟨rfl, rfl, rfl, rfl⟩) (pv 6)) rfl))))
  (pss_one (ps_ret (pe_tup (pa_cons (pe_dcN hr.units (g := (gTup K 2 (gCons (gName 7) (gCons (gName 6) gNil)))) (own := [("form", 7), ("factor", 6)]) (by rfl) sc_formed.nd (pi_itemsN (pv 4)) (blkOk_by (own := [("form", 7), ("factor", 6)]) (N := N_formed) (sc := defScope s_formed) (by decide +kernel)) (fun _ _ _ _ _ => (pg_tupK (K := K) rfl rfl (pgs_cons (pg_name (i := 7) sc_formed.nd rfl (Or.inl rfl)) (pgs_cons (pg_name (i := 6) sc_formed.nd rfl (Or.inl rfl)) pgs_nil)))) (fun _ _ _ _ _ => (pts_one (pt_not (pt_val (pe_callH (has_is_factor_nought (P := P) (w := w) (base := base) C) hr (by decide) rfl (pa_cons (pv 0) (pa_cons (pv 6) pa_nil))))))) (fun _ _ _ _ _ => (pv 7)) (fun _ _ _ _ _ => (pv 6))) (pa_cons (pv 3) pa_nil)))))))), ?_⟩
  obtain ⟨d, e⟩ := a
  obtain ⟨⟨v, rfl, hv⟩, ok, hlen, hpl⟩ := hp
  dsimp only at hv ok hlen hpl
  have hs2 : d.s ≤ 2 := by rcases ok.s with h | h <;> omega
  have hm := ok.m
  refine q_asgG (P := rPE P w e) (ev_var rfl hv) sG fun v' G1 H1 e1 p1 => ?_
  obtain ⟨x, y, px, py, eg⟩ := eg_2 (K := K) (σ := start N_formed [.int d.m, v]) (i := 2) (j := 3) p1
  refine ⟨_, eg, ?_⟩
  cases (show y = .int e.2 from py)
  refine q_asgN en_nd e1.s fun p o G2 H2 e2 hp2 gp2 ho eo => ?_
  obtain ⟨ob, rfl, hob⟩ := eo
  have hpn : H p = none := e1.h.free hp2
  have e02 := e1.trans e2
  refine q_for (Gb := G) (Hb := H) e02 (ei_itemsN (l := e.1) (ev_var rfl (mn e2.g px))) (fun i σ' G' H' => ∃ y z u ob, σ' = [some (.int d.m), some v, some x, some (.int e.2), some (.ref p), y, z, u] ∧ H' p = some (.ext (NObj p ob)) ∧ G' p = none ∧ NRep P w G' p ob (accN ((e.1.take i).map fun kv => (fm kv.1, kv.2))))
    (fun G3 H3 e3 => ⟨none, none, none, ob, rfl, e3.h _ _ ho, e3.f p (by rw [ho]; exact fun z => nomatch z) gp2, hob.mono e3.g⟩) (fun G3 sG3 i kv v' σ' G0 H0 G' H' hk s0 e0' j e' r => ?_) (fun G3 σ' G' H' sG3 s3 e3 j => ?_)
  · obtain ⟨y, z, u, ob, rfl, hx, gx, hr1⟩ := j
    have hx' := e'.h _ _ hx
    have gx' := e'.f p (by rw [hx]; exact fun z => nomatch z) gx
    have hr' := hr1.mono e'.g
    have hi : i < e.1.length := (List.getElem?_eq_some_iff.mp hk).1
    have hti : e.1.take (i + 1) = e.1.take i ++ [kv] := by
      rw [take_snoc hi]
      rw [List.getElem?_eq_getElem hi] at hk
      rw [Option.some.inj hk]
    obtain ⟨r0, hr0, hrow⟩ := Dm.place_row (hpl kv (List.mem_of_getElem? hk))
    have hrl := (mem_arr.mp hr0).1
    obtain ⟨w1, w2, q1, q2, eg⟩ := eg_2 (K := K) (σ := [some (.int d.m), some v, some x, some (.int e.2), some (.ref p), y, z, u]) (i := 5) (j := 6) r
    refine eg _ e'.s _ ?_
    cases (show w2 = .int kv.2 from q2)
    have q1' : rPl (d.lab, r0.map dig) w1 G' := by rw [← hrow]; exact q1
    have hfm : fm kv.1 = (d.lab, (rank r0).map dig) := by rw [hrow, fm_dig]
    refine q_asg (P := rPl (fm kv.1)) (EvP.imp (ev_call1 (P := rPl (d.lab, r0.map dig)) (post := fun a : Str × List Nat => rPl (a.1, (rank a.2).map dig)) (d.lab, r0) (ev_var rfl q1') fun v G' _ p => ⟨⟨v, rfl, p⟩, by show r0.length ≤ 2; omega, by show r0 ∈ arr (List.range 3) r0.length; rw [hrl]; exact hr0⟩) fun v G' _ p => by rw [hfm]; exact p) e'.s fun pl G5 H5 e5 p5 => ?_
    have hx5 := e5.h _ _ hx'
    have gx5 := e5.f p (by rw [hx']; exact fun z => nomatch z) gx'
    have hr5 := hr'.mono e5.g
    have hkl : EvP (tVar 7) ((([some (.int d.m), some v, some x, some (.int e.2), some (.ref p), y, z, u] : St).set 5 (some w1)).set 6 (some (.int kv.2)) |>.set 7 (some pl)) G5 (rPl (fm kv.1)) := ev_var rfl p5
    refine xs_ndput (n := (getN (accN ((e.1.take i).map fun kv => (fm kv.1, kv.2))) (fm kv.1)).getD 0 + kv.2) (l := accN ((e.1.take i).map fun kv => (fm kv.1, kv.2))) (k := fm kv.1) hx5 hr5 (ex_add (ex_ndget2 hx5 hr5 e5.s (ev_var rfl rfl) hkl ev_int) fun G' H' e => (ev_vi rfl).at e.s) (ev_var rfl rfl) hkl ?_ fun ob' G6 H6 e6 h6 r6 => ?_
    · have h1 := acc_len ((e.1.take i).map fun kv => (fm kv.1, kv.2)) []
      rw [List.length_map, List.length_take] at h1
      have h2 : (accN ((e.1.take i).map fun kv => (fm kv.1, kv.2))).length ≤ 100 := by
        unfold accN
        refine Nat.le_trans h1 ?_
        show 0 + _ ≤ 100
        omega
      exact small1000 (by omega)
    · have gx6 := e6.f p (by rw [hx5]; exact fun z => nomatch z) gx5
      refine ⟨G6, ((s0.trans e'.g).trans e5.g).trans e6.g, (((e0'.trans e').trans e5).trans e6).upd hpn gx6, _, _, _, ob', rfl, upd_same, gx6, ?_⟩
      rw [hti, List.map_append, List.map_cons, List.map_nil, accN_snoc]
      exact r6
  · obtain ⟨y, z, u, ob, rfl, hx, gx, hr1⟩ := j
    rw [List.take_length] at hr1
    have e4 := e3.know hpn gx hx
    have hdk : rPD P w (accN (e.1.map fun kv => (fm kv.1, kv.2))) (.ref p) (L2.upd G' p (.ext (NObj p ob))) := ⟨p, ob, rfl, upd_same, hr1.mono (Same.new gx)⟩
    have hz : (accN (e.1.map fun kv => (fm kv.1, kv.2))).length < sizeLine := by
      have h1 := acc_len (e.1.map fun kv => (fm kv.1, kv.2)) []
      rw [List.length_map] at h1
      have h2 : (accN (e.1.map fun kv => (fm kv.1, kv.2))).length ≤ 100 := by
        unfold accN
        refine Nat.le_trans h1 ?_
        show 0 + _ ≤ 100
        omega
      exact small1000 (by omega)
    refine s_ret (P := rPE P w (formE d.m e)) (ev_t2 (R := rPD P w) (S := rI) (x := (formE d.m e).1) (y := e.2) (EvP.imp (EvN.nd (en_dcN (fun kv : Pl × Int => !decide (kv.2.fmod d.m = 0)) (fun kv => kv.1) (fun kv => kv.2) (ei_itemsN (ev_var rfl hdk)) hz (accN_nd _) fun kv vv G5 hkv s5 r5 => ?_)) fun v G5 _ h => ?_) (ev_vi rfl)) e4.s fun v G5 H5 e5 p5 => k v G5 H5 (e4.trans e5) p5
    · obtain ⟨w1, w2, q1, q2, eg⟩ := eg_2 (K := K) (σ := wipe [some (.int d.m), some v, some x, some (.int e.2), some (.ref p), y, z, u] [7, 6]) (i := 7) (j := 6) r5
      cases (show w2 = .int kv.2 from q2)
      refine ⟨_, eg, rfl, et_not (et_B (ev_call2 (P := rI d.m) (P1 := rI kv.2) (post := fun a : Int × Int => rB (decide (a.2.fmod a.1 = 0))) (d.m, kv.2) (ev_vi rfl) (ev_vi rfl) fun v1 v2 G' _ p1 p2 => ⟨by rw [show v1 = .int _ from p1, show v2 = .int _ from p2], hm.1⟩)), fun _ => ⟨ev_var rfl q1, ev_vi rfl⟩⟩
    · have h : rPD P w (((accN (e.1.map fun kv => (fm kv.1, kv.2))).filter fun kv => !decide (kv.2.fmod d.m = 0)).map fun kv => (kv.1, kv.2)) v G5 := h
      rw [show (fun kv : Pl × Int => (kv.1, kv.2)) = id from rfl, List.map_id] at h
      exact h
abbrev N_rule_folk : List Str := ["party"]
theorem sc_rule_folk : FnScope N_rule_folk ["party"] (defScope s_rule_folk) := ⟨rfl, rfl, rfl, by decide +kernel, rfl, by decide +kernel, by decide +kernel⟩
abbrev sp_rule_folk (P : Program) (w : World) (K : PySem.W.Frag) : Sp := pSp (fun (d : Dm) vs G => (∃ u, vs = [u] ∧ rPa P w K d u G) ∧ d.Ok) (fun d => rL rS (folk d.L.length))
theorem has_rule_folk (C : Ctx K mg) : Has P w K mg base "rule_folk" ["party"] 3 (sp_rule_folk P w K) := by
  obtain ⟨fd, F⟩ := C.d_rule_folk
  refine has_pure F C.g_rule_folk sc_rule_folk (fun _ _ _ _ _ _ us hl => match us, hl with | [_], _ => rfl) (fun a vs G h => by obtain ⟨⟨u, rfl, _⟩, _⟩ := h; rfl) (fun cdv A outer s H vs Q E hr a G sG hp k => ?_)
  have hu := hu_of hr
  refine ⟨_, (pss_one (ps_ret (pe_callH (has_all_folk C) hr (by decide) rfl (pa_cons (pv 0) (pa_cons (pe_callH (has_most_letters C) hr (by decide) rfl (pa_cons (pe_fld (pv 0) rfl) pa_nil)) pa_nil))))), ?_⟩
  obtain ⟨⟨u, rfl, hpa⟩, ok⟩ := hp
  exact s_ret (P := rL rS (folk a.L.length)) (ev_call2 (P := rPa P w K a) (P1 := rI (a.L.length : Int)) (post := fun a : Dm × Nat => rL rS (folk a.2)) (a, a.L.length) (ev_var rfl hpa) (ev_call1 (P := rBk K a) (post := fun d : Dm => rI (d.L.length : Int)) a (ev_bookOf C (ev_var rfl hpa)) fun v G' _ p => ⟨⟨v, rfl, p⟩, ok⟩) fun v1 v2 G' _ p1 p2 => ⟨v1, by rw [show v2 = .int _ from p2], p1, by have := a.L_len; show a.L.length ≤ 10; omega⟩) sG fun v G3 H3 e4 p4 => k v G3 H3 e4 p4
/-- the list of the equations of forms -/
def rFE (P : Program) (w : World) (d : Dm) : V → Hp → Prop := fun v G => ∃ es, rL (rPE P w) es v G ∧ FE d d.fall.length es
instance {d : Dm} : MnP (rFE P w d) := ⟨fun s ⟨es, h, f⟩ => ⟨es, mn s h, f⟩⟩
abbrev N_form_equations : List Str := ["party", "found", "row", "equation"]
theorem sc_form_equations : FnScope N_form_equations ["party"] (defScope s_form_equations) := ⟨rfl, rfl, rfl, by decide +kernel, rfl, by decide +kernel, by decide +kernel⟩
abbrev sp_form_equations (P : Program) (w : World) (K : PySem.W.Frag) : Sp := pSp (fun (d : Dm) vs G => (∃ u, vs = [u] ∧ rPa P w K d u G) ∧ d.Ok ∧ d.L.length ≤ 3) (fun d => rFE P w d)
theorem has_form_equations (C : Ctx K mg) : Has P w K mg base "form_equations" ["party"] 5 (sp_form_equations P w K) := by
  obtain ⟨fd, F⟩ := C.d_form_equations
  refine has_pure F C.g_form_equations sc_form_equations (fun _ _ _ _ _ _ us hl => match us, hl with | [_], _ => rfl) (fun a vs G h => by obtain ⟨⟨u, rfl, _⟩, _⟩ := h; rfl) (fun cdv A outer s H vs Q E hr a G sG hp k => ?_)
  have hu := hu_of hr
  refine ⟨_, (pss_cons (ps_set (i := 1) sc_form_equations.nd rfl (Or.inl rfl) (pe_lst pa_nil))
  (pss_cons (ps_for PassesOwn.never (by rfl) (pi_list (pe_callH (has_instances_of C) hr (by decide) rfl (pa_cons (pe_fld (pv 0) rfl) (pa_cons (pe_callH (has_rule_folk C) hr (by decide) rfl (pa_cons (pv 0) pa_nil)) pa_nil)))) (pg_name (i := 2) sc_form_equations.nd rfl (Or.inl rfl))
    (pss_cons (ps_set (i := 3) sc_form_equations.nd rfl (Or.inl rfl) (pe_callH (has_formed C) hr (by decide) rfl (pa_cons (pe_fld (pe_fld (pv 0) rfl) rfl) (pa_cons (pe_callH (has_equation_of C) hr (by decide) rfl (pa_cons (pe_fld (pv 0) rfl) (pa_cons (pv 2) pa_nil))) pa_nil))))
  (pss_one (ps_if (pt_cmpR (op_notPE hr.un80) (pv 3) (pv 1) (by rfl))
    (pss_one (ps_expr (pe_bm PySem.F.plainAttrs_list PySem.F.slot_list_append PySem.F.type_list_append mt_append (pv 1) (pa_cons (pv 3) pa_nil))))
    pss_nil))))
  (pss_one (ps_ret (pv 1))))), ?_⟩
  obtain ⟨⟨u, rfl, hpa⟩, ok, h3⟩ := hp
  have hfl : a.fall.length = (a.rows a.L.length).length := by unfold Dm.fall Dm.rows; rw [List.length_map, List.length_map]
  have hrl := Dm.rows_len h3 (N := a.L.length) (by omega)
  refine q_asgN (en_l0 (R := rPE P w)) sG fun l o G1 H1 e1 hl gl hol ol => ?_
  obtain ⟨xs0, rfl, al0⟩ := ol
  cases al0
  have hpa1 := mn e1.g hpa
  refine q_for (Gb := G) (Hb := H) e1 (ei_list (R := rIn1) (ds := a.rows a.L.length) (ev_call2 (P := rBk K a) (P1 := rL rS (folk a.L.length)) (a, folk a.L.length) (ev_bookOf C (ev_var rfl hpa1)) (ev_call1 (P := rPa P w K a) a (ev_var rfl hpa1) fun v G' _ p => ⟨⟨v, rfl, p⟩, ok⟩) fun v1 v2 G' _ p1 p2 => ⟨⟨v1, v2, rfl, p1, p2⟩, ok, h3, by show (folk a.L.length).length ≤ 8; rw [folk_len]; omega⟩)) (fun i σ' G' H' => ∃ y z xs es, σ' = [some u, some (.ref l), y, z] ∧ H' l = some (.lst xs) ∧ G' l = none ∧ All2 (rPE P w) G' xs es ∧ FE a i es)
    (fun G2 H2 e2 => ⟨none, none, [], [], rfl, e2.h _ _ hol, e2.f l (by rw [hol]; exact fun z => nomatch z) gl, .nil, ⟨Nat.le_refl 0, (fun e h => nomatch h), fun y _ e h => by simp at h⟩⟩) (fun G2 sG2 i dd v' σ' G0 H0 G' H' hk s0 e0' j e' r => ?_) (fun G2 σ' G' H' sG2 s2 e2 j => ?_)
  · obtain ⟨y, z, xs, es, rfl, hx, gx, al, fe⟩ := j
    have hx' := e'.h _ _ hx
    have gx' := e'.f l (by rw [hx]; exact fun z => nomatch z) gx
    have hi : i < (a.rows a.L.length).length := (List.getElem?_eq_some_iff.mp hk).1
    have hk0 := hk
    unfold Dm.rows at hk
    rw [List.getElem?_map] at hk
    cases hn : (arr (folk a.L.length) a.L.length)[i]? with
    | none => rw [hn] at hk; cases hk
    | some row =>
    rw [hn] at hk
    cases hk
    have hrow := List.mem_of_getElem? hn
    have hfi : a.fall[i]? = some (formE a.m (a.eqn row)) := by unfold Dm.fall; rw [List.getElem?_map, hn]; rfl
    have hti : a.fall.take (i + 1) = a.fall.take i ++ [formE a.m (a.eqn row)] := by
      rw [take_snoc (by rw [hfl]; exact hi)]
      rw [List.getElem?_eq_getElem (by rw [hfl]; exact hi)] at hfi
      rw [Option.some.inj hfi]
    have hpa' : rPa P w K a u G' := mn (((e1.g.trans sG2).trans s0).trans e'.g) hpa
    have hfok := Dm.form_ok ok h3 hrow
    refine eg_name _ e'.s _ ?_
    refine q_asg (P := rPE P w (formE a.m (a.eqn row))) (ev_call2 (P := rI a.m) (P1 := rPE P w (a.eqn row)) (a, a.eqn row) (ev_world C (ev_bookOf C (ev_var rfl hpa'))) (ev_call2 (P := rBk K a) (P1 := rIn1 (0, row)) (a, row) (ev_bookOf C (ev_var rfl hpa')) (ev_var rfl r) fun v1 v2 G' _ p1 p2 => ⟨⟨v1, v2, rfl, p1, p2⟩, ok, (mem_arr.mp hrow).1⟩) fun v1 v2 G' _ p1 p2 => ⟨⟨v2, by rw [show v1 = .int _ from p1], p2⟩, ok, by have := (a.eqn_len ok row).1; show (a.eqn row).1.length ≤ 100; omega, fun kv hkv => ?_⟩) e'.s fun v5 G5 H5 e5 p5 => ?_
    · have := (Dm.eqn_ok ok hrow).k kv hkv
      obtain ⟨r0, hr0, e0⟩ := Dm.place_row this
      rw [e0]
      refine List.mem_map.mpr ⟨r0.map dig, ?_, rfl⟩
      rw [arr_folk]
      exact List.mem_map.mpr ⟨r0, arr3 h3 hr0, rfl⟩
    have hx5 := e5.h _ _ hx'
    have gx5 := e5.f l (by rw [hx']; exact fun z => nomatch z) gx'
    have al5 := al.mono (e'.g.trans e5.g)
    refine xs_ifn (G := G5) (b := !es.any fun p => eqPE p (formE a.m (a.eqn row))) (xt_val (ex_notPE hx5 al5 e5.s (ev_var rfl p5) (ev_var rfl rfl))) (fun hb G6 H6 e6 => ?_) (fun hb G6 H6 e6 => ?_)
    · have hx6 := e6.h _ _ hx5
      have gx6 := e6.f l (by rw [hx5]; exact fun z => nomatch z) gx5
      refine s_app hx6 (ev_var rfl rfl) (ev_var rfl (mn e6.g p5)) e6.s ?_ fun v7 G7 H7 e7 p7 h7 => ?_
      · have h1 := al.length
        have h2 := fe.len
        exact small1000 (by omega)
      · have gx7 := e7.f l (by rw [hx6]; exact fun z => nomatch z) gx6
        refine ⟨G7, (((s0.trans e'.g).trans e5.g).trans e6.g).trans e7.g, ((((e0'.trans e').trans e5).trans e6).trans e7).upd hl gx7, _, _, _, es ++ [formE a.m (a.eqn row)], rfl, upd_same, gx7, (al5.mono (e6.g.trans e7.g)).snoc p7, ⟨?_, fun e he => ?_, fun y hy e he => ?_⟩⟩
        · rw [List.length_append]; have := fe.len; simp only [List.length_cons, List.length_nil]; omega
        · rcases List.mem_append.mp he with he | he
          · exact fe.sub e he
          · rw [List.mem_singleton.mp he]; exact List.mem_of_getElem? hfi
        · rw [hti] at he
          rcases List.mem_append.mp he with he | he
          · exact fe.all y (fun e he => hy e (List.mem_append_left _ he)) e he
          · rw [List.mem_singleton.mp he]; exact hy _ (List.mem_append_right _ (List.mem_singleton.mpr rfl))
    · refine ⟨G6, ((s0.trans e'.g).trans e5.g).trans e6.g, ((e0'.trans e').trans e5).trans e6, _, _, xs, es, rfl, e6.h _ _ hx5, e6.f l (by rw [hx5]; exact fun z => nomatch z) gx5, al5.mono e6.g, ⟨Nat.le_succ_of_le fe.len, fe.sub, fun y hy e he => ?_⟩⟩
      rw [hti] at he
      rcases List.mem_append.mp he with he | he
      · exact fe.all y hy e he
      · rw [List.mem_singleton.mp he]
        have hb' : (es.any fun p => eqPE p (formE a.m (a.eqn row))) = true := by
          cases h : es.any fun p => eqPE p (formE a.m (a.eqn row)) with
          | true => rfl
          | false => rw [h] at hb; cases hb
        obtain ⟨p, hp, hpe⟩ := List.any_eq_true.mp hb'
        have ndp : (p.1.map (·.1)).Nodup := by
          obtain ⟨row', hrow', e'⟩ := List.mem_map.mp (fe.sub p hp)
          rw [← e']; exact (Dm.form_ok ok h3 hrow').nd
        exact (eqPE_sum ndp hpe a.m y).mp (hy p hp)
  · obtain ⟨y, z, xs, es, rfl, hx, gx, al, fe⟩ := j
    have e3 := e2.know hl gx hx
    exact s_ret (P := rFE P w a) (ev_var rfl ⟨es, ⟨l, xs, rfl, upd_same, al.mono (Same.new gx)⟩, by rw [hfl]; exact fe⟩) e3.s fun v G3 H3 e4 p4 => k v G3 H3 (e3.trans e4) p4
def RrPost (P : Program) (w : World) (d : Dm) : V → Hp → Prop := fun v G => ∃ a u e es, v = .ref a ∧ G a = some (.tup [u, e]) ∧ rL rPl d.forms u G ∧ rL (rPE P w) es e G ∧ FE d d.fall.length es
instance {d : Dm} : MnP (RrPost P w d) := ⟨fun s ⟨a, u, e, es, h, h1, h2, h3, h4⟩ => ⟨a, u, e, es, h, s _ _ h1, mn s h2, mn s h3, h4⟩⟩
theorem Dm.fall_len {d : Dm} (h3 : d.L.length ≤ 3) : d.fall.length ≤ 512 := by
  have := Dm.rows_len h3 (N := d.L.length) (by omega)
  unfold Dm.rows at this
  unfold Dm.fall
  rw [List.length_map] at this ⊢
  exact this
theorem Dm.forms_len {d : Dm} (ok : d.Ok) : d.forms.length ≤ 9 := by
  unfold Dm.forms
  rw [List.length_map]
  refine Nat.le_trans (List.length_filter_le _ _) (Nat.le_trans (arr_len _ _) ?_)
  rw [List.length_range]
  have hs2 : d.s ≤ 2 := by rcases ok.s with h | h <;> omega
  exact Nat.le_trans (Nat.pow_le_pow_right (by omega) hs2) (by decide)
theorem FE.ok {d : Dm} {es : List PEq} (ok : d.Ok) (h3 : d.L.length ≤ 3) (f : FE d d.fall.length es) : ∀ e ∈ es, EqOk d.forms e := fun e he => by
  obtain ⟨row, hrow, rfl⟩ := List.mem_map.mp (f.sub e he)
  exact Dm.form_ok ok h3 hrow
theorem FE.sol {d : Dm} {es : List PEq} (f : FE d d.fall.length es) : PSol d.m es ↔ PSol d.m d.fall := by
  constructor
  · rintro ⟨y, h⟩
    have := f.all y h
    rw [List.take_length] at this
    exact ⟨y, this⟩
  · rintro ⟨y, h⟩
    exact ⟨y, fun e he => h e (f.sub e he)⟩
abbrev N_rule_rows : List Str := ["party", "unknowns", "form", "equation"]
theorem sc_rule_rows : FnScope N_rule_rows ["party"] (defScope s_rule_rows) := ⟨rfl, rfl, rfl, by decide +kernel, rfl, by decide +kernel, by decide +kernel⟩
abbrev sp_rule_rows (P : Program) (w : World) (K : PySem.W.Frag) : Sp := pSp (fun (d : Dm) vs G => (∃ u, vs = [u] ∧ rPa P w K d u G) ∧ d.Ok ∧ d.L.length ≤ 3) (fun d => RrPost P w d)
theorem has_rule_rows (C : Ctx K mg) : Has P w K mg base "rule_rows" ["party"] 6 (sp_rule_rows P w K) := by
  obtain ⟨fd, F⟩ := C.d_rule_rows
  refine has_pure F C.g_rule_rows sc_rule_rows (fun _ _ _ _ _ _ us hl => match us, hl with | [_], _ => rfl) (fun a vs G h => by obtain ⟨⟨u, rfl, _⟩, _⟩ := h; rfl) (fun cdv A outer s H vs Q E hr a G sG hp k => ?_)
  have hu := hu_of hr
  refine ⟨_, (pss_cons (ps_setLc (i := 1) (own := [("form", 2)]) (by rfl) sc_rule_rows.nd rfl rfl (sw_true rfl rfl rfl (by decide +kernel)) (pi_list (pe_callH (has_forms C) hr (by decide) rfl (pa_cons (pv 0) pa_nil))) (blkOk_by (own := [("form", 2)]) (N := N_rule_rows) (sc := defScope s_rule_rows) (by decide +kernel)) (fun _ _ _ _ _ => (pg_name (i := 2) sc_rule_rows.nd rfl (Or.inl rfl))) (fun _ _ _ _ _ => (pts_one (pt_cmp (pc_ndnotinK (P := P) (w := w) rfl rfl hr.units (pv 2) (pe_fldK (K := K) rfl (pv 0) rfl))))) (fun _ _ _ _ _ => (pv 2)))
  (pss_one (ps_ret (pe_tup (pa_cons (pv 1) (pa_cons (pe_lc (own := [("equation", 3)]) (by rfl) sc_rule_rows.nd (pi_list (pe_callH (has_form_equations C) hr (by decide) rfl (pa_cons (pv 0) pa_nil))) (blkOk_by (own := [("equation", 3)]) (N := N_rule_rows) (sc := defScope s_rule_rows) (by decide +kernel)) (fun _ _ _ _ _ => (pg_name (i := 3) sc_rule_rows.nd rfl (Or.inl rfl))) (fun _ _ _ _ _ => pts_nil) (fun _ _ _ _ _ => (pe_callH (has_opened (P := P) (w := w) (base := base) C) hr (by decide) rfl (pa_cons (pv 0) (pa_cons (pv 3) pa_nil))))) pa_nil)))))), ?_⟩
  obtain ⟨⟨u, rfl, hpa⟩, ok, h3⟩ := hp
  have hfm := Dm.forms_len ok
  have hfl := Dm.fall_len h3
  refine q_asg (P := rL rPl a.forms) (EvP.imp (ev_lc (R := rPl) (S := rPl) (fun _ => true) id (ei_list (ev_call1 (P := rPa P w K a) (post := fun d : Dm => rL rPl d.forms) a (ev_var rfl hpa) fun v G' _ p => ⟨⟨v, rfl, p⟩, ok⟩)) (small1000 (by show a.forms.length ≤ 1000; omega)) fun pl pv G3 hp3 s3 r3 => ?_) fun v G' _ h => ?_) sG fun uv G1 H1 e1 p1 => ?_
  · exact ⟨_, eg_name, rfl, EvT.to (et_val (ev_ndnotin (ev_var rfl r3) (ev_keptOf C (ev_var rfl (mn s3 hpa))))) rfl, fun _ => ev_var rfl r3⟩
  · rw [List.filter_eq_self.mpr (fun _ _ => rfl), List.map_id] at h
    exact h
  have hpa1 := mn e1.g hpa
  refine s_ret (P := RrPost P w a) (ev_tupA (ea_2 (P := rL rPl a.forms) (P1 := rFE P w a) (ev_var rfl p1) (ev_lcE (PP := rFE P w a) (ev_call1 (P := rPa P w K a) (post := fun d : Dm => rFE P w d) a (ev_var rfl hpa1) fun v G' _ p => ⟨⟨v, rfl, p⟩, ok, h3⟩) fun v G2 s2 ⟨es, hes, fe⟩ => EvP.imp (ev_lcm (R := rPE P w) (S := rPE P w) id (ei_list (ev_c hes)) (by have := fe.len; exact small1000 (by omega)) fun e ev G3 he s3 r3 => ?_) fun v G' _ h => ?_)) (fun vs _ p => by obtain ⟨v, _, rfl, _, w, _, rfl, _, rfl⟩ := p; show 2 ≤ sizeLine; decide) fun vs ad G' s p n => ?_) e1.s fun v G3 H3 e4 p4 => k v G3 H3 (e1.trans e4) p4
  · refine ⟨_, eg_name, rfl, ev_call2 (P := rPa P w K a) (P1 := rPE P w e) (post := fun a : Dm × PEq => rPE P w a.2) (a, e) (ev_var rfl (mn (s2.trans s3) hpa1)) (ev_var rfl r3) fun v1 v2 G' _ p1 p2 => ⟨⟨v1, v2, rfl, p1, p2⟩, ?_⟩⟩
    have h1 := (fe.ok ok h3 e he)
    have h2 := nodup_len (l := e.1.map (·.1)) (m := a.forms) h1.nd fun x hx => by
      obtain ⟨kv, hkv, rfl⟩ := List.mem_map.mp hx
      exact h1.k kv hkv
    rw [List.length_map] at h2
    show e.1.length ≤ 900
    omega
  · rw [List.map_id] at h
    exact ⟨es, h, fe⟩
  · obtain ⟨v1, _, rfl, p1, v2, _, rfl, ⟨es, p2, fe⟩, rfl⟩ := p
    exact ⟨ad, v1, v2, es, rfl, upd_same, mn (Same.new n) p1, mn (Same.new n) p2, fe⟩
abbrev N_rule : List Str := ["party", "unknowns", "equations", "word", "thing"]
theorem sc_rule : FnScope N_rule ["party"] (defScope s_rule) := ⟨rfl, rfl, rfl, by decide +kernel, rfl, by decide +kernel, by decide +kernel⟩
abbrev sp_rule (P : Program) (w : World) (K : PySem.W.Frag) : Sp := pSp (fun (d : Dm) vs G => (∃ u, vs = [u] ∧ rPa P w K d u G) ∧ d.Ok ∧ d.L.length ≤ 3) (fun d => rIfN d.Rule)
theorem has_rule (C : Ctx K mg) : Has P w K mg base "rule" ["party"] 9 (sp_rule P w K) := by
  obtain ⟨fd, F⟩ := C.d_rule
  refine has_pure F C.g_rule sc_rule (fun _ _ _ _ _ _ us hl => match us, hl with | [_], _ => rfl) (fun a vs G h => by obtain ⟨⟨u, rfl, _⟩, _⟩ := h; rfl) (fun cdv A outer s H vs Q E hr a G sG hp k => ?_)
  have hu := hu_of hr
  refine ⟨_, (pss_cons (ps_asg (pe_callH (has_rule_rows C) hr (by decide) rfl (pa_cons (pv 0) pa_nil)) (pg_tup rfl (pgs_cons (pg_name (i := 1) sc_rule.nd rfl (Or.inl rfl)) (pgs_cons (pg_name (i := 2) sc_rule.nd rfl (Or.inl rfl)) pgs_nil))))
  (pss_cons (ps_asg (pe_callH (has_solved C) hr (by decide) rfl (pa_cons (pe_fld (pe_fld (pv 0) rfl) rfl) (pa_cons (pv 1) (pa_cons (pv 2) pa_nil)))) (pg_tup rfl (pgs_cons (pg_name (i := 3) sc_rule.nd rfl (Or.inl rfl)) (pgs_cons (pg_name (i := 4) sc_rule.nd rfl (Or.inl rfl)) pgs_nil))))
  (pss_cons (ps_if (pt_cmpR op_eq (pv 3) pe_str (nomark _))
    (pss_one (ps_ret pe_non))
    pss_nil)
  (pss_cons (ps_expr (pe_ndupd (pv 4) (pe_fld (pv 0) rfl)))
  (pss_one (ps_ret (pv 4))))))), ?_⟩
  obtain ⟨⟨u, rfl, hpa⟩, ok, h3⟩ := hp
  have hfm := Dm.forms_len ok
  have hfl := Dm.fall_len h3
  refine q_asgG (P := RrPost P w a) (ev_call1 (P := rPa P w K a) a (ev_var rfl hpa) fun v G' _ p => ⟨⟨v, rfl, p⟩, ok, h3⟩) sG fun v1 G1 H1 e1 p1 => ?_
  obtain ⟨ad, uv, ev, es, rfl, had, hu1, he1, fe⟩ := p1
  refine ⟨_, eg_2v had, ?_⟩
  have hpa1 := mn e1.g hpa
  have hel := fe.len
  refine q_asgG (P := SolPost P w es.length (PSol a.m es)) (ev_call3 (P := rI a.m) (P1 := rL rPl a.forms) (P2 := rL (rPE P w) es) (⟨a.m, a.forms, es⟩ : SoA) (ev_world C (ev_bookOf C (ev_var rfl hpa1))) (ev_var rfl hu1) (ev_var rfl he1) fun v1 v2 v3 G' _ q1 q2 q3 => ⟨⟨v2, v3, by rw [show v1 = .int _ from q1], q2, q3⟩, ok.m, a.forms_nd, by show a.forms.length ≤ 900; omega, by show es.length ≤ 900; omega, fe.ok ok h3⟩) e1.s fun v3 G3 H3 e3 p3 => ?_
  obtain ⟨a3, wd, th, rfl, ha3, hor⟩ := p3
  rw [propext fe.sol, propext (Dm.prule ok)] at hor
  refine ⟨_, eg_2v ha3, ?_⟩
  have e03 := e1.trans e3
  rcases hor with ⟨hE, rfl, hth⟩ | ⟨hE, rfl, hth⟩
  · obtain ⟨l, hth⟩ := hth
    obtain ⟨at', _, rfl, _⟩ := id hth
    refine q_skip (EvT.to (et_B (ev_eqS (ev_vs rfl) ev_str)) (by decide +kernel)) e3.s fun G4 H4 e4 => ?_
    refine s_drop (D := { nx := _, rt := _, bk := _, ct := _ }) (P := rN) (ev_ndupd (ev_var rfl (mn e4.g hth)) (ev_keptOf C (ev_var rfl (mn (e3.g.trans e4.g) hpa1)))) e4.s fun v5 G5 H5 e5 p5 => ?_
    exact s_ret (P := rIfN a.Rule) (ev_var (v := .ref at') rfl ⟨(fun z => nomatch z), fun z => (z hE).elim⟩) e5.s fun v G6 H6 e6 p6 => k v G6 H6 (((e03.trans e4).trans e5).trans e6) p6
  · refine q_yes (EvT.to (et_B (ev_eqS (ev_vs rfl) ev_str)) (by decide +kernel)) e3.s fun G4 H4 e4 => ?_
    exact s_ret (P := rIfN a.Rule) (EvP.imp ev_non fun v G' _ p => ⟨fun _ => hE, fun _ => p⟩) e4.s fun v G5 H5 e5 p5 => k v G5 H5 ((e03.trans e4).trans e5) p5
end
end Eld
set_option maxRecDepth 100000
set_option maxHeartbeats 1000000
/-! served_so_far, served. -/
namespace Eld
open PySem PySem.Spec PyProof.Rows L2
theorem Dm.not_fill {d : Dm} (ok : d.Ok) (h3 : d.L.length ≤ 3) (hr : ¬ d.Rule) : ¬ d.Fill 7 := fun h => hr (by
  refine fill_rule h3 (ok.s.imp (fun e => ⟨e, by omega⟩) fun e => ⟨e, Nat.le_refl 7⟩) (Dm.Tp_pos ok) (fun z => ?_) h
  have := ok.T0
  unfold Dm.Tp at z
  have h9 := congrArg List.length z
  rw [List.length_map] at h9
  have h10 : d.T.length = 0 := h9
  omega)
theorem Dm.rule_fill {d : Dm} (ok : d.Ok) (h3 : d.L.length ≤ 3) {N : Nat} (hN : N ≤ 7) (hr : d.Rule) : d.Fill N := Eld.rule_fill hN h3 ok.s (Dm.Tp_pos ok) hr
theorem Dm.fill_down {d : Dm} {N M : Nat} (h : N ≤ M) : d.Fill M → d.Fill N := fill_mono h
section
variable {P : Program} {w : World} {K : PySem.W.Frag} {mg : Str → Option Value} {base : Heap}
def MorePost (d : Dm) : V → Hp → Prop := fun v G => ∃ (a : Addr) (M : Nat) (x y : V), v = .ref a ∧ G a = some (.tup [.str "more", .int ((M : Int) - 1), x, y]) ∧ ¬ d.Fill M ∧ ∀ N, N < M → d.Fill N
instance {d : Dm} : MnP (MorePost d) := ⟨fun s ⟨a, M, x, y, e, h, h2⟩ => ⟨a, M, x, y, e, s _ _ h, h2⟩⟩
abbrev N_served_so_far : List Str := ["party", "number", "last", "word", "thing"]
theorem sc_served_so_far : FnScope N_served_so_far ["party"] (defScope s_served_so_far) := ⟨rfl, rfl, rfl, by decide +kernel, rfl, by decide +kernel, by decide +kernel⟩
abbrev sp_served_so_far (P : Program) (w : World) (K : PySem.W.Frag) : Sp := pSp (fun (d : Dm) vs G => (∃ u, vs = [u] ∧ rPa P w K d u G) ∧ d.Ok ∧ d.L.length ≤ 3 ∧ ¬ d.Rule) (fun d => MorePost d)
theorem told_dec {σ : St} {G : Hp} {i : Nat} {wd : V} {E : Prop} (h : σ[i]? = some (some wd)) (hor : (E ∧ wd = .str "filling") ∨ (¬ E ∧ wd = .str "refusal")) : ∃ b, EvT (tTest (tOp L2.rEq (tVar i) (tC (.str "filling")))) σ G b ∧ (b = true ↔ E) := by
  rcases hor with ⟨hE, rfl⟩ | ⟨hE, rfl⟩
  · exact ⟨true, EvT.to (et_B (ev_eqS (ev_var h rfl) ev_str)) (by decide +kernel), fun _ => hE, fun _ => rfl⟩
  · exact ⟨false, EvT.to (et_B (ev_eqS (ev_var h rfl) ev_str)) (by decide +kernel), (fun z => nomatch z), fun z => (hE z).elim⟩
theorem has_served_so_far (C : Ctx K mg) : Has P w K mg base "served_so_far" ["party"] 10 (sp_served_so_far P w K) := by
  obtain ⟨fd, F⟩ := C.d_served_so_far
  refine has_pure F C.g_served_so_far sc_served_so_far (fun _ _ _ _ _ _ us hl => match us, hl with | [_], _ => rfl) (fun a vs G h => by obtain ⟨⟨u, rfl, _⟩, _⟩ := h; rfl) (fun cdv A outer s H vs Q E hr a G sG hp k => ?_)
  have hu := hu_of hr
  refine ⟨_, (pss_cons (ps_set (i := 1) sc_served_so_far.nd rfl (Or.inl rfl) (pe_un un_neg pe_int))
  (pss_cons (ps_set (i := 2) sc_served_so_far.nd rfl (Or.inl rfl) pe_non)
  (pss_cons (ps_asg (pe_callH (has_told_for C) hr (by decide) rfl (pa_cons (pv 0) (pa_cons pe_int pa_nil))) (pg_tup rfl (pgs_cons (pg_name (i := 3) sc_served_so_far.nd rfl (Or.inl rfl)) (pgs_cons (pg_name (i := 4) sc_served_so_far.nd rfl (Or.inl rfl)) pgs_nil))))
  (pss_cons (ps_while PassesOwn.never (pt_cmpR op_eq (pv 3) pe_str (nomark _))
    (pss_cons (ps_aug (i := 1) sc_served_so_far.nd rfl (Or.inl rfl) pe_int ip_add)
  (pss_cons (ps_set (i := 2) sc_served_so_far.nd rfl (Or.inl rfl) (pv 4))
  (pss_one (ps_asg (pe_callH (has_told_for C) hr (by decide) rfl (pa_cons (pv 0) (pa_cons (pe_op op_add (pv 1) pe_int) pa_nil))) (pg_tup rfl (pgs_cons (pg_name (i := 3) sc_served_so_far.nd rfl (Or.inl rfl)) (pgs_cons (pg_name (i := 4) sc_served_so_far.nd rfl (Or.inl rfl)) pgs_nil))))))))
  (pss_one (ps_ret (pe_tup (pa_cons pe_str (pa_cons (pv 1) (pa_cons (pv 2) (pa_cons (pv 4) pa_nil))))))))))), ?_⟩
  obtain ⟨⟨u, rfl, hpa⟩, ok, h3, hnr⟩ := hp
  have h7 := Dm.not_fill ok h3 hnr
  refine q_asg (P := rI (-1)) (ev_neg ev_int) sG fun v1 G1 H1 e1 p1 => ?_
  cases (show v1 = .int (-1) from p1)
  refine q_asg (P := rN) ev_non e1.s fun v2 G2 H2 e2 p2 => ?_
  cases (show v2 = .non from p2)
  have e02 := e1.trans e2
  refine q_asgG (P := ToldPost (a.Fill 0)) (ev_call2 (P := rPa P w K a) (P1 := rI 0) (post := fun a : Dm × Nat => ToldPost (a.1.Fill a.2)) (a, 0) (ev_var rfl (mn e02.g hpa)) ev_int fun v1 v2 G' _ p1 p2 => ⟨⟨v1, by rw [show v2 = .int _ from p2]; rfl, p1⟩, ok, h3, by show 0 ≤ 8; omega⟩) e2.s fun v3 G3 H3 e3 p3 => ?_
  obtain ⟨a3, wd, th, rfl, ha3, hor, hne⟩ := p3
  refine ⟨_, eg_2v ha3, ?_⟩
  have e03 := e02.trans e3
  refine q_while (Gb := G) (Hb := H) e03 (fun m σ' G' H' => ∃ (i : Nat) (x wd th : V), m = 8 - i ∧ σ' = [some u, some (.int ((i : Int) - 1)), some x, some wd, some th] ∧ ((a.Fill i ∧ wd = .str "filling") ∨ (¬ a.Fill i ∧ wd = .str "refusal")) ∧ i ≤ 7 ∧ ∀ N, N < i → a.Fill N) 8 ⟨0, .non, wd, th, rfl, rfl, hor, by omega, fun N h => absurd h (Nat.not_lt_zero _)⟩ fun m σ' G' H' e' j => ?_
  obtain ⟨i, x, wd, th, rfl, rfl, hor, hi, hall⟩ := j
  obtain ⟨b, hb, hbE⟩ := told_dec (σ := [some u, some (.int ((i : Int) - 1)), some x, some wd, some th]) (G := G') (i := 3) rfl hor
  refine ⟨b, hb, fun hbt G4 H4 e4 => ?_, fun hbf G4 H4 e4 => ?_⟩
  · have hE := hbE.mp hbt
    have hi7 : i < 7 := by
      rcases Nat.lt_or_ge i 7 with h | h
      · exact h
      · exact (h7 (Dm.fill_down h hE)).elim
    refine q_aug (f := fun i j => i + j) (a := (i : Int) - 1) (b := 1) rfl ev_int e4.s fun G5 H5 e5 => ?_
    refine q_asg (P := rV th) (ev_var rfl rfl) e5.s fun v6 G6 H6 e6 p6 => ?_
    have e46 := (e4.trans e5).trans e6
    have e06 := e'.trans e46
    refine s_asgG (P := ToldPost (a.Fill (i + 1))) (ev_call2 (P := rPa P w K a) (P1 := rI ((i + 1 : Nat) : Int)) (post := fun a : Dm × Nat => ToldPost (a.1.Fill a.2)) (a, i + 1) (ev_var rfl (mn e06.g hpa)) (EvP.imp (ev_add (i := (i : Int) - 1 + 1) (j := 1) (ev_vi rfl) ev_int) fun v G' _ p => by
      rw [show v = .int ((i : Int) - 1 + 1 + 1) from p]
      show V.int _ = V.int _
      congr 1
      omega) fun v1 v2 G' _ p1 p2 => ⟨⟨v1, by rw [show v2 = .int _ from p2], p1⟩, ok, h3, by show i + 1 ≤ 8; omega⟩) e6.s fun v7 G7 H7 e7 p7 => ?_
    obtain ⟨a7, wd7, th7, rfl, ha7, hor7, hne7⟩ := p7
    refine ⟨_, eg_2v ha7, 8 - (i + 1), G7, by omega, e06.trans e7, i + 1, v6, wd7, th7, rfl, ?_, hor7, by omega, fun N hN => ?_⟩
    · show [some u, some (.int ((i : Int) - 1 + 1)), some v6, some wd7, some th7] = [some u, some (.int (((i + 1 : Nat) : Int) - 1)), some v6, some wd7, some th7]
      rw [show (i : Int) - 1 + 1 = ((i + 1 : Nat) : Int) - 1 by omega]
    · rcases Nat.lt_or_ge N i with h | h
      · exact hall N h
      · rw [show N = i by omega]; exact hE
  · have hE : ¬ a.Fill i := fun z => by rw [hbE.mpr z] at hbf; cases hbf
    have e04 := e'.trans e4
    refine s_ret (P := MorePost a) (ev_tupA (ea_4 (P := rS "more") (P1 := rI ((i : Int) - 1)) (P2 := rV x) (P3 := rV th) ev_str (ev_vi rfl) (ev_var rfl rfl) (ev_var rfl rfl)) (fun vs _ p => by obtain ⟨v, _, rfl, _, w, _, rfl, _, z, _, rfl, _, y, _, rfl, _, rfl⟩ := p; show 4 ≤ sizeLine; decide) fun vs ad G' s p n => ?_) e4.s fun v G5 H5 e5 p5 => k v G5 H5 (e04.trans e5) p5
    obtain ⟨v1, _, rfl, p1, v2, _, rfl, p2, v3, _, rfl, p3, v4, _, rfl, p4, rfl⟩ := p
    exact ⟨ad, i, v3, v4, rfl, by rw [upd_same, show v1 = .str "more" from p1, show v2 = .int _ from p2], hE, hall⟩
/-- what served tells -/
def ServPost (d : Dm) : V → Hp → Prop := fun v G => (d.Rule ∧ ∃ a y, v = .ref a ∧ G a = some (.tup [.str "ever", y])) ∨ (¬ d.Rule ∧ MorePost d v G)
instance {d : Dm} : MnP (ServPost d) := ⟨fun s h => h.imp (fun ⟨h1, a, y, e, h2⟩ => ⟨h1, a, y, e, s _ _ h2⟩) fun ⟨h1, h2⟩ => ⟨h1, mn s h2⟩⟩
abbrev N_served : List Str := ["party", "found"]
theorem sc_served : FnScope N_served ["party"] (defScope s_served) := ⟨rfl, rfl, rfl, by decide +kernel, rfl, by decide +kernel, by decide +kernel⟩
abbrev sp_served (P : Program) (w : World) (K : PySem.W.Frag) : Sp := pSp (fun (d : Dm) vs G => (∃ u, vs = [u] ∧ rPa P w K d u G) ∧ d.Ok ∧ d.L.length ≤ 3) (fun d => ServPost d)
theorem has_served (C : Ctx K mg) : Has P w K mg base "served" ["party"] 11 (sp_served P w K) := by
  obtain ⟨fd, F⟩ := C.d_served
  refine has_pure F C.g_served sc_served (fun _ _ _ _ _ _ us hl => match us, hl with | [_], _ => rfl) (fun a vs G h => by obtain ⟨⟨u, rfl, _⟩, _⟩ := h; rfl) (fun cdv A outer s H vs Q E hr a G sG hp k => ?_)
  have hu := hu_of hr
  refine ⟨_, (pss_cons (ps_set (i := 1) sc_served.nd rfl (Or.inl rfl) (pe_callH (has_rule C) hr (by decide) rfl (pa_cons (pv 0) pa_nil)))
  (pss_cons (ps_if (pt_cmpR op_notN (pv 1) pe_non (nomark _))
    (pss_one (ps_ret (pe_tup (pa_cons pe_str (pa_cons (pv 1) pa_nil)))))
    pss_nil)
  (pss_one (ps_ret (pe_callH (has_served_so_far C) hr (by decide) rfl (pa_cons (pv 0) pa_nil)))))), ?_⟩
  obtain ⟨⟨u, rfl, hpa⟩, ok, h3⟩ := hp
  refine q_asg (P := rIfN a.Rule) (ev_call1 (P := rPa P w K a) (post := fun d : Dm => rIfN d.Rule) a (ev_var rfl hpa) fun v G' _ p => ⟨⟨v, rfl, p⟩, ok, h3⟩) sG fun v1 G1 H1 e1 p1 => ?_
  have p1 : v1 = .non ↔ ¬ a.Rule := p1
  refine q_ifn (b := !decide (v1 = .non)) (et_B (ev_notN (ev_var rfl rfl) ev_non)) e1.s (fun hb G2 H2 e2 => ?_) (fun hb G2 H2 e2 => ?_)
  · have hr : a.Rule := Classical.not_not.mp fun z => by rw [decide_eq_true (p1.mpr z)] at hb; cases hb
    refine s_ret (P := ServPost a) (ev_tupA (ea_2 (P := rS "ever") (P1 := rV v1) ev_str (ev_var rfl rfl)) (fun vs _ p => by obtain ⟨v, _, rfl, _, w, _, rfl, _, rfl⟩ := p; show 2 ≤ sizeLine; decide) fun vs ad G' s p n => ?_) e2.s fun v G5 H5 e5 p5 => k v G5 H5 ((e1.trans e2).trans e5) p5
    obtain ⟨v1, _, rfl, p1, v2, _, rfl, p2, rfl⟩ := p
    exact .inl ⟨hr, ad, v2, rfl, by rw [upd_same, show v1 = .str "ever" from p1]⟩
  · have hr : ¬ a.Rule := by
      refine p1.mp ?_
      rcases Decidable.em (v1 = .non) with h | h
      · exact h
      · rw [decide_eq_false h] at hb; cases hb
    exact s_ret (P := ServPost a) (EvP.imp (ev_call1 (P := rPa P w K a) (post := fun d : Dm => MorePost d) a (ev_var rfl (mn (e1.trans e2).g hpa)) fun v G' _ p => ⟨⟨v, rfl, p⟩, ok, h3, hr⟩) fun v G' _ h => .inr ⟨hr, h⟩) e2.s fun v G5 H5 e5 p5 => k v G5 H5 ((e1.trans e2).trans e5) p5
end
end Eld
set_option maxRecDepth 100000
set_option maxHeartbeats 1000000
/-! The law's own defs: rows, spots, letters, terms. -/
namespace Eld
open PySem PySem.Spec PyProof.Rows L2
section
variable {P : Program} {w : World} {K : PySem.W.Frag} {mg : Str → Option Value} {base : Heap}
def addOne (fs row : List Str) : List (List Str) := (fs.filter fun o => decide (o ∉ row)).map fun o => row ++ [o]
theorem arr_succ (fs : List Str) (n : Nat) : arr fs (n + 1) = (arr fs n).flatMap (addOne fs) := rfl
theorem flat_len (fs : List Str) (l : List (List Str)) : (l.flatMap (addOne fs)).length ≤ l.length * fs.length := by
  induction l with
  | nil => simp
  | cons a l ih =>
    rw [List.flatMap_cons, List.length_append, List.length_cons, Nat.succ_mul]
    have : (addOne fs a).length ≤ fs.length := by
      unfold addOne
      rw [List.length_map]
      exact List.length_filter_le _ _
    omega
theorem take_flat {fs : List Str} {l : List (List Str)} {i : Nat} {x : List Str} (h : l[i]? = some x) : (l.take (i + 1)).flatMap (addOne fs) = (l.take i).flatMap (addOne fs) ++ addOne fs x := by
  have hi := (List.getElem?_eq_some_iff.mp h).1
  rw [take_snoc hi, List.flatMap_append, List.flatMap_cons, List.flatMap_nil, List.append_nil]
  rw [List.getElem?_eq_getElem hi] at h
  rw [Option.some.inj h]
abbrev N__law_rows : List Str := ["_law_folk_here", "_law_many", "_law_found", "_law_turn", "_law_longer", "_law_row", "_law_one"]
theorem sc__law_rows : FnScope N__law_rows ["_law_folk_here", "_law_many"] (defScope s__law_rows) := ⟨rfl, rfl, rfl, by decide +kernel, rfl, by decide +kernel, by decide +kernel⟩
abbrev sp__law_rows : Sp := pSp (fun (a : List Str × Nat) vs G => (∃ v, vs = [v, .int a.2] ∧ rL rS a.1 v G) ∧ a.1.length ≤ 12 ∧ a.2 ≤ 4) (fun a => rL (rT rS) (arr a.1 a.2))
theorem has__law_rows (C : Ctx K mg) : Has P w K mg base "_law_rows" ["_law_folk_here", "_law_many"] 1 sp__law_rows := by
  obtain ⟨fd, F⟩ := C.d__law_rows
  refine has_pure F C.g__law_rows sc__law_rows (fun _ _ _ _ _ _ us hl => match us, hl with | [_, _], _ => rfl) (fun a vs G h => by obtain ⟨⟨v, rfl, _⟩, _⟩ := h; rfl) (fun cdv A outer s H vs Q E hr a G sG hp k => ?_)
  have hu := hu_of hr
  refine ⟨_, (pss_cons (ps_set (i := 2) sc__law_rows.nd rfl (Or.inl rfl) (pe_lst (pa_cons (pe_tup pa_nil) pa_nil)))
  (pss_cons (ps_for PassesOwn.never (by rfl) (pi_range1 rfl C.f_range (pa_cons (pv 1) pa_nil)) (pg_name (i := 3) sc__law_rows.nd rfl (Or.inl rfl))
    (pss_cons (ps_set (i := 4) sc__law_rows.nd rfl (Or.inl rfl) (pe_lst pa_nil))
  (pss_cons (ps_for PassesOwn.never (by rfl) (pi_list (pv 2)) (pg_name (i := 5) sc__law_rows.nd rfl (Or.inr rfl))
    (pss_one (ps_expr (pe_bm PySem.F.plainAttrs_list PySem.F.slot_list_extend PySem.F.type_list_extend mt_extend (pv 4) (pa_cons (pe_lc (own := [("_law_one", 6)]) (by rfl) sc__law_rows.nd (pi_list (pv 0)) (blkOk_by (own := [("_law_one", 6)]) (N := N__law_rows) (sc := defScope s__law_rows) (by decide +kernel)) (fun _ _ _ _ _ => (pg_name (i := 6) sc__law_rows.nd rfl (Or.inl rfl))) (fun _ _ _ _ _ => (pts_one (pt_cmpR (op_notIn_seqK (K := K) rfl) (pv 6) (pv 5) (by rfl)))) (fun _ _ _ _ _ => (pe_op (op_catAK (K := K) rfl) (pv 5) (pe_tup (pa_cons (pv 6) pa_nil))))) pa_nil)))))
  (pss_one (ps_set (i := 2) sc__law_rows.nd rfl (Or.inl rfl) (pv 4))))))
  (pss_one (ps_ret (pv 2))))), ?_⟩
  obtain ⟨fs, n⟩ := a
  obtain ⟨⟨v, rfl, hv⟩, hf, hn⟩ := hp
  dsimp only at hv hf hn
  refine q_asg (P := rL (rT rS) (arr fs 0)) (ev_l1 (R := rT rS) (x := []) ev_tT0) sG fun v0 G1 H1 e1 p1 => ?_
  refine q_for (Gb := G) (Hb := H) e1 (ei_range1 (n := n) (ev_vi rfl) (by omega) (by omega)) (fun i σ' G' H' => ∃ u y z q, σ' = [some v, some (.int n), some u, y, z, q, none] ∧ rL (rT rS) (arr fs i) u G')
    (fun G2 H2 e2 => ⟨v0, none, none, none, rfl, mn e2.g p1⟩) (fun G2 sG2 i d v' σ' G0 H0 G' H' hk s0 e0' j e' r => ?_) (fun G2 σ' G' H' sG2 s2 e2 j => ?_)
  · obtain ⟨u, y, z, q, rfl, hu'⟩ := j
    have hi : i < n := by have := (upTo_get hk).1; omega
    cases (show v' = .int d from r)
    have hu2 := mn e'.g hu'
    have hal : (arr fs i).length ≤ 12 ^ 3 := Nat.le_trans (arr_len fs i) (Nat.le_trans (Nat.pow_le_pow_left hf i) (Nat.pow_le_pow_right (by omega) (by omega)))
    refine eg_name _ e'.s _ ?_
    refine q_asgN (en_l0 (R := rT rS)) e'.s fun l o G3 H3 e3 hl gl hol ol => ?_
    obtain ⟨xs0, rfl, al0⟩ := ol
    cases al0
    have hlb : H l = none := (e0'.trans e').h.free hl
    have e03 := (e0'.trans e').trans e3
    refine q_for (Gb := G) (Hb := H) e03 (ei_list (R := rT rS) (ds := arr fs i) (ev_var rfl (mn e3.g hu2))) (fun j σ' G' H' => ∃ q xs, σ' = [some v, some (.int n), some u, some (.int d), some (.ref l), q, none] ∧ H' l = some (.lst xs) ∧ G' l = none ∧ All2 (rT rS) G' xs (((arr fs i).take j).flatMap (addOne fs)))
      (fun G4 H4 e4 => ⟨_, [], rfl, e4.h _ _ hol, e4.f l (by rw [hol]; exact fun z => nomatch z) gl, .nil⟩) (fun G4 sG4 j row rv σ' G5 H5 G6 H6 hk5 s5 e5 jj e6 r6 => ?_) (fun G4 σ' G5 H5 sG4 s5 e5 jj => ?_)
    · obtain ⟨q, xs, rfl, hx, gx, al⟩ := jj
      have hx' := e6.h _ _ hx
      have gx' := e6.f l (by rw [hx]; exact fun z => nomatch z) gx
      have hjl := (List.getElem?_eq_some_iff.mp hk5).1
      have hrl := (mem_arr.mp (List.mem_of_getElem? hk5)).1
      have hv6 : rL rS fs v G6 := mn ((((e1.g.trans sG2).trans (s0.trans e'.g)).trans e3.g).trans ((sG4.trans s5).trans e6.g)) hv
      refine eg_name _ e6.s _ ?_
      refine s_ext hx' (ev_var rfl rfl) (ev_lc (R := rS) (S := rT rS) (fun o => decide (o ∉ row)) (fun o => row ++ [o]) (ei_list (ev_var rfl hv6)) (small1000 (by omega)) fun o ov G7 ho s7 r7 => ?_) e6.s ?_ fun ys G8 H8 e8 al8 h8 => ?_
      · cases (show ov = .str o from r7)
        refine ⟨_, eg_name, rfl, et_B (ev_nin (ev_vs rfl) (ev_var rfl (mn s7 r6))), fun _ => ev_catT (ev_var rfl (mn s7 r6)) (ev_tT1 (ev_vs rfl)) ?_⟩
        rw [hrl, sizeLine_eq]
        show i + 1 ≤ _
        omega
      · have h1 := al.length
        have h2 := flat_len fs ((arr fs i).take j)
        have h3 : ((arr fs i).take j).length ≤ 12 ^ 3 := by rw [List.length_take]; exact Nat.le_trans (Nat.min_le_right _ _) hal
        have h4 : ((arr fs i).take j).length * fs.length ≤ 12 ^ 3 * 12 := Nat.mul_le_mul h3 hf
        show xs.length + (addOne fs row).length ≤ _
        have h5 : (addOne fs row).length ≤ fs.length := by
          unfold addOne
          rw [List.length_map]
          exact List.length_filter_le _ _
        rw [sizeLine_eq]
        omega
      · have gx8 := e8.f l (by rw [hx']; exact fun z => nomatch z) gx'
        refine ⟨G8, (s5.trans e6.g).trans e8.g, ((e5.trans e6).trans e8).upd hlb gx8, _, _, rfl, upd_same, gx8, ?_⟩
        rw [take_flat hk5]
        exact (al.mono (e6.g.trans e8.g)).append al8
    · obtain ⟨q, xs, rfl, hx, gx, al⟩ := jj
      rw [List.take_length, ← arr_succ] at al
      have e6 := e5.know hlb gx hx
      refine s_asg (P := rL (rT rS) (arr fs (i + 1))) (ev_var rfl ⟨l, xs, rfl, upd_same, al.mono (Same.new gx)⟩) e6.s fun v7 G7 H7 e7 p7 => ⟨G7, ((((s0.trans e'.g).trans e3.g).trans (sG4.trans s5)).trans (Same.new gx)).trans e7.g, e6.trans e7, v7, _, _, _, rfl, p7⟩
  · obtain ⟨u, y, z, q, rfl, hu'⟩ := j
    rw [upTo_len, Int.toNat_natCast] at hu'
    exact s_ret (P := rL (rT rS) (arr fs n)) (ev_var rfl hu') e2.s fun v G3 H3 e3 p3 => k v G3 H3 (e2.trans e3) p3
abbrev N__law_spots : List Str := ["_law_tables", "_law_folk_here", "_law_found", "_law_table", "_law_row"]
theorem sc__law_spots : FnScope N__law_spots ["_law_tables", "_law_folk_here"] (defScope s__law_spots) := ⟨rfl, rfl, rfl, by decide +kernel, rfl, by decide +kernel, by decide +kernel⟩
abbrev sp__law_spots : Sp := pSp (fun (a : Dm × List Str) vs G => (∃ u v, vs = [u, v] ∧ rTZ (rTb a.1.tb) u G ∧ rL rS a.2 v G) ∧ a.1.Ok ∧ a.2.length ≤ 8) (fun a => rL rPl ((arr a.2 a.1.s).map fun row => (a.1.lab, row)))
theorem has__law_spots (C : Ctx K mg) : Has P w K mg base "_law_spots" ["_law_tables", "_law_folk_here"] 2 sp__law_spots := by
  obtain ⟨fd, F⟩ := C.d__law_spots
  refine has_pure F C.g__law_spots sc__law_spots (fun _ _ _ _ _ _ us hl => match us, hl with | [_, _], _ => rfl) (fun a vs G h => by obtain ⟨⟨u, v, rfl, _⟩, _⟩ := h; rfl) (fun cdv A outer s H vs Q E hr a G sG hp k => ?_)
  have hu := hu_of hr
  refine ⟨_, (pss_cons (ps_set (i := 2) sc__law_spots.nd rfl (Or.inl rfl) (pe_lst pa_nil))
  (pss_cons (ps_for PassesOwn.never (by rfl) (pi_tup (pv 0)) (pg_name (i := 3) sc__law_spots.nd rfl (Or.inr rfl))
    (pss_one (ps_expr (pe_bm PySem.F.plainAttrs_list PySem.F.slot_list_extend PySem.F.type_list_extend mt_extend (pv 2) (pa_cons (pe_lc (own := [("_law_row", 4)]) (by rfl) sc__law_spots.nd (pi_list (pe_callH (has__law_rows C) hr (by decide) rfl (pa_cons (pv 1) (pa_cons (pe_ix ix_tup (pv 3) pe_int (fun _ _ => rfl)) pa_nil)))) (blkOk_by (own := [("_law_row", 4)]) (N := N__law_spots) (sc := defScope s__law_spots) (by decide +kernel)) (fun _ _ _ _ _ => (pg_name (i := 4) sc__law_spots.nd rfl (Or.inl rfl))) (fun _ _ _ _ _ => pts_nil) (fun _ _ _ _ _ => (pe_tup (pa_cons (pe_ix (ix_tupK (K := K) rfl) (pv 3) pe_int (fun _ _ => rfl)) (pa_cons (pv 4) pa_nil))))) pa_nil)))))
  (pss_one (ps_ret (pv 2))))), ?_⟩
  obtain ⟨d, fs⟩ := a
  obtain ⟨⟨u, v, rfl, hb, hv⟩, ok, hf⟩ := hp
  dsimp only at hb hv ok hf
  have hs2 : d.s ≤ 2 := by rcases ok.s with h | h <;> omega
  have hal : (arr fs d.s).length ≤ 64 := Nat.le_trans (arr_len fs _) (Nat.le_trans (Nat.pow_le_pow_left hf _) (Nat.pow_le_pow_right (by omega) hs2))
  refine q_asgN (en_l0 (R := rPl)) sG fun l o G1 H1 e1 hl gl hol ol => ?_
  obtain ⟨xs0, rfl, al0⟩ := ol
  cases al0
  refine q_for (Gb := G) (Hb := H) e1 (ei_tupZ (R := rTb) (d := d.tb) (ev_var rfl (mn e1.g hb))) (fun i σ' G' H' => ∃ y xs, σ' = [some u, some v, some (.ref l), y, none] ∧ H' l = some (.lst xs) ∧ G' l = none ∧ All2 rPl G' xs (if i = 0 then [] else (arr fs d.s).map fun row => (d.lab, row)))
    (fun G2 H2 e2 => ⟨none, [], rfl, e2.h _ _ hol, e2.f l (by rw [hol]; exact fun z => nomatch z) gl, .nil⟩) (fun G2 sG2 i dd v' σ' G0 H0 G' H' hk s0 e0' j e' r => ?_) (fun G2 σ' G' H' sG2 s2 e2 j => ?_)
  · obtain ⟨y, xs, rfl, hx, gx, al⟩ := j
    have hx' := e'.h _ _ hx
    have gx' := e'.f l (by rw [hx]; exact fun z => nomatch z) gx
    have hi : i = 0 := by
      have := (List.getElem?_eq_some_iff.mp hk).1
      simpa using this
    subst hi
    have hd : d.tb = dd := by simpa using hk
    subst hd
    rw [if_pos rfl] at al
    cases al
    refine eg_name _ e'.s _ ?_
    refine s_ext hx' (ev_var rfl rfl) (ev_lcm (R := rT rS) (S := rPl) (fun row => (d.lab, row)) (ei_list (ev_call2 (P := rL rS fs) (P1 := rI (d.s : Int)) (post := fun a : List Str × Nat => rL (rT rS) (arr a.1 a.2)) (fs, d.s) (ev_var rfl (mn ((e1.g.trans sG2).trans (s0.trans e'.g)) hv)) (ev_snd (ev_var (P := rTb d.tb) rfl r)) fun v1 v2 G' _ p1 p2 => ⟨⟨v1, by rw [show v2 = .int _ from p2], p1⟩, by show fs.length ≤ 12; omega, by show d.s ≤ 4; omega⟩)) (small1000 (by show (arr fs d.s).length ≤ 1000; omega)) fun row rv G3 hrow s3 r3 => ⟨_, eg_name, rfl, ev_t2 (R := rS) (S := rT rS) (x := d.lab) (y := row) (ev_fst (ev_var (P := rTb d.tb) rfl (mn s3 r))) (ev_var rfl r3)⟩) e'.s ?_ fun ys G3 H3 e3 al3 h3 => ?_
    · show ([] : List V).length + ((arr fs d.s).map fun row => (d.lab, row)).length ≤ _
      rw [List.length_map, List.length_nil, sizeLine_eq]; omega
    · have gx3 := e3.f l (by rw [hx']; exact fun z => nomatch z) gx'
      refine ⟨G3, (s0.trans e'.g).trans e3.g, ((e0'.trans e').trans e3).upd hl gx3, _, _, rfl, upd_same, gx3, ?_⟩
      rw [if_neg (by omega), List.nil_append]
      exact al3
  · obtain ⟨y, xs, rfl, hx, gx, al⟩ := j
    rw [if_neg (by show ¬ ([d.tb] : List (Str × Int)).length = 0; simp)] at al
    have e3 := e2.know hl gx hx
    exact s_ret (P := rL rPl ((arr fs d.s).map fun row => (d.lab, row))) (ev_var rfl ⟨l, xs, rfl, upd_same, al.mono (Same.new gx)⟩) e3.s fun v G3 H3 e4 p4 => k v G3 H3 (e3.trans e4) p4
theorem abcd : signs "abcd" = (List.range 4).map let1 := by decide +kernel
theorem lets_snoc (ls : List Nat) (i : Nat) : lets ls ++ let1 i = lets (ls ++ [i]) := by
  show (⟨(ls.map fun i => 97 + i).toArray ++ #[97 + i]⟩ : Str) = ⟨((ls ++ [i]).map fun i => 97 + i).toArray⟩
  congr 1
  simp
theorem mem_lets (i : Nat) (ls : List Nat) : decide (97 + i ∈ (lets ls).cps.toList) = ls.contains i := by
  rw [Bool.eq_iff_iff, decide_eq_true_eq, List.contains_iff_mem]
  show 97 + i ∈ (ls.map fun i => 97 + i).toArray.toList ↔ _
  rw [List.mem_map]
  exact ⟨fun ⟨j, h, e⟩ => by rw [show i = j by omega]; exact h, fun h => ⟨i, h, rfl⟩⟩
abbrev N__law_letters : List Str := ["_law_demand", "_law_found", "_law_letter", "_law_term"]
theorem sc__law_letters : FnScope N__law_letters ["_law_demand"] (defScope s__law_letters) := ⟨rfl, rfl, rfl, by decide +kernel, rfl, by decide +kernel, by decide +kernel⟩
abbrev sp__law_letters : Sp := pSp (fun (d : Dm) vs G => (∃ v, vs = [v] ∧ rDm d v G) ∧ d.Ok) (fun d => rS (lets d.L))
theorem has__law_letters (C : Ctx K mg) : Has P w K mg base "_law_letters" ["_law_demand"] 1 sp__law_letters := by
  obtain ⟨fd, F⟩ := C.d__law_letters
  refine has_pure F C.g__law_letters sc__law_letters (fun _ _ _ _ _ _ us hl => match us, hl with | [_], _ => rfl) (fun a vs G h => by obtain ⟨⟨v, rfl, _⟩, _⟩ := h; rfl) (fun cdv A outer s H vs Q E hr a G sG hp k => ?_)
  have hu := hu_of hr
  refine ⟨_, (pss_cons (ps_set (i := 1) sc__law_letters.nd rfl (Or.inl rfl) pe_str)
  (pss_cons (ps_for PassesOwn.never (by rfl) (pi_str pe_str) (pg_name (i := 2) sc__law_letters.nd rfl (Or.inr rfl))
    (pss_one (ps_if (pt_val (pe_callB (cr_any rfl) (by rfl) C.f_any (by decide +kernel) (pa_cons (pe_lc (own := [("_law_term", 3)]) (by rfl) sc__law_letters.nd (pi_tup (pe_ix ix_tup (pv 0) pe_int (fun _ _ => rfl))) (blkOk_by (own := [("_law_term", 3)]) (N := N__law_letters) (sc := defScope s__law_letters) (by decide +kernel)) (fun _ _ _ _ _ => (pg_name (i := 3) sc__law_letters.nd rfl (Or.inl rfl))) (fun _ _ _ _ _ => pts_nil) (fun _ _ _ _ _ => (pe_cmpR op_in_sign (pv 2) (pe_ix (ix_tupK (K := K) rfl) (pv 3) pe_int (fun _ _ => rfl)) (by rfl)))) pa_nil)))
    (pss_one (ps_set (i := 1) sc__law_letters.nd rfl (Or.inl rfl) (pe_op op_add_str (pv 1) (pv 2))))
    pss_nil)))
  (pss_one (ps_ret (pv 1))))), ?_⟩
  obtain ⟨⟨v, rfl, hv⟩, ok⟩ := hp
  have hTl := ok.Tl
  have hF : ∀ j, ((List.range j).filter fun i => a.T.any fun t => t.2.contains i).length ≤ j := fun j => by
    have := List.length_filter_le (fun i => a.T.any fun t => t.2.contains i) (List.range j)
    rwa [List.length_range] at this
  refine q_asg (P := rS Str.empty) ev_str sG fun v0 G1 H1 e1 p1 => ?_
  cases (show v0 = .str Str.empty from p1)
  refine q_for (Gb := G) (Hb := H) e1 (ei_str (x := "abcd") ev_str) (fun i σ' G' H' => ∃ y, σ' = [some v, some (.str (lets ((List.range i).filter fun i => a.T.any fun t => t.2.contains i))), y, none])
    (fun G2 H2 e2 => ⟨none, rfl⟩) (fun G2 sG2 i dd v' σ' G0 H0 G' H' hk s0 e0' j e' r => ?_) (fun G2 σ' G' H' sG2 s2 e2 j => ?_)
  · obtain ⟨y, rfl⟩ := j
    cases (show v' = .str dd from r)
    rw [abcd, List.getElem?_map] at hk
    have hi : i < 4 := by
      rcases Nat.lt_or_ge i 4 with h | h
      · exact h
      · rw [List.getElem?_eq_none (by rw [List.length_range]; exact h)] at hk; cases hk
    rw [List.getElem?_range hi] at hk
    cases hk
    refine eg_name _ e'.s _ ?_
    have hv' : rDm a v G' := mn ((e1.g.trans sG2).trans (s0.trans e'.g)) hv
    refine s_ifn (b := a.T.any fun t => t.2.contains i) (EvT.to (et_B (ev_any (bs := a.terms.map fun t => decide (97 + i ∈ t.2.2.cps.toList)) (ev_lcm (R := rTm) (S := rB) (fun t => decide (97 + i ∈ t.2.2.cps.toList)) (ei_tup (ev_fst (ev_var (P := rDm a) rfl hv'))) (by show a.terms.length < _; unfold Dm.terms; rw [List.length_map]; exact small1000 (by omega)) fun t tv G3 ht s3 r3 => ⟨_, eg_name, rfl, ev_inSign (c := 97 + i) (ev_vs rfl) (ev_33 (ev_var (P := rTm t) rfl r3))⟩))) ?_) e'.s (fun hb G3 H3 e3 => ?_) (fun hb G3 H3 e3 => ?_)
    · unfold Dm.terms
      rw [List.map_map, List.any_map]
      congr 1
      funext t
      exact mem_lets i t.2
    · refine s_asg (P := rS (lets ((List.range (i + 1)).filter fun i => a.T.any fun t => t.2.contains i))) (EvP.imp (ev_addS (ev_vs rfl) (ev_vs rfl) (by rw [lets_len, sizeLine_eq]; have := hF i; show _ + 1 ≤ _; omega)) fun v G' _ p => ?_) e3.s fun v4 G4 H4 e4 p4 => ?_
      · rw [lets_snoc] at p
        rw [List.range_succ, List.filter_append, List.filter_cons, if_pos hb]
        exact p
      · cases (show v4 = .str _ from p4)
        exact ⟨G4, ((s0.trans e'.g).trans e3.g).trans e4.g, ((e0'.trans e').trans e3).trans e4, _, rfl⟩
    · refine ⟨G3, (s0.trans e'.g).trans e3.g, (e0'.trans e').trans e3, some (.str (let1 i)), ?_⟩
      rw [List.range_succ, List.filter_append, List.filter_cons, if_neg (by rw [hb]; exact Bool.false_ne_true)]
      show _ = [some v, some (.str (lets (_ ++ []))), _, none]
      rw [List.append_nil]
      rfl
  · obtain ⟨y, rfl⟩ := j
    rw [show (signs "abcd").length = 4 by rw [abcd]; rfl]
    exact s_ret (P := rS (lets a.L)) (ev_vs rfl) e2.s fun v G3 H3 e4 p4 => k v G3 H3 (e2.trans e4) p4
/-! terms -/
abbrev rTL : Int × Pl → V → Hp → Prop := r2 rI rPl
def Dm.line (d : Dm) (row : List Str) : List (Int × Pl) := d.T.map fun t => (t.1, d.sub row t)
theorem str_index : ((List.range 5).all fun n => (arr (List.range 4) n).all fun row => row.all fun i => (Builtin.Str.occurrences (lets row) (let1 i) 0 (lets row).length 1).head? == some (row.idxOf i)) = true := by decide +kernel
theorem Dm.str_idx {d : Dm} {i : Nat} (h : i ∈ d.L) : ∃ rest, Builtin.Str.occurrences (lets d.L) (let1 i) 0 (lets d.L).length 1 = d.L.idxOf i :: rest := by
  have h1 := List.all_eq_true.mp (List.all_eq_true.mp (List.all_eq_true.mp str_index d.L.length (List.mem_range.mpr (by have := d.L_len; omega))) d.L (mem_arr.mpr ⟨rfl, d.L_nd, fun x hx => List.mem_range.mpr (Dm.L_mem.mp hx).1⟩)) i h
  have h2 := beq_iff_eq.mp h1
  cases hh : Builtin.Str.occurrences (lets d.L) (let1 i) 0 (lets d.L).length 1 with
  | nil => rw [hh] at h2; cases h2
  | cons x rest => rw [hh] at h2; exact ⟨rest, by rw [Option.some.inj h2]⟩
theorem ev_sidx {σ : St} {G : Hp} {ta tb : TE} {x y : Str} {i : Nat} {rest : List Nat} (ha : EvP ta σ G (rS x)) (hb : EvP tb σ G (rS y)) (h : Builtin.Str.occurrences x y 0 x.length 1 = i :: rest) :
    EvP (tBM K "str" (fun x xs H Q => ∃ a b i rest, x = V.str a ∧ xs = [V.str b] ∧ Builtin.Str.occurrences a b 0 a.length 1 = i :: rest ∧ Q (.int (i : Nat)) H) ta (tCons tb tNil)) σ G (rI (i : Nat)) := fun H s Q q =>
  ha H s _ fun v G1 H1 e1 p1 => by
    cases (show v = .str x from p1)
    refine ⟨rfl, ?_⟩
    refine ea_1 (hb.mono e1.g) H1 e1.s _ fun vs G2 H2 e2 pp => ?_
    obtain ⟨u, _, rfl, p2, rfl⟩ := pp
    cases (show u = .str y from p2)
    exact ⟨x, y, i, rest, rfl, rfl, h, q _ _ _ (e1.trans e2) rfl⟩
abbrev N__law_terms : List Str := ["_law_demand", "_law_letters_here", "_law_row", "_law_found", "_law_factor", "_law_label", "_law_signs", "_law_sign"]
theorem sc__law_terms : FnScope N__law_terms ["_law_demand", "_law_letters_here", "_law_row"] (defScope s__law_terms) := ⟨rfl, rfl, rfl, by decide +kernel, rfl, by decide +kernel, by decide +kernel⟩
abbrev sp__law_terms : Sp := pSp (fun (a : Dm × List Str) vs G => (∃ u v, vs = [u, .str (lets a.1.L), v] ∧ rDm a.1 u G ∧ rT rS a.2 v G) ∧ a.1.Ok ∧ a.2.length = a.1.L.length) (fun a => rL rTL (a.1.line a.2))
theorem has__law_terms (C : Ctx K mg) : Has P w K mg base "_law_terms" ["_law_demand", "_law_letters_here", "_law_row"] 1 sp__law_terms := by
  obtain ⟨fd, F⟩ := C.d__law_terms
  refine has_pure F C.g__law_terms sc__law_terms (fun _ _ _ _ _ _ us hl => match us, hl with | [_, _, _], _ => rfl) (fun a vs G h => by obtain ⟨⟨u, v, rfl, _⟩, _⟩ := h; rfl) (fun cdv A outer s H vs Q E hr a G sG hp k => ?_)
  have hu := hu_of hr
  refine ⟨_, (pss_cons (ps_set (i := 3) sc__law_terms.nd rfl (Or.inl rfl) (pe_lst pa_nil))
  (pss_cons (ps_for PassesOwn.never (by rfl) (pi_tup (pe_ix ix_tup (pv 0) pe_int (fun _ _ => rfl))) (pg_tup rfl (pgs_cons (pg_name (i := 4) sc__law_terms.nd rfl (Or.inl rfl)) (pgs_cons (pg_name (i := 5) sc__law_terms.nd rfl (Or.inl rfl)) (pgs_cons (pg_name (i := 6) sc__law_terms.nd rfl (Or.inl rfl)) pgs_nil))))
    (pss_one (ps_expr (pe_bm PySem.F.plainAttrs_list PySem.F.slot_list_append PySem.F.type_list_append mt_append (pv 3) (pa_cons (pe_tup (pa_cons (pv 4) (pa_cons (pe_tup (pa_cons (pv 5) (pa_cons (pe_callTy call_tuple_of (by rfl) C.f_tuple (by decide +kernel) (pa_cons (pe_lc (own := [("_law_sign", 7)]) (by rfl) sc__law_terms.nd (pi_str (pv 6)) (blkOk_by (own := [("_law_sign", 7)]) (N := N__law_terms) (sc := defScope s__law_terms) (by decide +kernel)) (fun _ _ _ _ _ => (pg_name (i := 7) sc__law_terms.nd rfl (Or.inl rfl))) (fun _ _ _ _ _ => pts_nil) (fun _ _ _ _ _ => (pe_ix (ix_tupK (K := K) rfl) (pv 2) (pe_bmK (K := K) rfl PySem.F.plainAttrs_str PySem.F.slot_str_index PySem.F.type_str_index mt_sindex (pv 1) (pa_cons (pv 7) pa_nil)) (fun _ _ => rfl)))) pa_nil)) pa_nil))) pa_nil))) pa_nil)))))
  (pss_one (ps_ret (pv 3))))), ?_⟩
  obtain ⟨d, row⟩ := a
  obtain ⟨⟨u, v, rfl, hu', hv⟩, ok, hrow⟩ := hp
  dsimp only at hu' hv ok hrow
  have hTl := ok.Tl
  refine q_asgN (en_l0 (R := rTL)) sG fun l o G1 H1 e1 hl gl hol ol => ?_
  obtain ⟨xs0, rfl, al0⟩ := ol
  cases al0
  refine q_for (Gb := G) (Hb := H) e1 (ei_tup (ev_fst (ev_var (P := rDm d) rfl (mn e1.g hu')))) (fun i σ' G' H' => ∃ x y z xs, σ' = [some u, some (.str (lets d.L)), some v, some (.ref l), x, y, z, none] ∧ H' l = some (.lst xs) ∧ G' l = none ∧ All2 rTL G' xs ((d.T.take i).map fun t => (t.1, d.sub row t)))
    (fun G2 H2 e2 => ⟨none, none, none, [], rfl, e2.h _ _ hol, e2.f l (by rw [hol]; exact fun z => nomatch z) gl, .nil⟩) (fun G2 sG2 i dd v' σ' G0 H0 G' H' hk s0 e0' j e' r => ?_) (fun G2 σ' G' H' sG2 s2 e2 j => ?_)
  · obtain ⟨x, y, z, xs, rfl, hx, gx, al⟩ := j
    have hx' := e'.h _ _ hx
    have gx' := e'.f l (by rw [hx]; exact fun z => nomatch z) gx
    unfold Dm.terms at hk
    rw [List.getElem?_map] at hk
    cases ht : d.T[i]? with
    | none => rw [ht] at hk; cases hk
    | some t =>
    rw [ht] at hk
    cases hk
    have hi : i < d.T.length := (List.getElem?_eq_some_iff.mp ht).1
    have hti : d.T.take (i + 1) = d.T.take i ++ [t] := by
      rw [take_snoc hi]
      rw [List.getElem?_eq_getElem hi] at ht
      rw [Option.some.inj ht]
    have htm := List.mem_of_getElem? ht
    obtain ⟨t0, t1, t2, t3, t4, t5⟩ := ok.t t htm
    have hlt : t.2.length ≤ 2 := by rcases ok.s with h | h <;> omega
    obtain ⟨w1, w2, w3, q1, q2, q3, eg⟩ := eg_3 (K := K) (σ := [some u, some (.str (lets d.L)), some v, some (.ref l), x, y, z, none]) (i := 4) (j := 5) (k := 6) r
    refine eg _ e'.s _ ?_
    cases (show w1 = .int t.1 from q1)
    cases (show w2 = .str d.lab from q2)
    cases (show w3 = .str (lets t.2) from q3)
    have hv' : rT rS row v G' := mn ((e1.g.trans sG2).trans (s0.trans e'.g)) hv
    refine s_app hx' (ev_var rfl rfl) (ev_t2 (R := rI) (S := rPl) (x := t.1) (y := d.sub row t) (ev_vi rfl) (ev_t2 (R := rS) (S := rT rS) (x := d.lab) (y := t.2.map fun i => row.getD (d.L.idxOf i) Str.empty) (ev_vs rfl) (ev_tupL (EvP.imp (ev_lcm (R := rS) (S := rS) (fun x => row.getD (d.L.idxOf (unlet x)) Str.empty) (ei_str (x := lets t.2) (ev_vs rfl)) (by rw [signs_lets, List.length_map]; exact small1000 (by omega)) fun c cv G4 hc s4 r4 => ?_) fun v G4 _ h => ?_)))) e'.s ?_ fun v5 G5 H5 e5 p5 h5 => ?_
    · rw [signs_lets] at hc
      obtain ⟨n, hn, rfl⟩ := List.mem_map.mp hc
      have hnL : n ∈ d.L := Dm.L_mem.mpr ⟨t5 n hn, t, htm, hn⟩
      obtain ⟨rest, hrest⟩ := Dm.str_idx hnL
      have hil := List.idxOf_lt_length_of_mem hnL
      refine ⟨_, eg_name, rfl, EvP.imp (ev_ixT (R := rS) (ds := row) (i := ((d.L.idxOf n : Nat) : Int)) (j := d.L.idxOf n) (d := row[d.L.idxOf n]'(by rw [hrow]; exact hil)) (ev_var rfl (mn s4 hv')) (ev_sidx (ev_vs rfl) (ev_var rfl r4) hrest) rfl (List.getElem?_eq_getElem _)) fun v G' _ p => ?_⟩
      rw [unlet_let, getD_eq _ (by rw [hrow]; exact hil)]
      exact p
    · have h : rL rS ((signs (lets t.2)).map fun x => row.getD (d.L.idxOf (unlet x)) Str.empty) v G4 := h
      rw [signs_lets, List.map_map] at h
      have e : ((fun x => row.getD (d.L.idxOf (unlet x)) Str.empty) ∘ let1) = fun i => row.getD (d.L.idxOf i) Str.empty := funext fun i => by
        show row.getD (d.L.idxOf (unlet (let1 i))) Str.empty = _
        rw [unlet_let]
      rw [e] at h
      exact h
    · have h1 := al.length
      rw [List.length_map, List.length_take] at h1
      exact small1000 (by omega)
    · have gx5 := e5.f l (by rw [hx']; exact fun z => nomatch z) gx'
      refine ⟨G5, (s0.trans e'.g).trans e5.g, ((e0'.trans e').trans e5).upd hl gx5, _, _, _, _, rfl, upd_same, gx5, ?_⟩
      rw [hti, List.map_append]
      exact (al.mono (e'.g.trans e5.g)).snoc p5
  · obtain ⟨x, y, z, xs, rfl, hx, gx, al⟩ := j
    rw [show d.T.take d.terms.length = d.T by unfold Dm.terms; rw [List.length_map, List.take_length]] at al
    have e3 := e2.know hl gx hx
    exact s_ret (P := rL rTL (d.line row)) (ev_var rfl ⟨l, xs, rfl, upd_same, al.mono (Same.new gx)⟩) e3.s fun v G3 H3 e4 p4 => k v G3 H3 (e3.trans e4) p4
end
end Eld
set_option maxRecDepth 100000
set_option maxHeartbeats 1000000
/-! The law's own defs: totals, the search. -/
theorem L2.Room.un65 {k : Nat} {A : PySem.Around} (r : L2.Room k A) : A.units + 65 < PySem.cLine := by have := r.un; omega
namespace Eld
open PySem PySem.Spec PyProof.Rows L2
def tsum (ts : List (Int × Pl)) (y : Pl → Int) : Int := (ts.map fun t => t.1 * y t.2).sum
abbrev LLine := List (Int × Pl) × Int
abbrev rLn : LLine → V → Hp → Prop := r2 (rL rTL) rI
def LSat (m : Int) (lns : List LLine) : Prop := ∃ y : Pl → Int, ∀ ln ∈ lns, m ∣ tsum ln.1 y - ln.2
def valN (l : List (Pl × Int)) (p : Pl) : Int := (getN l p).getD 0
section
variable {P : Program} {w : World} {K : PySem.W.Frag} {mg : Str → Option Value} {base : Heap}
structure ToA where
  m : Int
  ts : List (Int × Pl)
  l : List (Pl × Int)
structure ToA.Ok (a : ToA) : Prop where
  m : 2 ≤ a.m
  t : ∀ t ∈ a.ts, sml t.1 = true ∧ ∃ v, getN a.l t.2 = some v ∧ sml v = true
theorem tsum_snoc {ts : List (Int × Pl)} {i : Nat} {t : Int × Pl} (h : ts[i]? = some t) (y : Pl → Int) : tsum (ts.take (i + 1)) y = tsum (ts.take i) y + t.1 * y t.2 := by
  have hi := (List.getElem?_eq_some_iff.mp h).1
  rw [take_snoc hi]
  rw [List.getElem?_eq_getElem hi] at h
  rw [Option.some.inj h]
  unfold tsum
  rw [List.map_append, List.sum_append]
  simp
abbrev N__law_total : List Str := ["_law_world", "_law_terms_here", "_law_numbers", "_law_top", "_law_bottom", "_law_factor", "_law_place", "_law_part"]
theorem sc__law_total : FnScope N__law_total ["_law_world", "_law_terms_here", "_law_numbers"] (defScope s__law_total) := ⟨rfl, rfl, rfl, by decide +kernel, rfl, by decide +kernel, by decide +kernel⟩
abbrev sp__law_total (P : Program) (w : World) : Sp := pSp (fun (a : ToA) vs G => (∃ u v, vs = [.int a.m, u, v] ∧ rL rTL a.ts u G ∧ rPD P w a.l v G) ∧ a.Ok) (fun a => r2 rI rI (tsum a.ts (valN a.l), 1))
theorem has__law_total (C : Ctx K mg) : Has P w K mg base "_law_total" ["_law_world", "_law_terms_here", "_law_numbers"] 1 (sp__law_total P w) := by
  obtain ⟨fd, F⟩ := C.d__law_total
  refine has_pure F C.g__law_total sc__law_total (fun _ _ _ _ _ _ us hl => match us, hl with | [_, _, _], _ => rfl) (fun a vs G h => by obtain ⟨⟨u, v, rfl, _⟩, _⟩ := h; rfl) (fun cdv A outer s H vs Q E hr a G sG hp k => ?_)
  have hu := hu_of hr
  refine ⟨_, (pss_cons (ps_asg (pe_tup (pa_cons pe_int (pa_cons pe_int pa_nil))) (pg_tup rfl (pgs_cons (pg_name (i := 3) sc__law_total.nd rfl (Or.inl rfl)) (pgs_cons (pg_name (i := 4) sc__law_total.nd rfl (Or.inl rfl)) pgs_nil))))
  (pss_cons (ps_for PassesOwn.never (by rfl) (pi_list (pv 1)) (pg_tup rfl (pgs_cons (pg_name (i := 5) sc__law_total.nd rfl (Or.inl rfl)) (pgs_cons (pg_name (i := 6) sc__law_total.nd rfl (Or.inl rfl)) pgs_nil)))
    (pss_one (ps_if (pt_cmpR op_eq (pv 0) pe_int (nomark _))
    (pss_cons (ps_set (i := 7) sc__law_total.nd rfl (Or.inl rfl) (pe_ndget hr.units (pv 2) (pv 6) (fun _ _ => rfl)))
  (pss_cons (ps_set (i := 3) sc__law_total.nd rfl (Or.inl rfl) (pe_op op_add (pe_op op_mulW (pv 3) (pe_ix ix_tup (pv 7) pe_int (fun _ _ => rfl))) (pe_op op_mulW (pe_op op_mulW (pv 5) (pe_ix ix_tup (pv 7) pe_int (fun _ _ => rfl))) (pv 4))))
  (pss_one (ps_set (i := 4) sc__law_total.nd rfl (Or.inl rfl) (pe_op op_mulW (pv 4) (pe_ix ix_tup (pv 7) pe_int (fun _ _ => rfl)))))))
    (pss_one (ps_set (i := 3) sc__law_total.nd rfl (Or.inl rfl) (pe_op op_add (pv 3) (pe_op op_mulW (pv 5) (pe_ndget hr.units (pv 2) (pv 6) (fun _ _ => rfl)))))))))
  (pss_one (ps_ret (pe_tup (pa_cons (pv 3) (pa_cons (pv 4) pa_nil))))))), ?_⟩
  obtain ⟨m, ts, l⟩ := a
  obtain ⟨⟨u, v, rfl, hu', hv⟩, ok⟩ := hp
  dsimp only at hu' hv
  have hm := ok.m
  dsimp only at hm
  refine q_asgG (P := r2 rI rI (0, 1)) (ev_t2 (R := rI) (S := rI) (x := 0) (y := 1) ev_int ev_int) sG fun v0 G1 H1 e1 p0 => ?_
  obtain ⟨v1, v2, p1, p2, eg0⟩ := eg_2 (K := K) (σ := [some (.int m), some u, some v, none, none, none, none, none]) (i := 3) (j := 4) p0
  refine ⟨_, eg0, ?_⟩
  cases (show v1 = .int 0 from p1)
  cases (show v2 = .int 1 from p2)
  refine q_for (Gb := G) (Hb := H) e1 (ei_list (R := rTL) (ev_var rfl (mn e1.g hu'))) (fun i σ' G' H' => ∃ y z, σ' = [some (.int m), some u, some v, some (.int (tsum (ts.take i) (valN l))), some (.int 1), y, z, none])
    (fun G2 H2 e2 => ⟨none, none, rfl⟩) (fun G2 sG2 i t v' σ' G0 H0 G' H' hk s0 e0' j e' r => ?_) (fun G2 σ' G' H' sG2 s2 e2 j => ?_)
  · obtain ⟨y, z, rfl⟩ := j
    obtain ⟨h1, x, h2, h3⟩ := ok.t t (List.mem_of_getElem? hk)
    dsimp only at h2
    obtain ⟨w1, w2, q1, q2, eg⟩ := eg_2 (K := K) (σ := [some (.int m), some u, some v, some (.int (tsum (ts.take i) (valN l))), some (.int 1), y, z, none]) (i := 5) (j := 6) r
    refine eg _ e'.s _ ?_
    cases (show w1 = .int t.1 from q1)
    have hv' : rPD P w l v G' := mn ((e1.g.trans sG2).trans (s0.trans e'.g)) hv
    refine s_no (by rw [show false = decide (m = 1) from (decide_eq_false (by omega)).symm]; exact et_B (ev_eq (ev_vi rfl) ev_int)) e'.s fun G3 H3 e3 => ?_
    refine s_asg (P := rI (tsum (ts.take (i + 1)) (valN l))) (EvP.imp (ev_add (ev_vi rfl) (ev_mul (ev_vi rfl) (ev_ndget (ev_var rfl (mn e3.g hv')) (ev_var rfl (mn e3.g q2)) h2) (cmulW_of h1 h3))) fun v G' _ p => ?_) e3.s fun v4 G4 H4 e4 p4 => ?_
    · rw [tsum_snoc hk]
      unfold valN at p ⊢
      rw [h2]
      exact p
    · cases (show v4 = .int _ from p4)
      exact ⟨G4, ((s0.trans e'.g).trans e3.g).trans e4.g, ((e0'.trans e').trans e3).trans e4, _, _, rfl⟩
  · obtain ⟨y, z, rfl⟩ := j
    rw [List.take_length]
    exact s_ret (P := r2 rI rI (tsum ts (valN l), 1)) (ev_t2 (R := rI) (S := rI) (x := tsum ts (valN l)) (y := 1) (ev_vi rfl) (ev_vi rfl)) e2.s fun v G3 H3 e3 p3 => k v G3 H3 (e2.trans e3) p3
theorem ev_int1 {σ : St} {G : Hp} {ta : TE} {n : Int} (h : EvP ta σ G (rI n)) : EvP (tCB (fun xs H Q => (∃ i, xs = [V.int i] ∧ Q (.int i) H) ∨ ∃ k, xs = [V.bl k] ∧ Q (.int (if k then 1 else 0)) H) (tCons ta tNil)) σ G (rI n) :=
  ev_cb1 h fun v G' _ p H s Q q => by
    cases (show v = .int n from p)
    exact .inl ⟨n, rfl, q _ _ _ (Ext.refl s) rfl⟩
abbrev N__law_is_right : List Str := ["_law_world", "_law_total_here", "_law_right"]
theorem sc__law_is_right : FnScope N__law_is_right ["_law_world", "_law_total_here", "_law_right"] (defScope s__law_is_right) := ⟨rfl, rfl, rfl, by decide +kernel, rfl, by decide +kernel, by decide +kernel⟩
abbrev sp__law_is_right : Sp := pSp (fun (a : Int × Int × Int) vs G => (∃ v, vs = [.int a.1, v, .int a.2.2] ∧ r2 rI rI (a.2.1, 1) v G) ∧ 2 ≤ a.1) (fun a => rB (decide ((a.2.1 - a.2.2).fmod a.1 = 0)))
theorem has__law_is_right (C : Ctx K mg) : Has P w K mg base "_law_is_right" ["_law_world", "_law_total_here", "_law_right"] 1 sp__law_is_right := by
  obtain ⟨fd, F⟩ := C.d__law_is_right
  refine has_pure F C.g__law_is_right sc__law_is_right (fun _ _ _ _ _ _ us hl => match us, hl with | [_, _, _], _ => rfl) (fun a vs G h => by obtain ⟨⟨v, rfl, _⟩, _⟩ := h; rfl) (fun cdv A outer s H vs Q E hr a G sG hp k => ?_)
  have hu := hu_of hr
  refine ⟨_, (pss_cons (ps_if (pt_cmpR op_gt (pv 0) pe_int (nomark _))
    (pss_one (ps_ret (pe_cmpR op_eq (pe_op op_modN (pe_callTy call_int1 (by rfl) C.f_int (by decide +kernel) (pa_cons (pe_op op_sub (pe_ix ix_tup (pv 1) pe_int (fun _ _ => rfl)) (pv 2)) pa_nil)) (pv 0)) pe_int (nomark _))))
    pss_nil)
  (pss_one (ps_ret (pe_cmpR op_eq (pe_ix ix_tup (pv 1) pe_int (fun _ _ => rfl)) (pe_op op_mulW (pv 2) (pe_ix ix_tup (pv 1) pe_int (fun _ _ => rfl))) (nomark _))))), ?_⟩
  obtain ⟨m, t, r⟩ := a
  obtain ⟨⟨v, rfl, hv⟩, hm⟩ := hp
  dsimp only at hv hm
  refine q_yes (by rw [show true = decide (1 < m) from (decide_eq_true (by omega)).symm]; exact et_B (ev_gt (ev_vi rfl) ev_int)) sG fun G1 H1 e1 => ?_
  exact s_ret (P := rB (decide ((t - r).fmod m = 0))) (ev_eq (ev_mod (ev_int1 (ev_sub (ev_fst (ev_var (P := r2 rI rI (t, 1)) rfl (mn e1.g hv))) (ev_vi rfl))) (ev_vi rfl) (by omega)) ev_int) e1.s fun v G3 H3 e3 p3 => k v G3 H3 (e1.trans e3) p3
structure MeA where
  m : Int
  lns : List LLine
  l : List (Pl × Int)
def MeA.b (a : MeA) : Bool := a.lns.all fun ln => decide ((tsum ln.1 (valN a.l) - ln.2).fmod a.m = 0)
abbrev N__law_meets : List Str := ["_law_world", "_law_lines_here", "_law_numbers", "_law_terms_here", "_law_right"]
theorem sc__law_meets : FnScope N__law_meets ["_law_world", "_law_lines_here", "_law_numbers"] (defScope s__law_meets) := ⟨rfl, rfl, rfl, by decide +kernel, rfl, by decide +kernel, by decide +kernel⟩
abbrev sp__law_meets (P : Program) (w : World) : Sp := pSp (fun (a : MeA) vs G => (∃ u v, vs = [.int a.m, u, v] ∧ rL rLn a.lns u G ∧ rPD P w a.l v G) ∧ ∀ ln ∈ a.lns, (⟨a.m, ln.1, a.l⟩ : ToA).Ok) (fun a => rB a.b)
theorem has__law_meets (C : Ctx K mg) : Has P w K mg base "_law_meets" ["_law_world", "_law_lines_here", "_law_numbers"] 2 (sp__law_meets P w) := by
  obtain ⟨fd, F⟩ := C.d__law_meets
  refine has_pure F C.g__law_meets sc__law_meets (fun _ _ _ _ _ _ us hl => match us, hl with | [_, _, _], _ => rfl) (fun a vs G h => by obtain ⟨⟨u, v, rfl, _⟩, _⟩ := h; rfl) (fun cdv A outer s H vs Q E hr a G sG hp k => ?_)
  have hu := hu_of hr
  refine ⟨_, (pss_cons (ps_for PassesOwn.never (by rfl) (pi_list (pv 1)) (pg_tup rfl (pgs_cons (pg_name (i := 3) sc__law_meets.nd rfl (Or.inl rfl)) (pgs_cons (pg_name (i := 4) sc__law_meets.nd rfl (Or.inl rfl)) pgs_nil)))
    (pss_one (ps_if (pt_not (pt_val (pe_callH (has__law_is_right C) hr (by decide) rfl (pa_cons (pv 0) (pa_cons (pe_callH (has__law_total C) hr (by decide) rfl (pa_cons (pv 0) (pa_cons (pv 3) (pa_cons (pv 2) pa_nil)))) (pa_cons (pv 4) pa_nil))))))
    (pss_one (ps_ret pe_bl))
    pss_nil)))
  (pss_one (ps_ret pe_bl))), ?_⟩
  obtain ⟨m, lns, l⟩ := a
  obtain ⟨⟨u, v, rfl, hu', hv⟩, ok⟩ := hp
  dsimp only at hu' hv ok
  refine q_for (Gb := G) (Hb := H) (Ext.refl sG) (ei_list (R := rLn) (ev_var rfl hu')) (fun i σ' G' H' => ∃ y z, σ' = [some (.int m), some u, some v, y, z] ∧ ((lns.take i).all fun ln => decide ((tsum ln.1 (valN l) - ln.2).fmod m = 0)) = true)
    (fun G2 H2 e2 => ⟨none, none, rfl, rfl⟩) (fun G2 sG2 i ln v' σ' G0 H0 G' H' hk s0 e0' j e' r => ?_) (fun G2 σ' G' H' sG2 s2 e2 j => ?_)
  · obtain ⟨y, z, rfl, hall⟩ := j
    have hmem := List.mem_of_getElem? hk
    have hi := (List.getElem?_eq_some_iff.mp hk).1
    have hok := ok ln hmem
    obtain ⟨w1, w2, q1, q2, eg⟩ := eg_2 (K := K) (σ := [some (.int m), some u, some v, y, z]) (i := 3) (j := 4) r
    refine eg _ e'.s _ ?_
    cases (show w2 = .int ln.2 from q2)
    have hv' : rPD P w l v G' := mn (sG2.trans (s0.trans e'.g)) hv
    refine s_ifn (b := !decide ((tsum ln.1 (valN l) - ln.2).fmod m = 0)) (et_not (et_B (ev_call3 (P := rI m) (P1 := r2 rI rI (tsum ln.1 (valN l), 1)) (P2 := rI ln.2) (post := fun a : Int × Int × Int => rB (decide ((a.2.1 - a.2.2).fmod a.1 = 0))) (m, tsum ln.1 (valN l), ln.2) (ev_vi rfl) (ev_call3 (P := rI m) (P1 := rL rTL ln.1) (P2 := rPD P w l) (post := fun a : ToA => r2 rI rI (tsum a.ts (valN a.l), 1)) (⟨m, ln.1, l⟩ : ToA) (ev_vi rfl) (ev_var rfl q1) (ev_var rfl hv') fun v1 v2 v3 G' _ p1 p2 p3 => ⟨⟨v2, v3, by rw [show v1 = .int _ from p1], p2, p3⟩, hok⟩) (ev_vi rfl) fun v1 v2 v3 G' _ p1 p2 p3 => ⟨⟨v2, by rw [show v1 = .int _ from p1, show v3 = .int _ from p3], p2⟩, hok.m⟩))) e'.s (fun hb G3 H3 e3 => ?_) (fun hb G3 H3 e3 => ?_)
    · refine s_ret (P := rB (MeA.b ⟨m, lns, l⟩)) (EvP.tr ev_bl ?_) e3.s fun v G4 H4 e4 p4 => k v G4 H4 (((e0'.trans e').trans e3).trans e4) p4
      unfold MeA.b
      symm
      cases h : lns.all fun ln => decide ((tsum ln.1 (valN l) - ln.2).fmod m = 0) with
      | false => rfl
      | true =>
        have := List.all_eq_true.mp h ln hmem
        rw [this] at hb
        cases hb
    · refine ⟨G3, (s0.trans e'.g).trans e3.g, (e0'.trans e').trans e3, _, _, rfl, ?_⟩
      rw [take_snoc hi, List.all_append, hall]
      rw [List.getElem?_eq_getElem hi] at hk
      rw [Option.some.inj hk]
      simpa using hb
  · obtain ⟨y, z, rfl, hall⟩ := j
    rw [List.take_length] at hall
    exact s_ret (P := rB (MeA.b ⟨m, lns, l⟩)) (EvP.tr ev_bl hall.symm) e2.s fun v G4 H4 e4 p4 => k v G4 H4 (e2.trans e4) p4
/-! ### the search -/
/-- all rows of so many numbers below m -/
def cart (m : Nat) : Nat → List (List Int)
  | 0 => [[]]
  | n + 1 => (cart m n).flatMap fun row => (upTo 0 m).map fun o => row ++ [o]
theorem cart_len (m : Nat) : ∀ n, (cart m n).length = m ^ n
  | 0 => rfl
  | n + 1 => by
    show ((cart m n).flatMap _).length = _
    have : ∀ l : List (List Int), (l.flatMap fun row => (upTo 0 m).map fun o => row ++ [o]).length = l.length * m := by
      intro l
      induction l with
      | nil => simp
      | cons a l ih => rw [List.flatMap_cons, List.length_append, ih, List.length_map, upTo_len, List.length_cons, Nat.succ_mul]; omega
    rw [this, cart_len m n, Nat.pow_succ]
theorem mem_cart {m : Nat} : ∀ {n : Nat} {row : List Int}, row ∈ cart m n ↔ row.length = n ∧ ∀ x ∈ row, 0 ≤ x ∧ x < m
  | 0, row => by
    show row ∈ [[]] ↔ _
    rw [List.mem_singleton]
    exact ⟨fun e => by subst e; exact ⟨rfl, fun x h => nomatch h⟩, fun h => List.length_eq_zero_iff.mp h.1⟩
  | n + 1, row => by
    show row ∈ (cart m n).flatMap _ ↔ _
    rw [List.mem_flatMap]
    constructor
    · rintro ⟨a, ha, h⟩
      rw [mem_cart] at ha
      obtain ⟨o, ho, rfl⟩ := List.mem_map.mp h
      unfold upTo at ho
      obtain ⟨i, hi, rfl⟩ := List.mem_map.mp ho
      have hi := List.mem_range.mp hi
      refine ⟨by rw [List.length_append, ha.1]; rfl, fun x hx => ?_⟩
      rcases List.mem_append.mp hx with h | h
      · exact ha.2 x h
      · rw [List.mem_singleton.mp h]; omega
    · intro ⟨h1, h2⟩
      have hne : row ≠ [] := fun e => by subst e; cases h1
      have e := List.dropLast_concat_getLast hne
      refine ⟨row.dropLast, mem_cart.mpr ⟨by rw [List.length_dropLast, h1]; rfl, fun x hx => h2 x (by rw [← e]; exact List.mem_append_left _ hx)⟩, List.mem_map.mpr ⟨row.getLast hne, ?_, e⟩⟩
      have := h2 _ (List.getLast_mem hne)
      unfold upTo
      exact List.mem_map.mpr ⟨(row.getLast hne).toNat, List.mem_range.mpr (by omega), by omega⟩
theorem getN_zip : ∀ {ks : List Pl} {row : List Int} {p : Pl}, p ∈ ks → row.length = ks.length → ∃ v ∈ row, getN (ks.zip row) p = some v
  | [], _, _, h, _ => nomatch h
  | k :: ks, [], _, _, h => by cases h
  | k :: ks, x :: row, p, h, hl => by
    rw [List.zip_cons_cons]
    by_cases e : k = p
    · exact ⟨x, List.mem_cons_self .., getN_pos e⟩
    · obtain ⟨v, hv, h2⟩ := getN_zip (row := row) ((List.mem_cons.mp h).resolve_left fun z => e z.symm) (Nat.succ.inj hl)
      exact ⟨v, List.mem_cons_of_mem _ hv, by rw [getN_neg e]; exact h2⟩
theorem getN_zipf {ks : List Pl} (f : Pl → Int) {p : Pl} (h : p ∈ ks) : getN (ks.zip (ks.map f)) p = some (f p) := by
  induction ks with
  | nil => cases h
  | cons k ks ih =>
    rw [List.map_cons, List.zip_cons_cons]
    by_cases e : k = p
    · rw [getN_pos e, ← e]
    · rw [getN_neg e]
      exact ih ((List.mem_cons.mp h).resolve_left fun z => e z.symm)
theorem tsum_mod {m : Int} {ts : List (Int × Pl)} {y z : Pl → Int} (h : ∀ t ∈ ts, m ∣ y t.2 - z t.2) : m ∣ tsum ts y - tsum ts z := by
  unfold tsum
  induction ts with
  | nil => exact ⟨0, by show (0 : Int) - 0 = m * 0; omega⟩
  | cons t ts ih =>
    obtain ⟨a, ha⟩ := ih fun t ht => h t (List.mem_cons_of_mem _ ht)
    obtain ⟨b, hb⟩ := h t (List.mem_cons_self ..)
    rw [List.map_cons, List.map_cons, List.sum_cons, List.sum_cons]
    exact ⟨t.1 * b + a, by grind⟩
theorem lsat_iff {m : Int} (hm : 2 ≤ m) {ks : List Pl} {lns : List LLine} (hk : ∀ ln ∈ lns, ∀ t ∈ ln.1, t.2 ∈ ks) : (∃ row ∈ cart m.toNat ks.length, (MeA.mk m lns (ks.zip row)).b = true) ↔ LSat m lns := by
  constructor
  · rintro ⟨row, _, h⟩
    refine ⟨valN (ks.zip row), fun ln hl => ?_⟩
    exact Int.dvd_of_fmod_eq_zero (of_decide_eq_true (List.all_eq_true.mp h ln hl))
  · rintro ⟨y, h⟩
    refine ⟨ks.map fun p => (y p).fmod m, mem_cart.mpr ⟨by rw [List.length_map], fun x hx => ?_⟩, ?_⟩
    · obtain ⟨p, _, rfl⟩ := List.mem_map.mp hx
      have := fmod_in (m := m) (by omega) (y p)
      omega
    · unfold MeA.b
      rw [List.all_eq_true]
      intro ln hl
      refine decide_eq_true ?_
      have h1 := h ln hl
      have h2 := tsum_mod (m := m) (ts := ln.1) (y := valN (ks.zip (ks.map fun p => (y p).fmod m))) (z := y) fun t ht => by
        unfold valN
        rw [getN_zipf _ (hk ln hl t ht)]
        exact fmod_dvd (y t.2) m
      have h3 : m ∣ tsum ln.1 (valN (ks.zip (ks.map fun p => (y p).fmod m))) - ln.2 := by
        obtain ⟨a, ha⟩ := h1
        obtain ⟨b, hb⟩ := h2
        exact ⟨a + b, by grind⟩
      exact Int.fmod_eq_zero_of_dvd h3
/-- a list that has items just if E holds -/
def rLen (E : Prop) : V → Hp → Prop := fun v G => ∃ a xs, v = .ref a ∧ G a = some (.lst xs) ∧ (0 < xs.length ↔ E)
instance {E : Prop} : MnP (rLen E) := ⟨fun s ⟨a, xs, e, h, q⟩ => ⟨a, xs, e, s _ _ h, q⟩⟩
structure SeArg where
  m : Int
  ks : List Pl
  lns : List LLine
theorem ev_listRg {σ : St} {G : Hp} {te : TE} {n : Nat} (h : EvP te σ G (rI (n : Int))) (hn : n ≤ 1000) : EvP (tLstRg (tRg1 te)) σ G (rL rI (upTo 0 n)) := fun H s Q q =>
  h H s _ fun v G1 H1 e1 p1 => ⟨n, p1, RgOk.of_le (by omega) (by omega) (by omega) (by omega), fun p hp => q _ _ _ (e1.trans (Ext.new e1.s hp)) ⟨p, _, rfl, upd_same, by
    rw [all2_ints]
    unfold rgV upTo
    rw [List.map_map, show ((n : Int) - 0).toNat = n by omega]
    rfl⟩⟩
theorem pe_dictZipNK {X : Cx} {P : Program} {w : World} {K : PySem.W.Frag} {e1 e2 : Expr} {ta : TA} {p p2 pos pos2 : Pos} (h1 : X.prog = P) (h2 : X.w = w) (h3 : X.K = K) (hu : X.A.units + 64 < cLine) (hc : X.calm = true) (hg : Gl X "dict") (hm : X.mg "dict" = none) (hg2 : Gl X "zip") (hm2 : X.mg "zip" = none) (ha : PA X [e1, e2] ta)
    (hs1 : starEach [.Call (.Name "zip" p2) [e1, e2] [] pos2] X.env = [(false, eval (.Call (.Name "zip" p2) [e1, e2] [] pos2) X.env)] := by rfl)
    (hs : starEach [e1, e2] X.env = (false, eval e1 X.env) :: starEach [e2] X.env := by rfl) (hpl : (backTo pos2 (starEach [e2] X.env)).any (·.1) = false := by rfl) :
    PE X (.Call (.Name "dict" p) [.Call (.Name "zip" p2) [e1, e2] [] pos2] [] pos) (tDictZipN P w K ta) := h1 ▸ h2 ▸ h3 ▸ pe_dictZipN hu hc hg hm hg2 hm2 ha hs1 hs hpl
abbrev N__law_search : List Str := ["_law_world", "_law_keys", "_law_kept", "_law_lines_here", "_law_found", "_law_key", "_law_rows_here", "_law_choices", "_law_longer", "_law_row", "_law_told", "_law_one"]
theorem sc__law_search : FnScope N__law_search ["_law_world", "_law_keys", "_law_kept", "_law_lines_here"] (defScope s__law_search) := ⟨rfl, rfl, rfl, by decide +kernel, rfl, by decide +kernel, by decide +kernel⟩
abbrev sp__law_search (P : Program) (w : World) : Sp := pSp (fun (a : SeArg) vs G => (∃ u v l, vs = [.int a.m, u, v, l] ∧ rL rPl a.ks u G ∧ rPD P w [] v G ∧ rL rLn a.lns l G) ∧ (2 ≤ a.m ∧ a.m ≤ 5) ∧ a.ks.Nodup ∧ a.ks.length ≤ 100 ∧ a.m.toNat ^ a.ks.length ≤ 1000 ∧ ∀ ln ∈ a.lns, ∀ t ∈ ln.1, t.2 ∈ a.ks ∧ sml t.1 = true) (fun a => rLen (LSat a.m a.lns))
theorem take_flatF {α β : Type} {f : α → List β} {l : List α} {i : Nat} {x : α} (h : l[i]? = some x) : (l.take (i + 1)).flatMap f = (l.take i).flatMap f ++ f x := by
  have hi := (List.getElem?_eq_some_iff.mp h).1
  rw [take_snoc hi, List.flatMap_append, List.flatMap_cons, List.flatMap_nil, List.append_nil]
  rw [List.getElem?_eq_getElem hi] at h
  rw [Option.some.inj h]
theorem cart_take (m n i : Nat) : (((cart m n).take i).flatMap fun row => (upTo 0 m).map fun o => row ++ [o]).length ≤ m ^ (n + 1) := by
  have : ∀ l : List (List Int), (l.flatMap fun row => (upTo 0 m).map fun o => row ++ [o]).length = l.length * m := by
    intro l
    induction l with
    | nil => simp
    | cons a l ih => rw [List.flatMap_cons, List.length_append, ih, List.length_map, upTo_len, List.length_cons, Nat.succ_mul]; omega
  rw [this, List.length_take, cart_len, Nat.pow_succ]
  exact Nat.mul_le_mul_right _ (Nat.min_le_right _ _)
theorem rLen_of {δ : Type} {R : δ → V → Hp → Prop} {ds : List δ} {E : Prop} {v : V} {G : Hp} (h : rL R ds v G) (e : 0 < ds.length ↔ E) : rLen E v G := by
  obtain ⟨a, xs, rfl, h, al⟩ := h
  exact ⟨a, xs, rfl, h, by rw [al.length]; exact e⟩
theorem has__law_search (C : Ctx K mg) : Has P w K mg base "_law_search" ["_law_world", "_law_keys", "_law_kept", "_law_lines_here"] 3 (sp__law_search P w) := by
  obtain ⟨fd, F⟩ := C.d__law_search
  refine has_pure F C.g__law_search sc__law_search (fun _ _ _ _ _ _ us hl => match us, hl with | [_, _, _, _], _ => rfl) (fun a vs G h => by obtain ⟨⟨u, v, l, rfl, _⟩, _⟩ := h; rfl) (fun cdv A outer s H vs Q E hr a G sG hp k => ?_)
  have hu := hu_of hr
  refine ⟨_, (pss_cons (ps_set (i := 4) sc__law_search.nd rfl (Or.inl rfl) (pe_lst pa_nil))
  (pss_cons (ps_for PassesOwn.never (by rfl) (pi_list (pv 1)) (pg_name (i := 5) sc__law_search.nd rfl (Or.inl rfl))
    (pss_one (ps_expr (pe_bm PySem.F.plainAttrs_list PySem.F.slot_list_append PySem.F.type_list_append mt_append (pv 4) (pa_cons (pe_ifExp (pt_cmp (pc_ndin hr.units (pv 5) (pv 2))) (pe_lst (pa_cons (pe_ndget hr.units (pv 2) (pv 5) (fun _ _ => rfl)) pa_nil)) (pe_listRg rfl (by rfl) C.f_list (prg_1 (by rfl) C.f_range (pv 0)))) pa_nil)))))
  (pss_cons (ps_set (i := 6) sc__law_search.nd rfl (Or.inl rfl) (pe_lst (pa_cons (pe_tup pa_nil) pa_nil)))
  (pss_cons (ps_for PassesOwn.never (by rfl) (pi_list (pv 4)) (pg_name (i := 7) sc__law_search.nd rfl (Or.inl rfl))
    (pss_cons (ps_set (i := 8) sc__law_search.nd rfl (Or.inl rfl) (pe_lst pa_nil))
  (pss_cons (ps_for PassesOwn.never (by rfl) (pi_list (pv 6)) (pg_name (i := 9) sc__law_search.nd rfl (Or.inr rfl))
    (pss_one (ps_expr (pe_bm PySem.F.plainAttrs_list PySem.F.slot_list_extend PySem.F.type_list_extend mt_extend (pv 8) (pa_cons (pe_lc (own := [("_law_one", 11)]) (by rfl) sc__law_search.nd (pi_list (pv 7)) (blkOk_by (own := [("_law_one", 11)]) (N := N__law_search) (sc := defScope s__law_search) (by decide +kernel)) (fun _ _ _ _ _ => (pg_name (i := 11) sc__law_search.nd rfl (Or.inl rfl))) (fun _ _ _ _ _ => pts_nil) (fun _ _ _ _ _ => (pe_op (op_catAK (K := K) rfl) (pv 9) (pe_tup (pa_cons (pv 11) pa_nil))))) pa_nil)))))
  (pss_one (ps_set (i := 6) sc__law_search.nd rfl (Or.inl rfl) (pv 8))))))
  (pss_cons (ps_setLc (i := 10) (own := [("_law_row", 9)]) (by rfl) sc__law_search.nd rfl rfl (sw_true rfl rfl rfl (by decide +kernel)) (pi_list (pv 6)) (blkOk_by (own := [("_law_row", 9)]) (N := N__law_search) (sc := defScope s__law_search) (by decide +kernel)) (fun _ _ _ _ _ => (pg_name (i := 9) sc__law_search.nd rfl (Or.inl rfl))) (fun _ _ _ _ _ => pts_nil) (fun _ _ _ _ _ => (pe_dictZipNK (P := P) (w := w) (K := K) rfl rfl rfl hr.units rfl (by rfl) C.f_dict (by rfl) C.f_zip (pa_cons (pv 1) (pa_cons (pv 9) pa_nil)))))
  (pss_one (ps_ret (pe_lc (own := [("_law_one", 11)]) (by rfl) sc__law_search.nd (pi_list (pv 10)) (blkOk_by (own := [("_law_one", 11)]) (N := N__law_search) (sc := defScope s__law_search) (by decide +kernel)) (fun _ _ _ _ _ => (pg_name (i := 11) sc__law_search.nd rfl (Or.inl rfl))) (fun _ _ _ _ _ => (pts_one (pt_val (pe_callH (has__law_meets (P := P) (w := w) (base := base) C) hr (by decide) rfl (pa_cons (pv 0) (pa_cons (pv 3) (pa_cons (pv 11) pa_nil))))))) (fun _ _ _ _ _ => (pv 11)))))))))), ?_⟩
  obtain ⟨m, ks, lns⟩ := a
  obtain ⟨⟨u, v, l, rfl, hu', hv, hl'⟩, hm, nd, hkl, hpow, hln⟩ := hp
  dsimp only at hu' hv hl' hm nd hkl hpow hln
  obtain ⟨n, rfl⟩ : ∃ n : Nat, m = n := ⟨m.toNat, by omega⟩
  rw [Int.toNat_natCast] at hpow
  have hn : 2 ≤ n ∧ n ≤ 5 := by omega
  refine q_asgN (en_l0 (R := rL rI)) sG fun l0 o G1 H1 e1 hl0 gl0 hol ol => ?_
  obtain ⟨xs0, rfl, al0⟩ := ol
  cases al0
  refine q_for (Gb := G) (Hb := H) e1 (ei_list (R := rPl) (ds := ks) (ev_var rfl (mn e1.g hu'))) (fun i σ' G' H' => ∃ y xs, σ' = [some (.int n), some u, some v, some l, some (.ref l0), y, none, none, none, none, none, none] ∧ H' l0 = some (.lst xs) ∧ G' l0 = none ∧ All2 (rL rI) G' xs (List.replicate i (upTo 0 n)))
    (fun G2 H2 e2 => ⟨none, [], rfl, e2.h _ _ hol, e2.f l0 (by rw [hol]; exact fun z => nomatch z) gl0, .nil⟩) (fun G2 sG2 i p v' σ' G0 H0 G' H' hk s0 e0' j e' r => ?_) (fun G2 σ' G' H' sG2 s2 e2 j => ?_)
  · obtain ⟨y, xs, rfl, hx, gx, al⟩ := j
    have hx' := e'.h _ _ hx
    have gx' := e'.f l0 (by rw [hx]; exact fun z => nomatch z) gx
    have hi := (List.getElem?_eq_some_iff.mp hk).1
    refine eg_name _ e'.s _ ?_
    refine s_app hx' (ev_var rfl rfl) (ev_if (P := rL rI (upTo 0 n)) (b := false) (et_val (ev_ndin (k := p) (l := []) (ev_var rfl r) (ev_var rfl (mn ((e1.g.trans sG2).trans (s0.trans e'.g)) hv)))) (fun h => by cases h) (fun _ => ev_listRg (ev_vi rfl) (by omega))) e'.s ?_ fun v5 G5 H5 e5 p5 h5 => ?_
    · have h1 := al.length
      rw [List.length_replicate] at h1
      exact small1000 (by omega)
    · have gx5 := e5.f l0 (by rw [hx']; exact fun z => nomatch z) gx'
      refine ⟨G5, (s0.trans e'.g).trans e5.g, ((e0'.trans e').trans e5).upd hl0 gx5, _, _, rfl, upd_same, gx5, ?_⟩
      rw [List.replicate_succ']
      exact (al.mono (e'.g.trans e5.g)).snoc p5
  · obtain ⟨y, xs, rfl, hx, gx, al⟩ := j
    have e3 := e2.know hl0 gx hx
    have hfound : rL (rL rI) (List.replicate ks.length (upTo 0 n)) (.ref l0) (L2.upd G' l0 (.lst xs)) := ⟨l0, xs, rfl, upd_same, al.mono (Same.new gx)⟩
    refine q_asg (P := rL (rT rI) (cart n 0)) (ev_l1 (R := rT rI) (x := []) ev_tT0) e3.s fun v0 G3 H3 e4 p4 => ?_
    refine q_for (Gb := G) (Hb := H) (e3.trans e4) (ei_list (R := rL rI) (ds := List.replicate ks.length (upTo 0 n)) (ev_var rfl (mn e4.g hfound))) (fun i σ' G' H' => ∃ a b c d, σ' = [some (.int n), some u, some v, some l, some (.ref l0), y, some a, b, c, d, none, none] ∧ rL (rT rI) (cart n i) a G')
      (fun G5 H5 e5 => ⟨v0, none, none, none, rfl, mn e5.g p4⟩) (fun G5 sG5 i us v' σ' G6 H6 G7 H7 hk s6 e6 j e7 r => ?_) (fun G5 σ' G7 H7 sG5 s7 e7 j => ?_)
    · obtain ⟨a, b, c, d, rfl, ha⟩ := j
      have hi := (List.getElem?_eq_some_iff.mp hk).1
      rw [List.length_replicate] at hi
      have hus : us = upTo 0 n := List.eq_of_mem_replicate (List.mem_of_getElem? hk)
      subst hus
      have hcl : n ^ (i + 1) ≤ 1000 := Nat.le_trans (Nat.pow_le_pow_right (by omega) (by omega)) hpow
      refine eg_name _ e7.s _ ?_
      refine q_asgN (en_l0 (R := rT rI)) e7.s fun l1 o G8 H8 e8 hl1 gl1 hol1 ol1 => ?_
      obtain ⟨xs1, rfl, al1⟩ := ol1
      cases al1
      have hlb : H l1 = none := (e6.trans e7).h.free hl1
      have e08 := (e6.trans e7).trans e8
      refine q_for (Gb := G) (Hb := H) e08 (ei_list (R := rT rI) (ds := cart n i) (ev_var rfl (mn (e7.g.trans e8.g) ha))) (fun j σ' G' H' => ∃ q ys, σ' = [some (.int n), some u, some v, some l, some (.ref l0), y, some a, some v', some (.ref l1), q, none, none] ∧ H' l1 = some (.lst ys) ∧ G' l1 = none ∧ All2 (rT rI) G' ys (((cart n i).take j).flatMap fun row => (upTo 0 n).map fun o => row ++ [o]))
        (fun G9 H9 e9 => ⟨_, [], rfl, e9.h _ _ hol1, e9.f l1 (by rw [hol1]; exact fun z => nomatch z) gl1, .nil⟩) (fun G9 sG9 j row rv σ' Ga Ha Gb Hb hkb sa ea jj eb rb => ?_) (fun G9 σ' Ga Ha sG9 sa ea jj => ?_)
      · obtain ⟨q, ys, rfl, hx, gx, al⟩ := jj
        have hx' := eb.h _ _ hx
        have gx' := eb.f l1 (by rw [hx]; exact fun z => nomatch z) gx
        have hjl := (List.getElem?_eq_some_iff.mp hkb).1
        have hrl := (mem_cart.mp (List.mem_of_getElem? hkb)).1
        refine eg_name _ eb.s _ ?_
        refine s_ext hx' (ev_var rfl rfl) (ev_lcm (R := rI) (S := rT rI) (fun o => row ++ [o]) (ei_list (ev_var (P := rL rI (upTo 0 n)) rfl (mn (e8.g.trans (sG9.trans (sa.trans eb.g))) r))) (small1000 (by rw [upTo_len]; omega)) fun o ov Gc ho sc rc => ?_) eb.s ?_ fun zs Gc Hc ec alc hc => ?_
        · cases (show ov = .int o from rc)
          refine ⟨_, eg_name, rfl, ev_catT (ev_var rfl (mn sc rb)) (ev_tT1 (ev_vi rfl)) ?_⟩
          rw [hrl, sizeLine_eq]
          show i + 1 ≤ _
          omega
        · have h1 := al.length
          have h2 := cart_take n i (j + 1)
          rw [take_flatF hkb, List.length_append] at h2
          rw [h1, sizeLine_eq]
          omega
        · have gx8 := ec.f l1 (by rw [hx']; exact fun z => nomatch z) gx'
          refine ⟨Gc, (sa.trans eb.g).trans ec.g, ((ea.trans eb).trans ec).upd hlb gx8, _, _, rfl, upd_same, gx8, ?_⟩
          rw [take_flatF hkb]
          exact (al.mono (eb.g.trans ec.g)).append alc
      · obtain ⟨q, ys, rfl, hx, gx, al⟩ := jj
        rw [List.take_length] at al
        have eb := ea.know hlb gx hx
        refine s_asg (P := rL (rT rI) (cart n (i + 1))) (ev_var rfl ⟨l1, ys, rfl, upd_same, al.mono (Same.new gx)⟩) eb.s fun vc Gc Hc ec pc => ⟨Gc, ((((s6.trans e7.g).trans e8.g).trans (sG9.trans sa)).trans (Same.new gx)).trans ec.g, eb.trans ec, vc, _, _, _, rfl, pc⟩
    · obtain ⟨a, b, c, d, rfl, ha⟩ := j
      rw [List.length_replicate] at ha
      have hcl : (cart n ks.length).length ≤ 1000 := by rw [cart_len]; exact hpow
      have hsG : Same G G7 := e7.g
      refine q_asg (P := rL (rPD P w) ((cart n ks.length).map ks.zip)) (ev_lcm (R := rT rI) (S := rPD P w) (fun row => ks.zip row) (ei_list (ev_var rfl ha)) (small1000 hcl) fun row rv G8 hrow s8 r8 => ⟨_, eg_name, rfl, ev_dictZipN (ev_var rfl (mn (hsG.trans s8) hu')) (ev_var rfl r8) nd (mem_cart.mp hrow).1.symm⟩) e7.s fun v8 G8 H8 e8 p8 => ?_
      refine s_ret (P := rLen (LSat n lns)) (EvP.imp (ev_lc (R := rPD P w) (S := rPD P w) (fun z => MeA.b ⟨n, lns, z⟩) id (ei_list (ev_var rfl p8)) (small1000 (by rw [List.length_map]; exact hcl)) fun z zv G9 hz s9 r9 => ⟨_, eg_name, rfl, et_val (ev_call3 (P := rI (n : Int)) (P1 := rL rLn lns) (P2 := rPD P w z) (post := fun a : MeA => rB a.b) (⟨n, lns, z⟩ : MeA) (ev_vi rfl) (ev_var rfl (mn ((hsG.trans e8.g).trans s9) hl')) (ev_var rfl r9) fun v1 v2 v3 G' _ p1 p2 p3 => ⟨⟨v2, v3, by rw [show v1 = .int _ from p1], p2, p3⟩, ?_⟩), fun _ => ev_var rfl r9⟩) fun v G' _ h => rLen_of h ?_) e8.s fun v G3 H3 e4 p4 => k v G3 H3 ((e7.trans e8).trans e4) p4
      · obtain ⟨row, hrow, rfl⟩ := List.mem_map.mp hz
        have hrow := mem_cart.mp hrow
        refine fun ln hl => ⟨by show (2 : Int) ≤ n; omega, fun t ht => ⟨(hln ln hl t ht).2, ?_⟩⟩
        obtain ⟨x, hx, hg⟩ := getN_zip (row := row) (hln ln hl t ht).1 hrow.1
        have := hrow.2 x hx
        exact ⟨x, hg, sml_of this (by omega)⟩
      · rw [List.map_id, ← lsat_iff (by omega) (fun ln hl t ht => (hln ln hl t ht).1), List.length_pos_iff_exists_mem]
        constructor
        · rintro ⟨z, hz⟩
          obtain ⟨h1, h2⟩ := List.mem_filter.mp hz
          obtain ⟨row, hrow, rfl⟩ := List.mem_map.mp h1
          exact ⟨row, by rw [Int.toNat_natCast]; exact hrow, h2⟩
        · rintro ⟨row, hrow, hb⟩
          rw [Int.toNat_natCast] at hrow
          exact ⟨_, List.mem_filter.mpr ⟨List.mem_map_of_mem hrow, hb⟩⟩
end
end Eld
set_option maxRecDepth 100000
set_option maxHeartbeats 1000000
/-! The law's own defs: form, forms, most, folk, equations. -/
namespace Eld
open PySem PySem.Spec PyProof.Rows L2
theorem op_eqDK {X : Cx} {K : PySem.W.Frag} (hk : X.K = K) (hu : X.A.units + 64 < cLine) : OpR X (compareOp .Eq) (rEqD K) := hk ▸ op_eqD hu
/-! plain data -/
structure Okd (n : Nat) (d : PyData) : Prop where
  l : d.canLay0 = true
  p : pl0 d = true
  t : d.depth ≤ n
theorem okd_int {n : Nat} (i : Int) : Okd n (.int i) := ⟨rfl, rfl, Nat.zero_le _⟩
theorem okd_str {n : Nat} {x : Str} (h : PyData.strOk x = true) : Okd n (.str x) := ⟨h, rfl, Nat.zero_le _⟩
theorem okd_all {n : Nat} : ∀ {xs : List PyData}, (∀ x ∈ xs, Okd n x) → PyData.canLayAll0 xs = true ∧ pl0s xs = true ∧ PyData.depthAll xs ≤ n
  | [], _ => ⟨rfl, rfl, Nat.zero_le _⟩
  | x :: xs, h => by
    obtain ⟨a, b, c⟩ := h x (List.mem_cons_self ..)
    obtain ⟨a', b', c'⟩ := okd_all fun y hy => h y (List.mem_cons_of_mem _ hy)
    refine ⟨by unfold PyData.canLayAll0; rw [a, a']; rfl, by unfold pl0s; rw [b, b']; rfl, ?_⟩
    unfold PyData.depthAll
    omega
theorem okd_L {n : Nat} {xs : List PyData} (h : ∀ x ∈ xs, Okd n x) : Okd (n + 1) (.list xs) := by
  obtain ⟨a, b, c⟩ := okd_all h
  exact ⟨a, b, by unfold PyData.depth; omega⟩
theorem okd_T {n : Nat} {xs : List PyData} (h : ∀ x ∈ xs, Okd n x) : Okd (n + 1) (.tuple xs) := by
  obtain ⟨a, b, c⟩ := okd_all h
  exact ⟨a, b, by unfold PyData.depth; omega⟩
theorem okd_2 {n : Nat} {x y : PyData} (h : Okd n x) (h' : Okd n y) : Okd (n + 1) (.tuple [x, y]) := okd_T fun z hz => by
  rcases List.mem_cons.mp hz with rfl | hz
  · exact h
  · rw [List.mem_singleton.mp hz]; exact h'
theorem Okd.shaped {n : Nat} {d : PyData} (h : Okd n d) (hn : n ≤ 64) : SeqAt.shaped d = true := by
  unfold SeqAt.shaped
  rw [h.l, decide_eq_true (Nat.le_trans h.t hn)]
  rfl
def pyPl (p : Pl) : PyData := .tuple [.str p.1, .tuple (p.2.map .str)]
theorem strs_inj {a b : List Str} (h : a.map PyData.str = b.map PyData.str) : a = b := by
  induction a generalizing b with
  | nil => cases b with
    | nil => rfl
    | cons y b => cases h
  | cons x a ih => cases b with
    | nil => cases h
    | cons y b =>
      rw [List.map_cons, List.map_cons] at h
      injection h with h1 h2
      injection h1 with h1
      rw [h1, ih h2]
theorem pyPl_inj {p q : Pl} (h : pyPl p = pyPl q) : p = q := by
  unfold pyPl at h
  injection h with h
  injection h with h1 h2
  injection h1 with h1
  injection h2 with h2 _
  injection h2 with h2
  exact Prod.ext h1 (strs_inj h2)
def OkPl (p : Pl) : Prop := PyData.strOk p.1 = true ∧ ∀ x ∈ p.2, PyData.strOk x = true
theorem OkPl.okd {p : Pl} (h : OkPl p) : Okd 2 (pyPl p) := okd_2 (okd_str h.1) (okd_T fun z hz => by
  obtain ⟨x, hx, rfl⟩ := List.mem_map.mp hz
  exact okd_str (n := 0) (h.2 x hx))
theorem smallS_ok : PyData.strOk smallS = true := by decide +kernel
theorem okPl_dig {lab : Str} (h : OfS lab smallS) {r : List Nat} (hr : ∀ i ∈ r, i < 10) : OkPl (lab, r.map dig) := ⟨ofS_ok h smallS_ok, fun x hx => by
  obtain ⟨i, hi, rfl⟩ := List.mem_map.mp hx
  exact strOk_dig i (List.mem_range.mpr (hr i hi))⟩
theorem cut8 : ∀ n ∈ List.range 9, signs (cutS "01234567" none (some ((n : Nat) : Int))) = folk n := by decide +kernel
section
variable {P : Program} {w : World} {K : PySem.W.Frag} {mg : Str → Option Value} {base : Heap}
theorem dp_pl {K : PySem.W.Frag} {G : Hp} {p : Pl} {v : V} (h : rPl p v G) : Dp K G v (pyPl p) := dp_2 (f := PyData.str) (g := fun r : List Str => PyData.tuple (r.map PyData.str)) h (fun x => dp_s) fun x hx => dp_T hx fun d x => dp_s
def pAll {δ : Type} (R : δ → V → Hp → Prop) (ds : List δ) : List V → Hp → Prop := fun vs G => All2 R G vs ds
section
variable {σ : St} {G : Hp} {te : TE} {ta : TA} {δ : Type} {R : δ → V → Hp → Prop}
theorem EvA.mono [∀ d, MnP (R d)] {ds : List δ} {G1 : Hp} (s : Same G G1) (h : EvA ta σ G (pAll R ds)) : EvA ta σ G1 (pAll R ds) := fun H sH Q q =>
  h H (s.trans sH) Q fun vs G' H' e p => q vs _ H' (e.lift s sH) (p.mono uni_l)
theorem eas_nil : EvA tNil σ G (pAll R []) := fun H s Q q => q [] G H (Ext.refl s) .nil
theorem eas_cons [∀ d, MnP (R d)] {x : δ} {ds : List δ} (h : EvP te σ G (R x)) (hr : EvA ta σ G (pAll R ds)) : EvA (tCons te ta) σ G (pAll R (x :: ds)) := fun H s Q q =>
  ea_cons (P := R x) (PP := pAll R ds) h (fun G' s => hr.mono s) H s Q fun vs G' H' e p => q vs G' H' e (by
    obtain ⟨v, vs', rfl, p1, p2⟩ := p
    exact .cons p1 p2)
theorem ev_tA [∀ d, MnP (R d)] {ds : List δ} (h : EvA ta σ G (pAll R ds)) (hz : ds.length ≤ sizeLine) : EvP (tTup ta) σ G (rT R ds) :=
  ev_tupA h (fun vs _ p => by rw [All2.length p]; exact hz) fun vs a G' s p n => ⟨a, vs, rfl, upd_same, All2.mono (Same.new n) p⟩
theorem ev_lA [∀ d, MnP (R d)] {ds : List δ} (h : EvA ta σ G (pAll R ds)) (hz : ds.length ≤ sizeLine) : EvP (tLst ta) σ G (rL R ds) :=
  ev_lstA h (fun vs _ p => by rw [All2.length p]; exact hz) fun vs a G' s p n => ⟨a, vs, rfl, upd_same, All2.mono (Same.new n) p⟩
end
abbrev N__law_form : List Str := ["_law_place", "_law_ranks", "_law_one"]
theorem sc__law_form : FnScope N__law_form ["_law_place"] (defScope s__law_form) := ⟨rfl, rfl, rfl, by decide +kernel, rfl, by decide +kernel, by decide +kernel⟩
abbrev sp__law_form : Sp := pSp (fun (a : Str × List Nat) vs G => (∃ v, vs = [v] ∧ rPl (a.1, a.2.map dig) v G) ∧ a.2.length ≤ 2 ∧ a.2 ∈ arr (List.range 3) a.2.length) (fun a => rPl (a.1, (rank a.2).map dig))
theorem has__law_form (C : Ctx K mg) : Has P w K mg base "_law_form" ["_law_place"] 1 sp__law_form := by
  obtain ⟨fd, F⟩ := C.d__law_form
  refine has_pure F C.g__law_form sc__law_form (fun _ _ _ _ _ _ us hl => match us, hl with | [_], _ => rfl) (fun a vs G h => by obtain ⟨⟨v, rfl, _⟩, _⟩ := h; rfl) (fun cdv A outer s H vs Q E hr a G sG hp k => ?_)
  have hu := hu_of hr
  refine ⟨_, (pss_cons (ps_set (i := 1) sc__law_form.nd rfl (Or.inr rfl) (pe_callB cr_sortedS (by rfl) C.f_sorted (by decide +kernel) (pa_cons (pe_lc (own := [("_law_one", 2)]) (by rfl) sc__law_form.nd (pi_tup (pe_ix ix_tup (pv 0) pe_int (fun _ _ => rfl))) (blkOk_by (own := [("_law_one", 2)]) (N := N__law_form) (sc := defScope s__law_form) (by decide +kernel)) (fun _ _ _ _ _ => (pg_name (i := 2) sc__law_form.nd rfl (Or.inl rfl))) (fun _ _ _ _ _ => (pts_one (pt_cmpR op_in_sign (pv 2) pe_str (by rfl)))) (fun _ _ _ _ _ => (pv 2))) pa_nil)))
  (pss_one (ps_ret (pe_tup (pa_cons (pe_ix ix_tup (pv 0) pe_int (fun _ _ => rfl)) (pa_cons (pe_callTy call_tuple_of (by rfl) C.f_tuple (by decide +kernel) (pa_cons (pe_lc (own := [("_law_one", 2)]) (by rfl) sc__law_form.nd (pi_tup (pe_ix ix_tup (pv 0) pe_int (fun _ _ => rfl))) (blkOk_by (own := [("_law_one", 2)]) (N := N__law_form) (sc := defScope s__law_form) (by decide +kernel)) (fun _ _ _ _ _ => (pg_name (i := 2) sc__law_form.nd rfl (Or.inl rfl))) (fun _ _ _ _ _ => pts_nil) (fun _ _ _ _ _ => (pe_ifExp (pt_cmpR (op_in_seqK (K := K) rfl) (pv 2) (pv 1) (by rfl)) (pe_callTy call_str_int (by rfl) C.f_str (by decide +kernel) (pa_cons (pe_bmK (K := K) rfl PySem.F.plainAttrs_list PySem.F.slot_list_index PySem.F.type_list_index (mt_indexK (K := K) rfl) (pv 1) (pa_cons (pv 2) pa_nil)) pa_nil)) (pv 2)))) pa_nil)) pa_nil)))))), ?_⟩
  obtain ⟨lab, a⟩ := a
  obtain ⟨⟨v, rfl, hv⟩, hl, hr3⟩ := hp
  dsimp only at hv hl hr3
  have hz : (a.map dig).length < sizeLine := by rw [List.length_map]; exact small1000 (by omega)
  have hcom : ∀ i ∈ a, 48 + i ∈ ("0123456789" : Str).cps.toList := fun i hi => by
    have := List.mem_range.mp ((mem_arr.mp hr3).2.2 i hi)
    rcases (by omega : i = 0 ∨ i = 1 ∨ i = 2) with rfl | rfl | rfl <;> decide +kernel
  refine q_asg (P := fun v G => ∃ ys : List Str, ys.Perm (a.map dig) ∧ sortedS ys = true ∧ rL rS ys v G) (EvP.imp (ev_sortS (ds := a.map dig) (EvP.imp (ev_lc (R := rS) (S := rS) (fun _ => true) id (ei_tup (ev_snd (ev_var (P := rPl (lab, a.map dig)) rfl hv))) hz fun x xv G' hx s r => ?_) fun v G' _ h => ?_) (by rw [List.length_map]; omega)) fun v G' _ h => h) sG fun v1 G1 H1 e1 ⟨ys, y1, y2, p1⟩ => ?_
  · obtain ⟨i, hi, rfl⟩ := List.mem_map.mp hx
    exact ⟨_, eg_name, rfl, EvT.to (et_B (ev_inSign (c := 48 + i) (z := "0123456789") (ev_var rfl r) ev_str)) (decide_eq_true (hcom i hi)), fun _ => ev_var rfl r⟩
  · rw [List.filter_eq_self.mpr (fun _ _ => rfl), List.map_id] at h
    exact h
  obtain ⟨ks, rfl, h1⟩ : ∃ ks : List Nat, ys = ks.map dig ∧ ks.Perm a := by
    refine ⟨ys.map undig, ?_, ?_⟩
    · rw [List.map_map]
      refine ((List.map_congr_left fun y hy => ?_).trans (List.map_id ys)).symm
      obtain ⟨i, _, rfl⟩ := List.mem_map.mp (y1.mem_iff.mp hy)
      show dig (undig (dig i)) = dig i
      rw [undig_dig]
    · have := y1.map undig
      rwa [undig_map] at this
  have hks : ks ∈ arr (List.range 3) a.length := mem_arr.mpr ⟨h1.length_eq, h1.nodup_iff.mpr (mem_arr.mp hr3).2.1, fun x hx => (mem_arr.mp hr3).2.2 x (h1.mem_iff.mp hx)⟩
  have hv1 : rPl (lab, a.map dig) v G1 := mn e1.g hv
  refine s_ret (P := rPl (lab, (rank a).map dig)) (ev_t2 (R := rS) (S := rT rS) (x := lab) (y := (rank a).map dig) (ev_fst (ev_var (P := rPl (lab, a.map dig)) rfl hv1)) (ev_tupL (EvP.imp (ev_lcm (R := rS) (S := rS) (fun x => dig ((a.filter fun y => decide (y < undig x)).length)) (ei_tup (ev_snd (ev_var (P := rPl (lab, a.map dig)) rfl hv1))) hz fun x xv G' hx s r => ?_) fun v G' _ h => ?_))) e1.s fun v G' H' e p => k v G' H' (e1.trans e) p
  · obtain ⟨i, hi, rfl⟩ := List.mem_map.mp hx
    obtain ⟨m1, m2⟩ := rank_rows (by omega) hr3 hks (fun x hx => h1.mem_iff.mp hx) y2 hi
    refine ⟨_, eg_name, rfl, ev_if (EvT.to (et_B (ev_inL (x := dig i) (ss := ks.map dig) (ev_var rfl r) (ev_var rfl (mn s p1)))) (decide_eq_true (List.mem_map_of_mem m1))) (fun _ => EvP.imp (ev_strI (ev_idxL (ds := ks.map dig) (x := dig i) (j := ks.idxOf i) (ev_var rfl (mn s p1)) (ev_var rfl r) ?_ fun m hm hq => ?_) ?_) fun v G' _ p => ?_) fun h => nomatch h⟩
    · rw [List.getElem?_map, List.getElem?_eq_getElem (List.idxOf_lt_length_of_mem m1), List.getElem_idxOf]
      rfl
    · rw [List.getElem?_map] at hq
      cases hmm : ks[m]? with
      | none => rw [hmm] at hq; cases hq
      | some q =>
        rw [hmm] at hq
        have e : q = i := dig_inj (Option.some.inj hq)
        subst e
        obtain ⟨hlt, he⟩ := List.getElem?_eq_some_iff.mp hmm
        have := List.Nodup.idxOf_getElem (mem_arr.mp hks).2.1 m hlt
        rw [he] at this
        omega
    · have h5 : ks.idxOf i < 3 := by
        have := List.idxOf_lt_length_of_mem m1
        rw [(mem_arr.mp hks).1] at this
        omega
      rcases (by omega : ks.idxOf i = 0 ∨ ks.idxOf i = 1 ∨ ks.idxOf i = 2) with e | e | e <;> rw [e] <;> decide +kernel
    · have p : v = .str (toString ((ks.idxOf i : Nat) : Int)) := p
      have h5 : ks.idxOf i < 3 := by
        have := List.idxOf_lt_length_of_mem m1
        rw [(mem_arr.mp hks).1] at this
        omega
      rw [str_dig _ h5, m2] at p
      show v = .str (dig _)
      rw [undig_dig]
      exact p
  · rw [List.map_map] at h
    unfold rank
    rw [List.map_map]
    have e : ((fun x => dig ((a.filter fun y => decide (y < undig x)).length)) ∘ dig) = dig ∘ fun x => (a.filter fun y => decide (y < x)).length := funext fun i => by
      show dig _ = dig _
      rw [undig_dig]
    rw [e] at h
    exact h
theorem forms_eq (d : Dm) : (((arr (folk 3) d.s).map fun row => (d.lab, row)).filter fun pl => decide (fm pl = pl)) = d.forms := by
  unfold Dm.forms
  rw [arr_folk, List.map_map, List.filter_map]
  congr 1
  refine List.filter_congr fun r hr => ?_
  show decide (fm (d.lab, r.map dig) = (d.lab, r.map dig)) = _
  rw [fm_dig, decide_eq_decide]
  exact ⟨fun h => map_dig_inj (Prod.mk.inj h).2, fun h => by rw [h]⟩
abbrev N__law_forms : List Str := ["_law_tables", "_law_people", "_law_folk_here", "_law_place"]
theorem sc__law_forms : FnScope N__law_forms ["_law_tables", "_law_people"] (defScope s__law_forms) := ⟨rfl, rfl, rfl, by decide +kernel, rfl, by decide +kernel, by decide +kernel⟩
abbrev sp__law_forms : Sp := pSp (fun (d : Dm) vs G => (∃ u v, vs = [u, v] ∧ rTZ (rTb d.tb) u G ∧ rT rS [] v G) ∧ d.Ok) (fun d => rL rPl d.forms)
theorem has__law_forms (C : Ctx K mg) : Has P w K mg base "_law_forms" ["_law_tables", "_law_people"] 3 sp__law_forms := by
  obtain ⟨fd, F⟩ := C.d__law_forms
  refine has_pure F C.g__law_forms sc__law_forms (fun _ _ _ _ _ _ us hl => match us, hl with | [_, _], _ => rfl) (fun a vs G h => by obtain ⟨⟨u, v, rfl, _⟩, _⟩ := h; rfl) (fun cdv A outer s H vs Q E hr a G sG hp k => ?_)
  have hu := hu_of hr
  refine ⟨_, (pss_cons (ps_set (i := 2) sc__law_forms.nd rfl (Or.inl rfl) (pe_op op_cat (pe_lst (pa_cons pe_str (pa_cons pe_str (pa_cons pe_str pa_nil)))) (pe_callTy call_list_of (by rfl) C.f_list (by decide +kernel) (pa_cons (pv 1) pa_nil))))
  (pss_one (ps_ret (pe_lc (own := [("_law_place", 3)]) (by rfl) sc__law_forms.nd (pi_list (pe_callH (has__law_spots C) hr (by decide) rfl (pa_cons (pv 0) (pa_cons (pv 2) pa_nil)))) (blkOk_by (own := [("_law_place", 3)]) (N := N__law_forms) (sc := defScope s__law_forms) (by decide +kernel)) (fun _ _ _ _ _ => (pg_name (i := 3) sc__law_forms.nd rfl (Or.inl rfl))) (fun _ _ _ _ _ => (pts_one (pt_cmpR (op_eqDK (K := K) rfl hr.units) (pe_callH (has__law_form (P := P) (w := w) (base := base) C) hr (by decide) rfl (pa_cons (pv 3) pa_nil)) (pv 3) (nomark _)))) (fun _ _ _ _ _ => (pv 3)))))), ?_⟩
  obtain ⟨⟨u, v, rfl, hb, hv⟩, ok⟩ := hp
  have hs2 : a.s ≤ 2 := by rcases ok.s with h | h <;> omega
  have h64 : (arr (List.range 3) a.s).length ≤ 9 := Nat.le_trans (arr_len _ _) (by rw [List.length_range]; exact Nat.le_trans (Nat.pow_le_pow_right (by omega) hs2) (by decide))
  refine q_asg (P := rL rS (folk 3)) (EvP.imp (ev_catL (ds := folk 3) (es := []) (ev_lA (R := rS) (ds := [dig 0, dig 1, dig 2]) (eas_cons ev_str (eas_cons ev_str (eas_cons ev_str eas_nil))) (by rw [sizeLine_eq]; decide)) (ev_listT (ev_var rfl hv)) (by rw [sizeLine_eq]; decide)) fun v G' _ p => by rw [List.append_nil] at p; exact p) sG fun v1 G1 H1 e1 p1 => ?_
  refine s_ret (P := rL rPl a.forms) (EvP.imp (ev_lc (R := rPl) (S := rPl) (fun pl => decide (fm pl = pl)) id (ei_list (ev_call2 (P := rTZ (rTb a.tb)) (P1 := rL rS (folk 3)) (post := fun a : Dm × List Str => rL rPl ((arr a.2 a.1.s).map fun row => (a.1.lab, row))) (a, folk 3) (ev_var rfl (mn e1.g hb)) (ev_var rfl p1) fun v1 v2 G' _ p1 p2 => ⟨⟨v1, v2, rfl, p1, p2⟩, ok, by show (folk 3).length ≤ 8; rw [folk_len]; omega⟩)) (by show ((arr (folk 3) a.s).map fun row => (a.lab, row)).length < _; rw [List.length_map, arr_folk, List.length_map]; exact small1000 (by omega)) fun pl pv G' hpl s r => ?_) fun v G' _ h => ?_) e1.s fun v G3 H3 e4 p4 => k v G3 H3 (e1.trans e4) p4
  · obtain ⟨row, hrow, rfl⟩ := List.mem_map.mp hpl
    rw [arr_folk] at hrow
    obtain ⟨r0, hr0, rfl⟩ := List.mem_map.mp hrow
    have hr0' : r0 ∈ arr (List.range 3) a.s := hr0
    have hrl := (mem_arr.mp hr0').1
    have hrank := (rank_forms a.s (List.mem_range.mpr (by omega)) r0 hr0').1
    have hlt : ∀ r : List Nat, r ∈ arr (List.range 3) a.s → ∀ i ∈ r, i < 10 := fun r h i hi => by have := List.mem_range.mp ((mem_arr.mp h).2.2 i hi); omega
    have ok1 := (okPl_dig ok.lab (hlt _ hr0')).okd
    have ok2 := (okPl_dig ok.lab (hlt _ hrank)).okd
    refine ⟨_, eg_name, rfl, EvT.to (et_B (ev_eqD (d := pyPl (a.lab, (rank r0).map dig)) (e := pyPl (a.lab, r0.map dig)) (ev_dp (ev_call1 (P := rPl (a.lab, r0.map dig)) (post := fun a : Str × List Nat => rPl (a.1, (rank a.2).map dig)) (a.lab, r0) (ev_var rfl r) fun v G' _ p => ⟨⟨v, rfl, p⟩, by show r0.length ≤ 2; omega, by show r0 ∈ arr _ r0.length; rw [hrl]; exact hr0'⟩) fun v G' p => dp_pl p) (ev_dp (PP := rPl (a.lab, r0.map dig)) (ev_var rfl r) fun v G' p => dp_pl p) (ok2.shaped (by omega)) (ok1.shaped (by omega)))) ?_, fun _ => ev_var rfl r⟩
    rw [fm_dig]
    cases hd : decide ((a.lab, (rank r0).map dig) = (a.lab, r0.map dig)) with
    | true => rw [of_decide_eq_true hd]; exact eqv_rfl ok1.p
    | false =>
      cases z : PyData.eqv (pyPl (a.lab, (rank r0).map dig)) (pyPl (a.lab, r0.map dig)) with
      | false => rfl
      | true => exact (of_decide_eq_false hd (pyPl_inj (eqv_eq ok2.p ok1.p z))).elim
  · have h : rL rPl (((((arr (folk 3) a.s).map fun row => (a.lab, row)).filter fun pl => decide (fm pl = pl))).map id) v G' := h
    rw [List.map_id, forms_eq] at h
    exact h
abbrev N__law_most : List Str := ["_law_demands", "_law_demand"]
theorem sc__law_most : FnScope N__law_most ["_law_demands"] (defScope s__law_most) := ⟨rfl, rfl, rfl, by decide +kernel, rfl, by decide +kernel, by decide +kernel⟩
abbrev sp__law_most : Sp := pSp (fun (d : Dm) vs G => (∃ u, vs = [u] ∧ rL rDm [d] u G) ∧ d.Ok) (fun d => rI (d.L.length : Int))
theorem has__law_most (C : Ctx K mg) : Has P w K mg base "_law_most" ["_law_demands"] 2 sp__law_most := by
  obtain ⟨fd, F⟩ := C.d__law_most
  refine has_pure F C.g__law_most sc__law_most (fun _ _ _ _ _ _ us hl => match us, hl with | [_], _ => rfl) (fun a vs G h => by obtain ⟨⟨u, rfl, _⟩, _⟩ := h; rfl) (fun cdv A outer s H vs Q E hr a G sG hp k => ?_)
  have hu := hu_of hr
  refine ⟨_, (pss_one (ps_ret (pe_callB (cr_max rfl) (by rfl) C.f_max (by decide +kernel) (pa_cons (pe_op op_cat (pe_lst (pa_cons pe_int pa_nil)) (pe_lc (own := [("_law_demand", 1)]) (by rfl) sc__law_most.nd (pi_list (pv 0)) (blkOk_by (own := [("_law_demand", 1)]) (N := N__law_most) (sc := defScope s__law_most) (by decide +kernel)) (fun _ _ _ _ _ => (pg_name (i := 1) sc__law_most.nd rfl (Or.inl rfl))) (fun _ _ _ _ _ => pts_nil) (fun _ _ _ _ _ => (pe_callB call_len_str (by rfl) C.f_len (by decide +kernel) (pa_cons (pe_callH (has__law_letters (P := P) (w := w) (base := base) C) hr (by decide) rfl (pa_cons (pv 1) pa_nil)) pa_nil))))) pa_nil)))), ?_⟩
  obtain ⟨⟨u, rfl, hv⟩, ok⟩ := hp
  have hL := a.L_len
  refine s_ret (P := rI (a.L.length : Int)) (ev_maxI (ns := [0, (a.L.length : Int)]) (m := a.L.length) (EvP.imp (ev_catL (ds := [(0 : Int)]) (es := [a].map fun d : Dm => ((d.L.length : Nat) : Int)) (ev_l1 (R := rI) (x := 0) ev_int) (ev_lcm (R := rDm) (S := rI) (fun d : Dm => ((d.L.length : Nat) : Int)) (ei_list (ev_var rfl hv)) (small1000 (by show 1 ≤ 1000; omega)) fun d dv G' hd s r => ?_) (by rw [sizeLine_eq]; show 1 + 1 ≤ _; omega)) fun v G' _ p => p) (by simp) fun y hy => ?_) sG fun v G3 H3 e4 p4 => k v G3 H3 e4 p4
  · obtain rfl := List.mem_singleton.mp hd
    refine ⟨_, eg_name, rfl, EvP.imp (ev_lenS (x := lets d.L) (ev_call1 (P := rDm d) (post := fun d : Dm => rS (lets d.L)) d (ev_var rfl r) fun v G' _ p => ⟨⟨v, rfl, p⟩, ok⟩) (by rw [lets_len, sizeLine_eq]; omega)) fun v G' _ p => ?_⟩
    rw [lets_len] at p
    exact p
  · simp only [List.mem_cons, List.not_mem_nil, or_false] at hy
    rcases hy with rfl | rfl <;> omega
abbrev N__law_folk : List Str := ["_law_many", "_law_people"]
theorem sc__law_folk : FnScope N__law_folk ["_law_many", "_law_people"] (defScope s__law_folk) := ⟨rfl, rfl, rfl, by decide +kernel, rfl, by decide +kernel, by decide +kernel⟩
abbrev sp__law_folk : Sp := pSp (fun (n : Nat) vs G => (∃ u, vs = [.int n, u] ∧ rT rS [] u G) ∧ n ≤ 8) (fun n => rL rS (folk n))
theorem has__law_folk (C : Ctx K mg) : Has P w K mg base "_law_folk" ["_law_many", "_law_people"] 1 sp__law_folk := by
  obtain ⟨fd, F⟩ := C.d__law_folk
  refine has_pure F C.g__law_folk sc__law_folk (fun _ _ _ _ _ _ us hl => match us, hl with | [_, _], _ => rfl) (fun a vs G h => by obtain ⟨⟨u, rfl, _⟩, _⟩ := h; rfl) (fun cdv A outer s H vs Q E hr a G sG hp k => ?_)
  have hu := hu_of hr
  refine ⟨_, (pss_one (ps_ret (pe_op op_cat (pe_callTy (call_list_strH rfl) (by rfl) C.f_list (by decide +kernel) (pa_cons (pe_slice sl_str pe_str po_none (po_some (pv 0))) pa_nil)) (pe_callTy call_list_of (by rfl) C.f_list (by decide +kernel) (pa_cons (pv 1) pa_nil))))), ?_⟩
  obtain ⟨⟨u, rfl, hv⟩, hn⟩ := hp
  have h := cut8 a (List.mem_range.mpr (by omega))
  refine s_ret (P := rL rS (folk a ++ [])) (ev_catL (ds := folk a) (es := []) (h ▸ EvN.list (en_listS (ev_slS ev_str (ev_vi rfl) (by rw [sizeLine_eq]; decide +kernel)) ?_)) (ev_listT (ev_var rfl hv)) (by rw [folk_len, sizeLine_eq]; show a + 0 ≤ _; omega)) sG fun v G' H' e p => k v G' H' e (by rwa [List.append_nil] at p)
  rw [← signs_len, h, folk_len, sizeLine_eq]
  omega
end
end Eld
set_option maxRecDepth 100000
set_option maxHeartbeats 1000000
/-! The law's own defs: equations, lines, first_bad. -/
namespace Eld
open PySem PySem.Spec PyProof.Rows L2
/-! plain -/
def Dm.eqs (d : Dm) (fs : List Str) : List LLine := (arr fs d.L.length).map fun row => (d.line row, d.r)
def Dm.fline (d : Dm) (row : List Str) : LLine := ((d.line row).map fun t => (t.1, fm t.2), d.r)
def Dm.flines (d : Dm) : List LLine := (arr (folk d.L.length) d.L.length).map d.fline
theorem tsum_line (d : Dm) (row : List Str) (y : Pl → Int) : tsum (d.line row) y = psum (d.ts row) y := by
  unfold tsum Dm.line psum Dm.ts
  rw [List.map_map, List.map_map]
  rfl
theorem tsum_fm (ts : List (Int × Pl)) (y : Pl → Int) : tsum (ts.map fun t => (t.1, fm t.2)) y = tsum ts fun p => y (fm p) := by
  unfold tsum; rw [List.map_map]; rfl
theorem Dm.lsat_fill {d : Dm} (ok : d.Ok) (N : Nat) : LSat d.m (d.eqs (folk N)) ↔ d.Fill N := by
  unfold LSat Dm.Fill Eld.Fill
  constructor
  · rintro ⟨y, h⟩
    refine ⟨fun p => y (d.lab, p.map dig), fun r hr => ?_⟩
    have := h (d.line (r.map dig), d.r) (List.mem_map.mpr ⟨r.map dig, by rw [arr_folk]; exact List.mem_map.mpr ⟨r, hr, rfl⟩, rfl⟩)
    rw [tsum_line, Dm.psum_ts ok (mem_arr.mp hr).1] at this
    exact this
  · rintro ⟨y, h⟩
    refine ⟨fun pl => y (pl.2.map undig), fun e he => ?_⟩
    obtain ⟨row, hrow, rfl⟩ := List.mem_map.mp he
    rw [arr_folk] at hrow
    obtain ⟨r, hr, rfl⟩ := List.mem_map.mp hrow
    rw [tsum_line, Dm.psum_ts ok (mem_arr.mp hr).1]
    simp only [undig_map]
    exact h r hr
theorem Dm.lsat_rule {d : Dm} (ok : d.Ok) : LSat d.m d.flines ↔ d.Rule := by
  unfold LSat Dm.Rule Eld.Rule
  constructor
  · rintro ⟨y, h⟩
    refine ⟨fun q => y (d.lab, q.map dig), fun r hr => ?_⟩
    have := h (d.fline (r.map dig)) (List.mem_map.mpr ⟨r.map dig, by rw [arr_folk]; exact List.mem_map.mpr ⟨r, hr, rfl⟩, rfl⟩)
    unfold Dm.fline at this
    rw [tsum_fm, tsum_line, Dm.psum_ts ok (mem_arr.mp hr).1] at this
    simp only [fm_dig] at this
    exact this
  · rintro ⟨z, h⟩
    refine ⟨fun pl => z (pl.2.map undig), fun e he => ?_⟩
    obtain ⟨row, hrow, rfl⟩ := List.mem_map.mp he
    rw [arr_folk] at hrow
    obtain ⟨r, hr, rfl⟩ := List.mem_map.mp hrow
    unfold Dm.fline
    rw [tsum_fm, tsum_line, Dm.psum_ts ok (mem_arr.mp hr).1]
    simp only [fm_dig, undig_map]
    exact h r hr
def pyTm (t : Int × Pl) : PyData := .tuple [.int t.1, pyPl t.2]
def pyLn (l : LLine) : PyData := .tuple [.list (l.1.map pyTm), .int l.2]
theorem pyTms_inj {a b : List (Int × Pl)} (h : a.map pyTm = b.map pyTm) : a = b := by
  induction a generalizing b with
  | nil => cases b with
    | nil => rfl
    | cons y b => cases h
  | cons x a ih => cases b with
    | nil => cases h
    | cons y b =>
      rw [List.map_cons, List.map_cons] at h
      injection h with h1 h2
      unfold pyTm at h1
      injection h1 with h1
      injection h1 with h3 h4
      injection h3 with h3
      injection h4 with h4 _
      rw [Prod.ext (x := x) (y := y) h3 (pyPl_inj h4), ih h2]
theorem pyLn_inj {p q : LLine} (h : pyLn p = pyLn q) : p = q := by
  unfold pyLn at h
  injection h with h
  injection h with h1 h2
  injection h1 with h1
  injection h2 with h2 _
  injection h2 with h2
  exact Prod.ext (pyTms_inj h1) h2
def OkLn (l : LLine) : Prop := ∀ t ∈ l.1, OkPl t.2
theorem OkLn.okd {l : LLine} (h : OkLn l) : Okd 5 (pyLn l) := okd_2 (okd_L fun z hz => by
  obtain ⟨t, ht, rfl⟩ := List.mem_map.mp hz
  exact okd_2 (okd_int _) (h t ht).okd) (okd_int _)
theorem any_ln {es : List LLine} {l : LLine} (h : ∀ e ∈ es, OkLn e) (hl : OkLn l) : (!(es.map pyLn).any fun z => PyData.eqv z (pyLn l)) = decide (l ∉ es) := by
  rw [List.any_map]
  by_cases hm : l ∈ es
  · rw [decide_eq_false (fun q => q hm)]
    rw [show (es.any ((fun z => PyData.eqv z (pyLn l)) ∘ pyLn)) = true from List.any_eq_true.mpr ⟨l, hm, eqv_rfl hl.okd.p⟩]
    rfl
  · rw [decide_eq_true hm]
    cases q : es.any ((fun z => PyData.eqv z (pyLn l)) ∘ pyLn) with
    | false => rfl
    | true =>
      obtain ⟨e, he, hq⟩ := List.any_eq_true.mp q
      have := pyLn_inj (eqv_eq (h e he).okd.p hl.okd.p hq)
      subst this
      exact (hm he).elim
theorem Dm.forms_ok {d : Dm} (ok : d.Ok) {p : Pl} (h : p ∈ d.forms) : OkPl p := by
  obtain ⟨r, hr, rfl⟩ := List.mem_map.mp h
  exact okPl_dig ok.lab fun i hi => by have := List.mem_range.mp ((mem_arr.mp (List.mem_filter.mp hr).1).2.2 i hi); omega
theorem Dm.fline_mem {d : Dm} (ok : d.Ok) (h3 : d.L.length ≤ 3) {row : List Str} (hr : row ∈ arr (folk d.L.length) d.L.length) : ∀ t ∈ (d.fline row).1, t.2 ∈ d.forms ∧ sml t.1 = true := fun t ht => by
  obtain ⟨t1, h1, rfl⟩ := List.mem_map.mp ht
  obtain ⟨t2, h2, rfl⟩ := List.mem_map.mp h1
  exact ⟨Dm.fm_mem ok h3 (Dm.sub_mem ok hr h2), sml_abs (by have := ok.t t2 h2; show t2.1.natAbs ≤ 100; omega)⟩
theorem Dm.fline_ok {d : Dm} (ok : d.Ok) (h3 : d.L.length ≤ 3) {l : LLine} (hl : l ∈ d.flines) : OkLn l := fun t ht => by
  obtain ⟨row, hrow, rfl⟩ := List.mem_map.mp hl
  exact Dm.forms_ok ok (Dm.fline_mem ok h3 hrow t ht).1
structure LE (d : Dm) (n : Nat) (es : List LLine) : Prop where
  len : es.length ≤ n
  sub : ∀ e ∈ es, e ∈ d.flines
  all : ∀ e ∈ d.flines.take n, e ∈ es
theorem LE.sat {d : Dm} {es : List LLine} (h : LE d d.flines.length es) : LSat d.m es ↔ LSat d.m d.flines := by
  have ha := h.all
  rw [List.take_length] at ha
  exact ⟨fun ⟨y, hy⟩ => ⟨y, fun e he => hy e (ha e he)⟩, fun ⟨y, hy⟩ => ⟨y, fun e he => hy e (h.sub e he)⟩⟩
section
variable {P : Program} {w : World} {K : PySem.W.Frag} {mg : Str → Option Value} {base : Heap}
theorem ex_notInD {σ : St} {G H : Hp} {ta tb : TE} {l : Addr} {xs : List V} {d : PyData} {ds : List PyData} (hl : H l = some (.lst xs)) (al : DpAll K G xs ds) (s : Same G H) (ha : EvP ta σ G (rDp K d)) (hb : EvP tb σ G (rV (.ref l))) (sd : SeqAt.shaped d = true) (se : SeqAt.shaped (.list ds) = true) :
    EvX (tOp (rNotInD K) ta tb) σ G H (rB (!ds.any fun z => PyData.eqv z d)) := fun Q k =>
  ha H s _ fun x G1 H1 e1 p1 => hb.mono e1.g H1 e1.s _ fun y G2 H2 e2 p2 => by
    cases (show y = .ref l from p2)
    exact ⟨d, ds, Dp.mn (e2.g.trans e2.s) p1, .lst (SqL.of (e2.h _ _ (e1.h _ _ hl))) (DpAll.mn ((e1.g.trans e2.g).trans e2.s) al), sd, se, k _ _ _ (e1.trans e2) rfl⟩
theorem dp_ln {K : PySem.W.Frag} {G : Hp} {l : LLine} {v : V} (h : rLn l v G) : Dp K G v (pyLn l) := dp_2 (f := fun ts : List (Int × Pl) => PyData.list (ts.map pyTm)) (g := PyData.int) h (fun x hx => dp_L hx fun t x ht => dp_2 (f := PyData.int) (g := pyPl) ht (fun x => dp_i) fun x => dp_pl) fun x => dp_i
abbrev N__law_equations : List Str := ["_law_demands", "_law_folk_here", "_law_found", "_law_demand", "_law_letters_here", "_law_row"]
theorem sc__law_equations : FnScope N__law_equations ["_law_demands", "_law_folk_here"] (defScope s__law_equations) := ⟨rfl, rfl, rfl, by decide +kernel, rfl, by decide +kernel, by decide +kernel⟩
abbrev sp__law_equations : Sp := pSp (fun (a : Dm × List Str) vs G => (∃ u v, vs = [u, v] ∧ rL rDm [a.1] u G ∧ rL rS a.2 v G) ∧ a.1.Ok ∧ a.1.L.length ≤ 3 ∧ a.2.length ≤ 8) (fun a => rL rLn (a.1.eqs a.2))
theorem has__law_equations (C : Ctx K mg) : Has P w K mg base "_law_equations" ["_law_demands", "_law_folk_here"] 2 sp__law_equations := by
  obtain ⟨fd, F⟩ := C.d__law_equations
  refine has_pure F C.g__law_equations sc__law_equations (fun _ _ _ _ _ _ us hl => match us, hl with | [_, _], _ => rfl) (fun a vs G h => by obtain ⟨⟨u, v, rfl, _⟩, _⟩ := h; rfl) (fun cdv A outer s H vs Q E hr a G sG hp k => ?_)
  have hu := hu_of hr
  refine ⟨_, (pss_cons (ps_set (i := 2) sc__law_equations.nd rfl (Or.inl rfl) (pe_lst pa_nil))
  (pss_cons (ps_for PassesOwn.never (by rfl) (pi_list (pv 0)) (pg_name (i := 3) sc__law_equations.nd rfl (Or.inl rfl))
    (pss_cons (ps_set (i := 4) sc__law_equations.nd rfl (Or.inl rfl) (pe_callH (has__law_letters C) hr (by decide) rfl (pa_cons (pv 3) pa_nil)))
  (pss_one (ps_for PassesOwn.never (by rfl) (pi_list (pe_callH (has__law_rows C) hr (by decide) rfl (pa_cons (pv 1) (pa_cons (pe_callB call_len_str (by rfl) C.f_len (by decide +kernel) (pa_cons (pv 4) pa_nil)) pa_nil)))) (pg_name (i := 5) sc__law_equations.nd rfl (Or.inl rfl))
    (pss_one (ps_expr (pe_bm PySem.F.plainAttrs_list PySem.F.slot_list_append PySem.F.type_list_append mt_append (pv 2) (pa_cons (pe_tup (pa_cons (pe_callH (has__law_terms C) hr (by decide) rfl (pa_cons (pv 3) (pa_cons (pv 4) (pa_cons (pv 5) pa_nil)))) (pa_cons (pe_ix ix_tup (pv 3) pe_int (fun _ _ => rfl)) pa_nil))) pa_nil))))))))
  (pss_one (ps_ret (pv 2))))), ?_⟩
  obtain ⟨d, fs⟩ := a
  obtain ⟨⟨u, v, rfl, hu', hv⟩, ok, h3, hf⟩ := hp
  dsimp only at hu' hv ok h3 hf
  have hal : (arr fs d.L.length).length ≤ 512 := Nat.le_trans (arr_len fs _) (Nat.le_trans (Nat.pow_le_pow_left hf _) (Nat.le_trans (Nat.pow_le_pow_right (by omega) h3) (by decide)))
  refine q_asgN (en_l0 (R := rLn)) sG fun l o G1 H1 e1 hl gl hol ol => ?_
  obtain ⟨xs0, rfl, al0⟩ := ol
  cases al0
  refine q_for (Gb := G) (Hb := H) e1 (ei_list (R := rDm) (ds := [d]) (ev_var rfl (mn e1.g hu'))) (fun i σ' G' H' => ∃ x y z xs, σ' = [some u, some v, some (.ref l), x, y, z] ∧ H' l = some (.lst xs) ∧ G' l = none ∧ All2 rLn G' xs (if i = 0 then [] else d.eqs fs))
    (fun G2 H2 e2 => ⟨none, none, none, [], rfl, e2.h _ _ hol, e2.f l (by rw [hol]; exact fun z => nomatch z) gl, .nil⟩) (fun G2 sG2 i dd v' σ' G0 H0 G' H' hk s0 e0' j e' r => ?_) (fun G2 σ' G' H' sG2 s2 e2 j => ?_)
  · obtain ⟨x, y, z, xs, rfl, hx, gx, al⟩ := j
    have hx' := e'.h _ _ hx
    have gx' := e'.f l (by rw [hx]; exact fun z => nomatch z) gx
    have hi : i = 0 := by
      have := (List.getElem?_eq_some_iff.mp hk).1
      simpa using this
    subst hi
    have hd : d = dd := by simpa using hk
    subst hd
    rw [if_pos rfl] at al
    cases al
    refine eg_name _ e'.s _ ?_
    refine q_asg (P := rS (lets d.L)) (ev_call1 (P := rDm d) (post := fun d : Dm => rS (lets d.L)) d (ev_var rfl r) fun v G' _ p => ⟨⟨v, rfl, p⟩, ok⟩) e'.s fun v3 G3 H3 e3 p3 => ?_
    cases (show v3 = .str _ from p3)
    have hx3 := e3.h _ _ hx'
    have gx3 := e3.f l (by rw [hx']; exact fun z => nomatch z) gx'
    refine s_for (Gb := G) (Hb := H) ((e0'.trans e').trans e3) (ei_list (R := rT rS) (ds := arr fs d.L.length) (ev_call2 (P := rL rS fs) (P1 := rI (d.L.length : Int)) (post := fun a : List Str × Nat => rL (rT rS) (arr a.1 a.2)) (fs, d.L.length) (ev_var rfl (mn (((e1.g.trans sG2).trans (s0.trans e'.g)).trans e3.g) hv)) (EvP.imp (ev_lenS (x := lets d.L) (ev_vs rfl) (by rw [lets_len, sizeLine_eq]; omega)) fun v G' _ p => by rw [lets_len] at p; exact p) fun v1 v2 G' _ p1 p2 => ⟨⟨v1, by rw [show v2 = .int _ from p2], p1⟩, by show fs.length ≤ 12; omega, by show d.L.length ≤ 4; omega⟩))
      (fun j σ' G' H' => ∃ z xs, σ' = [some u, some v, some (.ref l), some v', some (.str (lets d.L)), z] ∧ H' l = some (.lst xs) ∧ G' l = none ∧ All2 rLn G' xs (((arr fs d.L.length).take j).map fun row => (d.line row, d.r)))
      (fun G4 H4 e4 => ⟨_, [], rfl, e4.h _ _ hx3, e4.f l (by rw [hx3]; exact fun z => nomatch z) gx3, .nil⟩) (fun G4 sG4 i row rv σ' G5 H5 G6 H6 hk5 s5 e5 jj e6 r6 => ?_) (fun G4 σ' G5 H5 sG4 s5 e5 jj => ?_)
    · obtain ⟨z, xs, rfl, hx, gx, al⟩ := jj
      have hi := (List.getElem?_eq_some_iff.mp hk5).1
      have hrow := (mem_arr.mp (List.mem_of_getElem? hk5)).1
      have hti : (arr fs d.L.length).take (i + 1) = (arr fs d.L.length).take i ++ [row] := by
        rw [take_snoc hi]
        rw [List.getElem?_eq_getElem hi] at hk5
        rw [Option.some.inj hk5]
      have hx6 := e6.h _ _ hx
      have gx6 := e6.f l (by rw [hx]; exact fun z => nomatch z) gx
      have rd : rDm d v' G6 := mn (e3.g.trans (sG4.trans (s5.trans e6.g))) r
      refine eg_name _ e6.s _ ?_
      refine s_app hx6 (ev_var rfl rfl) (ev_t2 (R := rL rTL) (S := rI) (x := d.line row) (y := d.r) (ev_call3 (P := rDm d) (P1 := rS (lets d.L)) (P2 := rT rS row) (post := fun a : Dm × List Str => rL rTL (a.1.line a.2)) (d, row) (ev_var rfl rd) (ev_vs rfl) (ev_var rfl r6) fun v1 v2 v3 G' _ p1 p2 p3 => ⟨⟨v1, v3, by rw [show v2 = .str _ from p2], p1, p3⟩, ok, hrow⟩) (ev_snd (ev_var (P := rDm d) rfl rd))) e6.s ?_ fun v7 G7 H7 e7 p7 h7 => ?_
      · have h1 := al.length
        rw [List.length_map, List.length_take] at h1
        exact small1000 (by omega)
      · have gx7 := e7.f l (by rw [hx6]; exact fun z => nomatch z) gx6
        refine ⟨G7, (s5.trans e6.g).trans e7.g, ((e5.trans e6).trans e7).upd hl gx7, _, _, rfl, upd_same, gx7, ?_⟩
        rw [hti, List.map_append]
        exact (al.mono (e6.g.trans e7.g)).snoc p7
    · obtain ⟨z, xs, rfl, hx, gx, al⟩ := jj
      rw [List.take_length] at al
      refine ⟨G5, ((s0.trans e'.g).trans e3.g).trans (sG4.trans s5), e5, _, _, _, xs, rfl, hx, gx, ?_⟩
      rw [if_neg (by omega)]
      exact al
  · obtain ⟨x, y, z, xs, rfl, hx, gx, al⟩ := j
    rw [if_neg (by show ¬ ([d] : List Dm).length = 0; simp)] at al
    have e3 := e2.know hl gx hx
    exact s_ret (P := rL rLn (d.eqs fs)) (ev_var rfl ⟨l, xs, rfl, upd_same, al.mono (Same.new gx)⟩) e3.s fun v G3 H3 e4 p4 => k v G3 H3 (e3.trans e4) p4
/-- the list of the lines of forms -/
def rLE (d : Dm) : V → Hp → Prop := fun v G => ∃ es, rL rLn es v G ∧ LE d d.flines.length es
instance {d : Dm} : MnP (rLE d) := ⟨fun s ⟨es, h, f⟩ => ⟨es, mn s h, f⟩⟩
abbrev N__law_lines : List Str := ["_law_demands", "_law_people", "_law_folk_here", "_law_found", "_law_demand", "_law_letters_here", "_law_row", "_law_terms_here", "_law_line", "_law_factor", "_law_place"]
theorem sc__law_lines : FnScope N__law_lines ["_law_demands", "_law_people"] (defScope s__law_lines) := ⟨rfl, rfl, rfl, by decide +kernel, rfl, by decide +kernel, by decide +kernel⟩
abbrev sp__law_lines : Sp := pSp (fun (d : Dm) vs G => (∃ u v, vs = [u, v] ∧ rL rDm [d] u G ∧ rT rS [] v G) ∧ d.Ok ∧ d.L.length ≤ 3) (fun d => rLE d)
theorem has__law_lines (C : Ctx K mg) : Has P w K mg base "_law_lines" ["_law_demands", "_law_people"] 3 sp__law_lines := by
  obtain ⟨fd, F⟩ := C.d__law_lines
  refine has_pure F C.g__law_lines sc__law_lines (fun _ _ _ _ _ _ us hl => match us, hl with | [_, _], _ => rfl) (fun a vs G h => by obtain ⟨⟨u, v, rfl, _⟩, _⟩ := h; rfl) (fun cdv A outer s H vs Q E hr a G sG hp k => ?_)
  have hu := hu_of hr
  refine ⟨_, (pss_cons (ps_set (i := 2) sc__law_lines.nd rfl (Or.inl rfl) (pe_callH (has__law_folk C) hr (by decide) rfl (pa_cons (pe_callH (has__law_most C) hr (by decide) rfl (pa_cons (pv 0) pa_nil)) (pa_cons (pv 1) pa_nil))))
  (pss_cons (ps_set (i := 3) sc__law_lines.nd rfl (Or.inl rfl) (pe_lst pa_nil))
  (pss_cons (ps_for PassesOwn.never (by rfl) (pi_list (pv 0)) (pg_name (i := 4) sc__law_lines.nd rfl (Or.inl rfl))
    (pss_cons (ps_set (i := 5) sc__law_lines.nd rfl (Or.inl rfl) (pe_callH (has__law_letters C) hr (by decide) rfl (pa_cons (pv 4) pa_nil)))
  (pss_one (ps_for PassesOwn.never (by rfl) (pi_list (pe_callH (has__law_rows C) hr (by decide) rfl (pa_cons (pv 2) (pa_cons (pe_callB call_len_str (by rfl) C.f_len (by decide +kernel) (pa_cons (pv 5) pa_nil)) pa_nil)))) (pg_name (i := 6) sc__law_lines.nd rfl (Or.inl rfl))
    (pss_cons (ps_set (i := 7) sc__law_lines.nd rfl (Or.inl rfl) (pe_callH (has__law_terms C) hr (by decide) rfl (pa_cons (pv 4) (pa_cons (pv 5) (pa_cons (pv 6) pa_nil)))))
  (pss_cons (ps_set (i := 8) sc__law_lines.nd rfl (Or.inl rfl) (pe_tup (pa_cons (pe_lc (g := (gTup K 2 (gCons (gName 9) (gCons (gName 10) gNil)))) (own := [("_law_factor", 9), ("_law_place", 10)]) (by rfl) sc__law_lines.nd (pi_list (pv 7)) (blkOk_by (own := [("_law_factor", 9), ("_law_place", 10)]) (N := N__law_lines) (sc := defScope s__law_lines) (by decide +kernel)) (fun _ _ _ _ _ => (pg_tupK (K := K) rfl rfl (pgs_cons (pg_name (i := 9) sc__law_lines.nd rfl (Or.inl rfl)) (pgs_cons (pg_name (i := 10) sc__law_lines.nd rfl (Or.inl rfl)) pgs_nil)))) (fun _ _ _ _ _ => pts_nil) (fun _ _ _ _ _ => (pe_tup (pa_cons (pv 9) (pa_cons (pe_callH (has__law_form (P := P) (w := w) (base := base) C) hr (by decide) rfl (pa_cons (pv 10) pa_nil)) pa_nil))))) (pa_cons (pe_ix ix_tup (pv 4) pe_int (fun _ _ => rfl)) pa_nil))))
  (pss_one (ps_if (pt_cmpR (op_notInD hr.un65) (pv 8) (pv 3) (by rfl))
    (pss_one (ps_expr (pe_bm PySem.F.plainAttrs_list PySem.F.slot_list_append PySem.F.type_list_append mt_append (pv 3) (pa_cons (pv 8) pa_nil))))
    pss_nil))))))))
  (pss_one (ps_ret (pv 3)))))), ?_⟩
  obtain ⟨⟨u, v, rfl, hu', hv⟩, ok, h3⟩ := hp
  have hal : (arr (folk a.L.length) a.L.length).length ≤ 512 := Nat.le_trans (arr_len _ _) (Nat.le_trans (Nat.pow_le_pow_left (by rw [folk_len]; omega : (folk a.L.length).length ≤ 8) _) (Nat.le_trans (Nat.pow_le_pow_right (by omega) h3) (by decide)))
  have hfl : a.flines.length = (arr (folk a.L.length) a.L.length).length := by unfold Dm.flines; rw [List.length_map]
  refine q_asg (P := rL rS (folk a.L.length)) (ev_call2 (P := rI (a.L.length : Int)) (P1 := rT rS []) (post := fun n : Nat => rL rS (folk n)) a.L.length (ev_call1 (P := rL rDm [a]) (post := fun d : Dm => rI (d.L.length : Int)) a (ev_var rfl hu') fun v G' _ p => ⟨⟨v, rfl, p⟩, ok⟩) (ev_var rfl hv) fun v1 v2 G' _ p1 p2 => ⟨⟨v2, by rw [show v1 = .int _ from p1], p2⟩, by show a.L.length ≤ 8; omega⟩) sG fun fv G1 H1 e1 p1 => ?_
  refine q_asgN (en_l0 (R := rLn)) e1.s fun l o G2 H2 e2 hl2 gl hol ol => ?_
  obtain ⟨xs0, rfl, al0⟩ := ol
  cases al0
  have hl : H l = none := e1.h.free hl2
  have e02 := e1.trans e2
  refine q_for (Gb := G) (Hb := H) e02 (ei_list (R := rDm) (ds := [a]) (ev_var rfl (mn e02.g hu'))) (fun i σ' G' H' => ∃ x y z q1 q2 xs es, σ' = [some u, some v, some fv, some (.ref l), x, y, z, q1, q2, none, none] ∧ H' l = some (.lst xs) ∧ G' l = none ∧ All2 rLn G' xs es ∧ LE a (if i = 0 then 0 else a.flines.length) es)
    (fun G2 H2 e2 => ⟨none, none, none, none, none, [], [], rfl, e2.h _ _ hol, e2.f l (by rw [hol]; exact fun z => nomatch z) gl, .nil, ⟨Nat.zero_le _, (fun e h => nomatch h), fun e h => by rw [if_pos rfl] at h; simp at h⟩⟩) (fun G3 sG3 i dd v' σ' G0 H0 G' H' hk s0 e0' j e' r => ?_) (fun G3 σ' G' H' sG3 s2 e2 j => ?_)
  · obtain ⟨x, y, z, q1, q2, xs, es, rfl, hx, gx, al, le⟩ := j
    have hx' := e'.h _ _ hx
    have gx' := e'.f l (by rw [hx]; exact fun z => nomatch z) gx
    have hi : i = 0 := by
      have := (List.getElem?_eq_some_iff.mp hk).1
      simpa using this
    subst hi
    have hd : a = dd := by simpa using hk
    subst hd
    rw [if_pos rfl] at le
    refine eg_name _ e'.s _ ?_
    refine q_asg (P := rS (lets a.L)) (ev_call1 (P := rDm a) (post := fun d : Dm => rS (lets d.L)) a (ev_var rfl r) fun v G' _ p => ⟨⟨v, rfl, p⟩, ok⟩) e'.s fun v3 G4 H4 e4 p3 => ?_
    cases (show v3 = .str _ from p3)
    have hx3 := e4.h _ _ hx'
    have gx3 := e4.f l (by rw [hx']; exact fun z => nomatch z) gx'
    refine s_for (Gb := G) (Hb := H) ((e0'.trans e').trans e4) (ei_list (R := rT rS) (ds := arr (folk a.L.length) a.L.length) (ev_call2 (P := rL rS (folk a.L.length)) (P1 := rI (a.L.length : Int)) (post := fun a : List Str × Nat => rL (rT rS) (arr a.1 a.2)) (folk a.L.length, a.L.length) (ev_var rfl (mn (((e2.g.trans sG3).trans (s0.trans e'.g)).trans e4.g) p1)) (EvP.imp (ev_lenS (x := lets a.L) (ev_vs rfl) (by rw [lets_len, sizeLine_eq]; omega)) fun v G' _ p => by rw [lets_len] at p; exact p) fun v1 v2 G' _ p1 p2 => ⟨⟨v1, by rw [show v2 = .int _ from p2], p1⟩, by show (folk a.L.length).length ≤ 12; rw [folk_len]; omega, by show a.L.length ≤ 4; omega⟩))
      (fun j σ' G' H' => ∃ z q1 q2 xs es, σ' = [some u, some v, some fv, some (.ref l), some v', some (.str (lets a.L)), z, q1, q2, none, none] ∧ H' l = some (.lst xs) ∧ G' l = none ∧ All2 rLn G' xs es ∧ LE a j es)
      (fun G5 H5 e5 => ⟨_, _, _, xs, es, rfl, e5.h _ _ hx3, e5.f l (by rw [hx3]; exact fun z => nomatch z) gx3, al.mono ((e'.g.trans e4.g).trans e5.g), le⟩) (fun G5 sG5 i row rv σ' G6 H6 G7 H7 hk5 s5 e5 jj e6 r6 => ?_) (fun G5 σ' G6 H6 sG5 s5 e5 jj => ?_)
    · obtain ⟨z, q1, q2, xs, es, rfl, hx, gx, al, le⟩ := jj
      have hi := (List.getElem?_eq_some_iff.mp hk5).1
      have hrm := List.mem_of_getElem? hk5
      have hrow := (mem_arr.mp hrm).1
      have hfi : a.flines[i]? = some (a.fline row) := by unfold Dm.flines; rw [List.getElem?_map, hk5]; rfl
      have hti : a.flines.take (i + 1) = a.flines.take i ++ [a.fline row] := by
        rw [take_snoc (by rw [hfl]; exact hi)]
        rw [List.getElem?_eq_getElem (by rw [hfl]; exact hi)] at hfi
        rw [Option.some.inj hfi]
      have hx6 := e6.h _ _ hx
      have gx6 := e6.f l (by rw [hx]; exact fun z => nomatch z) gx
      have rd : rDm a v' G7 := mn (e4.g.trans (sG5.trans (s5.trans e6.g))) r
      have hTl := ok.Tl
      refine eg_name _ e6.s _ ?_
      refine q_asg (P := rL rTL (a.line row)) (ev_call3 (P := rDm a) (P1 := rS (lets a.L)) (P2 := rT rS row) (post := fun a : Dm × List Str => rL rTL (a.1.line a.2)) (a, row) (ev_var rfl rd) (ev_vs rfl) (ev_var rfl r6) fun v1 v2 v3 G' _ p1 p2 p3 => ⟨⟨v1, v3, by rw [show v2 = .str _ from p2], p1, p3⟩, ok, hrow⟩) e6.s fun v8 G8 H8 e8 p8 => ?_
      refine q_asg (P := rLn (a.fline row)) (ev_t2 (R := rL rTL) (S := rI) (x := (a.fline row).1) (y := a.r) (ev_lcm (R := rTL) (S := rTL) (fun t => (t.1, fm t.2)) (ei_list (ev_var rfl p8)) (by unfold Dm.line; rw [List.length_map]; exact small1000 (by omega)) fun t tv G9 ht s9 r9 => ?_) (ev_snd (ev_var (P := rDm a) rfl (mn e8.g rd)))) e8.s fun v9 G9 H9 e9 p9 => ?_
      · obtain ⟨t2, h2, rfl⟩ := List.mem_map.mp ht
        obtain ⟨w1, w2, q1, q2, eg⟩ := eg_2 (K := K) (σ := wipe ([some u, some v, some fv, some (.ref l), some v', some (.str (lets a.L)), some rv, some v8, q2, none, none] : St) [9, 10]) (i := 9) (j := 10) r9
        obtain ⟨r0, hr0, e0⟩ := Dm.place_row (Dm.sub_mem ok hrm h2)
        have hr0' := arr3 h3 hr0
        have hrl := (mem_arr.mp hr0').1
        have hs2 : a.s ≤ 2 := by rcases ok.s with h | h <;> omega
        cases (show w1 = .int t2.1 from q1)
        have q2' : rPl (a.lab, r0.map dig) w2 G9 := by rw [← e0]; exact q2
        refine ⟨_, eg, rfl, ev_t2 (R := rI) (S := rPl) (x := t2.1) (y := fm (a.sub row t2)) (ev_vi rfl) (EvP.imp (ev_call1 (P := rPl (a.lab, r0.map dig)) (post := fun a : Str × List Nat => rPl (a.1, (rank a.2).map dig)) (a.lab, r0) (ev_var rfl q2') fun v G' _ p => ⟨⟨v, rfl, p⟩, by show r0.length ≤ 2; omega, by show r0 ∈ arr (List.range 3) r0.length; rw [hrl]; exact hr0'⟩) fun v G' _ p => by rw [e0, fm_dig]; exact p)⟩
      · have hx9 := e9.h _ _ (e8.h _ _ hx6)
        have gx9 := e9.f l (by rw [e8.h _ _ hx6]; exact fun z => nomatch z) (e8.f l (by rw [hx6]; exact fun z => nomatch z) gx6)
        have al9 := al.mono ((e6.g.trans e8.g).trans e9.g)
        have hok : ∀ e ∈ es, OkLn e := fun e he => Dm.fline_ok ok h3 (le.sub e he)
        have hokl : OkLn (a.fline row) := Dm.fline_ok ok h3 (List.mem_of_getElem? hfi)
        have e69 := ((e5.trans e6).trans e8).trans e9
        have s69 := ((s5.trans e6.g).trans e8.g).trans e9.g
        refine xs_ifn (G := G9) (b := decide (a.fline row ∉ es)) ?_ (fun hb Ga Ha ea => ?_) (fun hb Ga Ha ea => ?_)
        · have h := xt_val (ex_notInD (K := K) (ds := es.map pyLn) (d := pyLn (a.fline row)) hx9 (dp_all (f := pyLn) (R := rLn) (fun d x h => dp_ln h) al9) e9.s (ev_dp (PP := rLn (a.fline row)) (te := tVar 8) (σ := ([some u, some v, some fv, some (.ref l), some v', some (.str (lets a.L)), some rv, some v8, some v9, none, none] : St)) (ev_var rfl p9) fun v G' p => dp_ln p) (tb := tVar 3) (ev_var rfl rfl) (hokl.okd.shaped (by omega)) ((okd_L fun z hz => by
            obtain ⟨e, he, rfl⟩ := List.mem_map.mp hz
            exact (hok e he).okd : Okd 6 (.list (es.map pyLn))).shaped (by omega)))
          rw [any_ln hok hokl] at h
          exact h
        · have hxa := ea.h _ _ hx9
          have gxa := ea.f l (by rw [hx9]; exact fun z => nomatch z) gx9
          refine s_app hxa (ev_var rfl rfl) (ev_var rfl (mn ea.g p9)) ea.s ?_ fun vb Gb Hb eb pb hb' => ?_
          · have h1 := al.length
            have h2 := le.len
            exact small1000 (by omega)
          · have gxb := eb.f l (by rw [hxa]; exact fun z => nomatch z) gxa
            refine ⟨Gb, (s69.trans ea.g).trans eb.g, ((e69.trans ea).trans eb).upd hl gxb, _, _, _, _, es ++ [a.fline row], rfl, upd_same, gxb, (al9.mono (ea.g.trans eb.g)).snoc pb, ⟨?_, fun e he => ?_, fun e he => ?_⟩⟩
            · rw [List.length_append]; have := le.len; simp only [List.length_cons, List.length_nil]; omega
            · rcases List.mem_append.mp he with he | he
              · exact le.sub e he
              · rw [List.mem_singleton.mp he]; exact List.mem_of_getElem? hfi
            · rw [hti] at he
              rcases List.mem_append.mp he with he | he
              · exact List.mem_append_left _ (le.all e he)
              · exact List.mem_append_right _ he
        · refine ⟨Ga, s69.trans ea.g, e69.trans ea, _, _, _, xs, es, rfl, ea.h _ _ hx9, ea.f l (by rw [hx9]; exact fun z => nomatch z) gx9, al9.mono ea.g, ⟨Nat.le_succ_of_le le.len, le.sub, fun e he => ?_⟩⟩
          rw [hti] at he
          rcases List.mem_append.mp he with he | he
          · exact le.all e he
          · rw [List.mem_singleton.mp he]
            exact Decidable.byContradiction fun q => of_decide_eq_false hb q
    · obtain ⟨z, q1, q2, xs, es, rfl, hx, gx, al, le⟩ := jj
      refine ⟨G6, ((s0.trans e'.g).trans e4.g).trans (sG5.trans s5), e5, _, _, _, _, _, xs, es, rfl, hx, gx, al, ?_⟩
      rw [if_neg (by omega), hfl]
      exact le
  · obtain ⟨x, y, z, q1, q2, xs, es, rfl, hx, gx, al, le⟩ := j
    rw [if_neg (by show ¬ ([a] : List Dm).length = 0; simp)] at le
    have e3 := e2.know hl gx hx
    exact s_ret (P := rLE a) (ev_var rfl ⟨es, ⟨l, xs, rfl, upd_same, al.mono (Same.new gx)⟩, le⟩) e3.s fun v G3 H3 e4 p4 => k v G3 H3 (e3.trans e4) p4
end
end Eld
set_option maxRecDepth 100000
set_option maxHeartbeats 1000000
/-! The law's own def first_bad. -/
namespace Eld
open PySem PySem.Spec PyProof.Rows L2
/-- a count that is above nought just if E holds -/
def rNz (E : Prop) : V → Hp → Prop := fun v _ => ∃ n : Nat, v = .int n ∧ (0 < n ↔ E)
instance {E : Prop} : MnP (rNz E) := ⟨fun _ h => h⟩
def TopOk (d : Dm) (top : Nat) : Prop := ∀ n, n ≤ top → d.m.toNat ^ (arr (List.range n) d.s).length ≤ 1000
theorem topOk : (∀ m ∈ [2, 3, 4, 5], ∀ n ∈ List.range ([6, 5, 4, 4].getD (m - 2) 0 + 1), m ^ (arr (List.range n) 1).length ≤ 1000) ∧ ∀ m ∈ [2, 3], ∀ n ∈ List.range 4, m ^ (arr (List.range n) 2).length ≤ 1000 := by decide +kernel
section
variable {K : PySem.W.Frag} {σ : St} {G H : Hp} {ta tb : TE}
theorem ev_lenQ {E : Prop} (ha : EvP ta σ G (rLen E)) : EvP (tCB (fun xs H Q => ∃ p ys, xs = [.ref p] ∧ (SqL K H p ys ∨ SqT K H p ys) ∧ Q (.int ys.length) H) (tCons ta tNil)) σ G (rNz E) :=
  ev_cb1 ha fun v G' _ p H s Q q => by
    obtain ⟨a, xs, rfl, h, e⟩ := p
    exact ⟨a, xs, rfl, .inl (SqL.of (s _ _ h)), q _ _ _ (Ext.refl s) ⟨xs.length, rfl, e⟩⟩
theorem ev_nz0 {E : Prop} {b : Bool} (ha : EvP ta σ G (rNz E)) (hb : b = true ↔ ¬ E) : EvP (tOp L2.rEq ta (tC (.int 0))) σ G (rB b) :=
  ev_op ha (fun _ s => ev_int) fun x y G' _ p p' H s Q q => by
    obtain ⟨n, rfl, e⟩ := p
    cases (show y = .int 0 from p')
    refine ⟨rfl, q _ _ _ (Ext.refl s) ?_⟩
    show V.bl (decide (V.int n = V.int 0)) = V.bl b
    rw [show decide (V.int (n : Int) = V.int 0) = b by rw [Bool.eq_iff_iff, decide_eq_true_iff, hb, ← e]; simp]
theorem ev_nzPos {E : Prop} {b : Bool} (ha : EvP ta σ G (rNz E)) (hb : b = true ↔ E) : EvP (tOp (rI0 fun i j => .bl (decide (j < i))) ta (tC (.int 0))) σ G (rB b) :=
  ev_op ha (fun _ s => ev_int) fun x y G' _ p p' H s Q q => by
    obtain ⟨n, rfl, e⟩ := p
    cases (show y = .int 0 from p')
    refine ⟨(n : Int), 0, rfl, rfl, q _ _ _ (Ext.refl s) ?_⟩
    show V.bl (decide ((0 : Int) < (n : Int))) = V.bl b
    rw [show decide ((0 : Int) < (n : Int)) = b by rw [Bool.eq_iff_iff, decide_eq_true_iff, hb, ← e]; omega]
end
section
variable {P : Program} {w : World} {K : PySem.W.Frag} {mg : Str → Option Value} {base : Heap}
/-- the first many without a filling, if one is at most top -/
def FbPost (d : Dm) (top : Nat) : V → Hp → Prop := fun v _ => (v = .non ∧ ∀ N, N ≤ top → d.Fill N) ∨ ∃ M : Nat, v = .int M ∧ M ≤ top ∧ ¬ d.Fill M ∧ ∀ N, N < M → d.Fill N
instance {d : Dm} {top : Nat} : MnP (FbPost d top) := ⟨fun _ h => h⟩
abbrev N__law_first_bad : List Str := ["_law_world", "_law_tables", "_law_demand", "_law_top", "_law_many", "_law_folk_here", "_law_lines_here"]
theorem sc__law_first_bad : FnScope N__law_first_bad ["_law_world", "_law_tables", "_law_demand", "_law_top"] (defScope s__law_first_bad) := ⟨rfl, rfl, rfl, by decide +kernel, rfl, by decide +kernel, by decide +kernel⟩
abbrev sp__law_first_bad : Sp := pSp (fun (a : Dm × Nat) vs G => (∃ u v, vs = [.int a.1.m, u, v, .int a.2] ∧ rTZ (rTb a.1.tb) u G ∧ rDm a.1 v G) ∧ a.1.Ok ∧ a.1.L.length ≤ 3 ∧ a.2 ≤ 6 ∧ TopOk a.1 a.2) (fun a => FbPost a.1 a.2)
theorem has__law_first_bad (C : Ctx K mg) : Has P w K mg base "_law_first_bad" ["_law_world", "_law_tables", "_law_demand", "_law_top"] 4 sp__law_first_bad := by
  obtain ⟨fd, F⟩ := C.d__law_first_bad
  refine has_pure F C.g__law_first_bad sc__law_first_bad (fun _ _ _ _ _ _ us hl => match us, hl with | [_, _, _, _], _ => rfl) (fun a vs G h => by obtain ⟨⟨u, v, rfl, _⟩, _⟩ := h; rfl) (fun cdv A outer s H vs Q E hr a G sG hp k => ?_)
  have hu := hu_of hr
  refine ⟨_, (pss_cons (ps_for PassesOwn.never (by rfl) (pi_range1 rfl C.f_range (pa_cons (pe_op op_add (pv 3) pe_int) pa_nil)) (pg_name (i := 4) sc__law_first_bad.nd rfl (Or.inl rfl))
    (pss_cons (ps_set (i := 5) sc__law_first_bad.nd rfl (Or.inl rfl) (pe_callH (has__law_folk C) hr (by decide) rfl (pa_cons (pv 4) (pa_cons (pe_tup pa_nil) pa_nil))))
  (pss_cons (ps_set (i := 6) sc__law_first_bad.nd rfl (Or.inl rfl) (pe_callH (has__law_equations C) hr (by decide) rfl (pa_cons (pe_lst (pa_cons (pv 2) pa_nil)) (pa_cons (pv 5) pa_nil))))
  (pss_one (ps_if (pt_cmpR op_eq (pe_callB call_len_seq (by rfl) C.f_len (by decide +kernel) (pa_cons (pe_callH (has__law_search C) hr (by decide) rfl (pa_cons (pv 0) (pa_cons (pe_callH (has__law_spots C) hr (by decide) rfl (pa_cons (pv 1) (pa_cons (pv 5) pa_nil))) (pa_cons pe_dnewN (pa_cons (pv 6) pa_nil))))) pa_nil)) pe_int (nomark _))
    (pss_one (ps_ret (pv 4)))
    pss_nil)))))
  (pss_one (ps_ret pe_non))), ?_⟩
  obtain ⟨d, top⟩ := a
  obtain ⟨⟨u, v, rfl, hu', hv⟩, ok, h3, h6, ht⟩ := hp
  dsimp only at hu' hv ok h3 h6 ht
  have hm := ok.m
  refine q_for (Gb := G) (Hb := H) (Ext.refl sG) (ei_range1 (n := (top : Int) + 1) (ev_add (ev_vi rfl) ev_int) (by omega) (by omega)) (fun i σ' G' H' => ∃ x y z, σ' = [some (.int d.m), some u, some v, some (.int top), x, y, z] ∧ ∀ N, N < i → d.Fill N)
    (fun G2 H2 e2 => ⟨none, none, none, rfl, fun N h => absurd h (Nat.not_lt_zero _)⟩) (fun G2 sG2 i n v' σ' G0 H0 G' H' hk s0 e0' j e' r => ?_) (fun G2 σ' G' H' sG2 s2 e2 j => ?_)
  · obtain ⟨x, y, z, rfl, hall⟩ := j
    obtain ⟨hi, hn⟩ := upTo_get hk
    rw [show ((top : Int) + 1).toNat = top + 1 by omega] at hi
    have hn' : n = (i : Int) := by omega
    subst hn'
    cases (show v' = .int i from r)
    have hu2 : rTZ (rTb d.tb) u G' := mn (sG2.trans (s0.trans e'.g)) hu'
    have hv2 : rDm d v G' := mn (sG2.trans (s0.trans e'.g)) hv
    refine eg_name _ e'.s _ ?_
    refine q_asg (P := rL rS (folk i)) (ev_call2 (P := rI (i : Int)) (P1 := rT rS []) (post := fun n : Nat => rL rS (folk n)) i (ev_vi rfl) ev_tT0 fun v1 v2 G' _ p1 p2 => ⟨⟨v2, by rw [show v1 = .int _ from p1], p2⟩, by show i ≤ 8; omega⟩) e'.s fun fv G3 H3 e3 p3 => ?_
    refine q_asg (P := rL rLn (d.eqs (folk i))) (ev_call2 (P := rL rDm [d]) (P1 := rL rS (folk i)) (post := fun a : Dm × List Str => rL rLn (a.1.eqs a.2)) (d, folk i) (ev_l1 (R := rDm) (x := d) (ev_var rfl (mn e3.g hv2))) (ev_var rfl p3) fun v1 v2 G' _ p1 p2 => ⟨⟨v1, v2, rfl, p1, p2⟩, ok, h3, by show (folk i).length ≤ 8; rw [folk_len]; omega⟩) e3.s fun ev G4 H4 e4 p4 => ?_
    obtain ⟨b, hb⟩ : ∃ b : Bool, b = true ↔ ¬ d.Fill i := ⟨@decide (¬ d.Fill i) (Classical.propDecidable _), @decide_eq_true_iff _ (Classical.propDecidable _)⟩
    refine s_ifn (b := b) (et_B (ev_nz0 (E := d.Fill i) (ev_lenQ (EvP.imp (ev_call4 (P := rI d.m) (P1 := rL rPl (d.places i)) (P2 := rPD P w []) (P3 := rL rLn (d.eqs (folk i))) (post := fun a : SeArg => rLen (LSat a.m a.lns)) (⟨d.m, d.places i, d.eqs (folk i)⟩ : SeArg) (ev_vi rfl) (ev_call2 (P := rTZ (rTb d.tb)) (P1 := rL rS (folk i)) (post := fun a : Dm × List Str => rL rPl ((arr a.2 a.1.s).map fun row => (a.1.lab, row))) (d, folk i) (ev_var rfl (mn (e3.g.trans e4.g) hu2)) (ev_var rfl (mn e4.g p3)) fun v1 v2 G' _ p1 p2 => ⟨⟨v1, v2, rfl, p1, p2⟩, ok, by show (folk i).length ≤ 8; rw [folk_len]; omega⟩) (EvN.nd en_nd) (ev_var rfl p4) fun v1 v2 v3 v4 G' _ p1 p2 p3 p4 => ⟨⟨v2, v3, v4, by rw [show v1 = .int _ from p1], p2, p3, p4⟩, hm, Dm.places_nd d i, by have := Dm.places_len ok (N := i) (by omega); show (d.places i).length ≤ 100; omega, ?_, fun ln hl t ht => ?_⟩) fun v G' _ p => by
      obtain ⟨a, xs, ea, h, e⟩ := p
      exact ⟨a, xs, ea, h, e.trans (Dm.lsat_fill ok i)⟩)) hb)) e4.s (fun hbt G5 H5 e5 => ?_) (fun hbf G5 H5 e5 => ?_)
    · have := ht i (by omega)
      show d.m.toNat ^ ((arr (folk i) d.s).map fun row => (d.lab, row)).length ≤ 1000
      rw [List.length_map, arr_folk, List.length_map]
      exact this
    · obtain ⟨row, hrow, rfl⟩ := List.mem_map.mp hl
      obtain ⟨t2, h2, rfl⟩ := List.mem_map.mp ht
      exact ⟨Dm.sub_mem ok hrow h2, sml_abs (by have := ok.t t2 h2; show t2.1.natAbs ≤ 100; omega)⟩
    · exact s_ret (P := FbPost d top) (EvP.imp (ev_vi (n := (i : Int)) rfl) fun v G' _ p => .inr ⟨i, p, by omega, hb.mp hbt, hall⟩) e5.s fun v G6 H6 e6 p6 => k v G6 H6 (((((e0'.trans e').trans e3).trans e4).trans e5).trans e6) p6
    · refine ⟨G5, (((s0.trans e'.g).trans e3.g).trans e4.g).trans e5.g, (((e0'.trans e').trans e3).trans e4).trans e5, _, _, _, rfl, fun N hN => ?_⟩
      rcases Nat.lt_or_ge N i with h | h
      · exact hall N h
      · have : N = i := by omega
        subst this
        exact Classical.byContradiction fun q => by rw [hb.mpr q] at hbf; cases hbf
  · obtain ⟨x, y, z, rfl, hall⟩ := j
    rw [upTo_len, show ((top : Int) + 1).toNat = top + 1 by omega] at hall
    exact s_ret (P := FbPost d top) (EvP.imp ev_non fun v G' _ p => .inl ⟨p, fun N hN => hall N (by omega)⟩) e2.s fun v G3 H3 e3 p3 => k v G3 H3 (e2.trans e3) p3
end
end Eld
set_option maxRecDepth 100000
set_option maxHeartbeats 1000000
/-! The law's feed of draws: a list that changes. -/
namespace Eld
open PySem PySem.Spec PyProof.Rows L2
/-! exact reading -/
def EvE (te : TE) (σ : St) (H : Hp) (v : V) : Prop := ∀ Q : VK, Q v H → te σ H Q
def EtE (tt : TT) (σ : St) (H : Hp) (b : Bool) : Prop := ∀ Q : Bool → Hp → Prop, Q b H → tt σ H Q
section
variable {K : PySem.W.Frag} {σ : St} {H : Hp} {ta tb te : TE} {tt tu : TT} {D : Ends} {tz t1 t2 : TS}
theorem ee_var {i : Nat} {v : V} (h : σ[i]? = some (some v)) : EvE (tVar i) σ H v := fun Q q => ⟨v, h, q⟩
theorem ee_c {v : V} : EvE (tC v) σ H v := fun Q q => q
theorem ee_op {C : Int → Int → Prop} {g : Int → Int → V} {i j : Int} (ha : EvE ta σ H (.int i)) (hb : EvE tb σ H (.int j)) (hc : C i j) : EvE (tOp (L2.rI C g) ta tb) σ H (g i j) := fun Q q => ha _ (hb _ ⟨i, j, rfl, rfl, hc, q⟩)
theorem ee_op0 {g : Int → Int → V} {i j : Int} (ha : EvE ta σ H (.int i)) (hb : EvE tb σ H (.int j)) : EvE (tOp (rI0 g) ta tb) σ H (g i j) := fun Q q => ha _ (hb _ ⟨i, j, rfl, rfl, q⟩)
theorem ee_eq {i j : Int} (ha : EvE ta σ H (.int i)) (hb : EvE tb σ H (.int j)) : EvE (tOp L2.rEq ta tb) σ H (.bl (decide (i = j))) := fun Q q => ha _ (hb _ ⟨rfl, by rw [dec_intV]; exact q⟩)
theorem ee_ix {p : Addr} {xs : List V} {i : Int} {v : V} (ha : EvE ta σ H (.ref p)) (hb : EvE tb σ H (.int i)) (hl : H p = some (.lst xs)) (hi : atI xs i = some v) : EvE (tOp (rIxL K) ta tb) σ H v := fun Q q => ha _ (hb _ ⟨p, xs, i, v, rfl, rfl, SqL.of hl, hi, q⟩)
theorem ee_cb1 {r : List V → Hp → VK → Prop} {x v : V} (ha : EvE ta σ H x) (h : ∀ Q : VK, Q v H → r [x] H Q) : EvE (tCB r (tCons ta tNil)) σ H v := fun Q q => ha _ (h Q q)
theorem et_E {b : Bool} (h : EvE te σ H (.bl b)) : EtE (tB te) σ H b := fun Q q => h _ ⟨b, rfl, q⟩
theorem et_andE {a b : Bool} (h1 : EtE tt σ H a) (h2 : EtE tu σ H b) : EtE (tAnd tt tu) σ H (a && b) := fun Q q => h1 _ (by
  cases a with
  | true => exact h2 Q q
  | false => exact q)
theorem qe_asg {i : Nat} {v : V} (h : EvE te σ H v) (k : tz D (σ.set i (some v)) H) : tSeq (tAsg te (gName i)) tz D σ H := h _ k
theorem se_set {f : Addr} {xs : List V} {i : Nat} {k : Int} {j : Nat} {v : V} (h : EvE te σ H v) (hf : H f = some (.lst xs)) (hi : σ[i]? = some (some (.ref f))) (hk : ixN xs.length k = some j) (kk : D.nx σ (upd H f (.lst (xs.set j v)))) :
    tAsg te (gSub (tVar i) (tC (.int k)) rSetL) D σ H := h _ ⟨_, hi, f, xs, k, j, rfl, rfl, hf, hk, kk⟩
theorem qe_set {f : Addr} {xs : List V} {i : Nat} {k : Int} {j : Nat} {v : V} (h : EvE te σ H v) (hf : H f = some (.lst xs)) (hi : σ[i]? = some (some (.ref f))) (hk : ixN xs.length k = some j) (kk : tz D σ (upd H f (.lst (xs.set j v)))) :
    tSeq (tAsg te (gSub (tVar i) (tC (.int k)) rSetL)) tz D σ H := se_set (D := { D with nx := tz D }) h hf hi hk kk
theorem qe_if {b : Bool} (h : EtE tt σ H b) (h1 : b = true → t1 { D with nx := tz D } σ H) (h2 : b = false → t2 { D with nx := tz D } σ H) : tSeq (tIfS tt t1 t2) tz D σ H := h _ (by
  cases b with
  | true => exact h1 rfl
  | false => exact h2 rfl)
theorem s_retLst {t : TA} (h : t σ H fun xs H1 => xs.length ≤ sizeLine ∧ ∀ p, H1 p = none → D.rt (.ref p) (L2.upd H1 p (.lst xs))) : tRet (tLst t) D σ H := h
theorem qe_ifn {b : Bool} (h : EtE tt σ H b) (h1 : b = true → t1 { D with nx := tz D } σ H) (h2 : b = false → tz D σ H) : tSeq (tIfS tt t1 tNext) tz D σ H := qe_if h h1 h2
theorem qe_ifJ {b : Bool} (J : St → Hp → Prop) (k : ∀ σ' H', J σ' H' → tz D σ' H') (h : EtE tt σ H b) (h1 : (∀ σ' H', J σ' H' → tz D σ' H') → b = true → t1 { D with nx := tz D } σ H) (h2 : (∀ σ' H', J σ' H' → tz D σ' H') → b = false → t2 { D with nx := tz D } σ H) : tSeq (tIfS tt t1 t2) tz D σ H := qe_if h (h1 k) (h2 k)
theorem se_if {b : Bool} (h : EtE tt σ H b) (h1 : b = true → t1 D σ H) (h2 : b = false → t2 D σ H) : tIfS tt t1 t2 D σ H := h _ (by
  cases b with
  | true => exact h1 rfl
  | false => exact h2 rfl)
theorem se_ret {v : V} (h : EvE te σ H v) (k : D.rt v H) : tRet te D σ H := h _ k
end
theorem upd_upd {H : Hp} {f : Addr} {a b : HO} : L2.upd (L2.upd H f a) f b = L2.upd H f b := funext fun p => by
  by_cases e : p = f
  · subst e; rw [upd_same, upd_same]
  · rw [upd_ne e, upd_ne e, upd_ne e]
/-- the feed -/
abbrev Fd (c : Addr) (i : Nat) (b s n : Int) : HO := .lst [.ref c, .int i, .int b, .int s, .int n]
def FeedAt (f : Addr) (G H : Hp) : Prop := G f = none ∧ ∃ (c : Addr) (cells : List Int) (i : Nat) (b s n : Int), H f = some (Fd c i b s n) ∧ G c = some (.lst (cells.map .int))
theorem FeedAt.ext {f : Addr} {G H G' H' : Hp} (h : FeedAt f G H) (e : Ext G H G' H') : FeedAt f G' H' := by
  obtain ⟨g, c, cells, i, b, s, n, hf, hc⟩ := h
  exact ⟨e.f f (by rw [hf]; exact fun z => nomatch z) g, c, cells, i, b, s, n, e.h _ _ hf, e.g _ _ hc⟩
def rSq (K : PySem.W.Frag) (ns : List Int) : V → Hp → Prop := fun v G => ∃ a, v = .ref a ∧ SqL K G a (ns.map .int)
instance {K : PySem.W.Frag} {ns : List Int} : MnP (rSq K ns) := ⟨fun s ⟨a, e, h⟩ => ⟨a, e, seqL s h⟩⟩
section
variable {K : PySem.W.Frag} {σ : St} {G H : Hp} {ta te : TE}
theorem ei_sq {ns : List Int} (h : EvP te σ G (rSq K ns)) : EvI (iList K te) σ G rI ns := fun H s Rr k =>
  h H s _ fun v G1 H1 e p => by
    obtain ⟨a, rfl, hx⟩ := p
    refine ⟨a, rfl, ⟨_, seqL e.s hx⟩, k _ G1 H1 e ⟨fun i H hi s => ?_, fun H s => ?_, fun i d G' H' x H'' hd s s' y => ?_⟩⟩
    · have hi' : i < (ns.map V.int).length := by rw [List.length_map]; exact hi
      exact ⟨_, (ns.map V.int)[i], seqL s hx, by simp [hi']⟩
    · exact ⟨_, seqL s hx, by rw [List.length_map]; exact Nat.le_refl _⟩
    · obtain ⟨rfl, y⟩ := y
      have eu : (ns.map V.int)[i]? = some x := y _ (seqL (s.trans s') hx)
      rw [List.getElem?_map, hd] at eu
      cases eu
      exact ⟨G', Ext.refl s', rfl⟩
theorem ev_listSq {ns : List Int} (ha : EvP ta σ G (rSq K ns)) : EvP (tCB (fun xs H Q => ∃ p ys, xs = [.ref p] ∧ (SqL K H p ys ∨ SqT K H p ys) ∧ ∀ l, H l = none → Q (.ref l) (upd H l (.lst ys))) (tCons ta tNil)) σ G (rL rI ns) :=
  ev_cb1 ha fun v G' _ p H s Q q => by
    obtain ⟨a, rfl, h⟩ := p
    exact ⟨a, _, rfl, .inl (seqL s h), fun l hl => q _ _ _ (Ext.new s hl) ⟨l, _, rfl, upd_same, all2_ints.mpr rfl⟩⟩
end
section
variable {P : Program} {w : World} {K : PySem.W.Frag} {mg : Str → Option Value} {base : Heap}
abbrev N__law_feed : List Str := ["_law_script", "_law_state", "_law_cell"]
theorem sc__law_feed : FnScope N__law_feed ["_law_script"] (defScope s__law_feed) := ⟨rfl, rfl, rfl, by decide +kernel, rfl, by decide +kernel, by decide +kernel⟩
def sp__law_feed (K : PySem.W.Frag) : Sp := fun vs H Q _ => ∃ ns v, vs = [v] ∧ rSq K ns v H ∧ ∀ f G' H', Ext H H G' H' → FeedAt f G' H' → H f = none → Q (.ref f) H'
theorem has__law_feed (C : Ctx K mg) : Has P w K mg base "_law_feed" ["_law_script"] 1 (sp__law_feed K) := by
  obtain ⟨fd, F⟩ := C.d__law_feed
  refine has_mk F C.g__law_feed sc__law_feed (fun _ _ _ _ _ _ us hl => match us, hl with | [_], _ => rfl) (fun vs H Q E h => by obtain ⟨ns, v, rfl, _⟩ := h; rfl) (fun cdv A outer s H vs Q E hr hsp => ?_)
  have hu := hu_of hr
  refine ⟨_, (pss_cons (ps_set (i := 1) sc__law_feed.nd rfl (Or.inl rfl) pe_int)
  (pss_cons (ps_for PassesOwn.never (by rfl) (pi_list (pv 0)) (pg_name (i := 2) sc__law_feed.nd rfl (Or.inl rfl))
    (pss_one (ps_set (i := 1) sc__law_feed.nd rfl (Or.inl rfl) (pe_op op_modN (pe_callTy call_int1 (by rfl) C.f_int (by decide +kernel) (pa_cons (pe_op op_add (pe_op op_add (pe_op op_mul (pv 1) pe_int) (pe_op op_modN (pe_callTy call_int1 (by rfl) C.f_int (by decide +kernel) (pa_cons (pv 2) pa_nil)) pe_int)) pe_int) pa_nil)) pe_int))))
  (pss_one (ps_ret (pe_lst (pa_cons (pe_callTy call_list_of (by rfl) C.f_list (by decide +kernel) (pa_cons (pv 0) pa_nil)) (pa_cons pe_int (pa_cons pe_int (pa_cons (pv 1) (pa_cons pe_int pa_nil)))))))))), ?_⟩
  obtain ⟨ns, v, rfl, hv, kk⟩ := hsp
  have sG : Same H H := Same.refl H
  refine q_asg (P := rI 17) ev_int sG fun v1 G1 H1 e1 p1 => ?_
  cases (show v1 = .int 17 from p1)
  refine q_for (Gb := H) (Hb := H) e1 (ei_sq (ns := ns) (ev_var rfl (mn e1.g hv))) (fun i σ' G' H' => ∃ st x, σ' = [some v, some (.int st), x])
    (fun G2 H2 e2 => ⟨_, none, rfl⟩) (fun G2 sG2 i d v' σ' G0 H0 G' H' hk s0 e0' j e' r => ?_) (fun G2 σ' G' H' sG2 s2 e2 j => ?_)
  · obtain ⟨st, x, rfl⟩ := j
    cases (show v' = .int d from r)
    refine eg_name _ e'.s _ ?_
    refine s_asg (ev_mod (ev_int1 (ev_add (ev_add (ev_mul (ev_vi rfl) ev_int (.inr (by decide))) (ev_mod (ev_int1 (ev_vi rfl)) ev_int (by decide))) ev_int)) ev_int (by decide)) e'.s fun v3 G3 H3 e3 p3 => ?_
    exact ⟨G3, (s0.trans e'.g).trans e3.g, (e0'.trans e').trans e3, _, _, by rw [show v3 = .int _ from p3]; rfl⟩
  · obtain ⟨st, x, rfl⟩ := j
    refine s_retLst (ea_5 (P := rL rI ns) (P1 := rI 0) (P2 := rI 0) (P3 := rI st) (P4 := rI 0) (ev_listSq (ev_var (i := 0) rfl (mn e2.g hv))) ev_int ev_int (ev_vi (i := 1) rfl) ev_int H' e2.s _ fun vs G3 H3 e3 pp => ?_)
    obtain ⟨v1, _, rfl, p1, v2, _, rfl, p2, v3, _, rfl, p3, v4, _, rfl, p4, v5, _, rfl, p5, rfl⟩ := pp
    cases (show v2 = .int 0 from p2)
    cases (show v3 = .int 0 from p3)
    cases (show v4 = .int st from p4)
    cases (show v5 = .int 0 from p5)
    obtain ⟨c, xs, rfl, hc, al⟩ := p1
    rw [all2_ints] at al
    subst al
    refine ⟨by show 5 ≤ sizeLine; decide, fun p hp => ?_⟩
    have e23 := e2.trans e3
    refine kk p G3 _ (e23.trans (Ext.newH e3.s hp)) ⟨e3.s.free hp, c, ns, 0, 0, st, 0, upd_same, hc⟩ (e23.h.free hp)
abbrev N__law_draw : List Str := ["_law_feed_here", "_law_many", "_law_cell", "_law_found", "_law_one"]
theorem sc__law_draw : FnScope N__law_draw ["_law_feed_here", "_law_many"] (defScope s__law_draw) := ⟨rfl, rfl, rfl, by decide +kernel, rfl, by decide +kernel, by decide +kernel⟩
def sp__law_draw : Sp := fun vs H Q _ => ∃ (f c : Addr) (many : Int) (cells : List Int) (i : Nat) (b s n : Int), vs = [.ref f, .int many] ∧ (1 ≤ many ∧ many < 1000000) ∧ H f = some (Fd c i b s n) ∧ H c = some (.lst (cells.map .int)) ∧
  ∀ (d : Int) (i' : Nat) (b' s' n' : Int), 0 ≤ d → d < many → Q (.int d) (L2.upd H f (Fd c i' b' s' n'))
theorem has__law_draw (C : Ctx K mg) : Has P w K mg base "_law_draw" ["_law_feed_here", "_law_many"] 1 sp__law_draw := by
  obtain ⟨fd, F⟩ := C.d__law_draw
  refine has_mk F C.g__law_draw sc__law_draw (fun _ _ _ _ _ _ us hl => match us, hl with | [_, _], _ => rfl) (fun vs H Q E h => by obtain ⟨f, c, many, cells, i, b, s, n, rfl, _⟩ := h; rfl) (fun cdv A outer s H vs Q E hr hsp => ?_)
  have hu := hu_of hr
  refine ⟨_, (pss_cons (ps_asg (pe_op op_add (pe_ix ix_list (pv 0) pe_int (fun _ _ => rfl)) pe_int) (pg_sub (pv 0) pe_int set_list))
  (pss_cons (ps_if (PW.pt (pw_and (pt_cmpR op_eq (pe_ix ix_list (pv 0) pe_int (fun _ _ => rfl)) pe_int (nomark _)) (pw_and1 (pt_cmpR op_lt (pe_ix ix_list (pv 0) pe_int (fun _ _ => rfl)) (pe_callB call_len_seq (by rfl) C.f_len (by decide +kernel) (pa_cons (pe_ix ix_list (pv 0) pe_int (fun _ _ => rfl)) pa_nil)) (nomark _)))))
    (pss_cons (ps_set (i := 2) sc__law_draw.nd rfl (Or.inl rfl) (pe_callB call_abs (by rfl) C.f_abs (by decide +kernel) (pa_cons (pe_ix ix_list (pe_ix ix_list (pv 0) pe_int (fun _ _ => rfl)) (pe_ix ix_list (pv 0) pe_int (fun _ _ => rfl)) (fun _ _ => rfl)) pa_nil)))
  (pss_cons (ps_asg (pe_op op_add (pe_ix ix_list (pv 0) pe_int (fun _ _ => rfl)) pe_int) (pg_sub (pv 0) pe_int set_list))
  (pss_one (ps_if (pt_cmpR op_ge (pv 2) (pe_op op_pow pe_int pe_int) (nomark _))
    (pss_one (ps_asg (pv 2) (pg_sub (pv 0) pe_int set_list)))
    (pss_one (ps_asg (pe_op op_modN (pe_callTy call_int1 (by rfl) C.f_int (by decide +kernel) (pa_cons (pe_op op_add (pe_op op_add (pe_op op_mul (pe_ix ix_list (pv 0) pe_int (fun _ _ => rfl)) pe_int) (pv 2)) pe_int) pa_nil)) pe_int) (pg_sub (pv 0) pe_int set_list)))))))
    pss_nil)
  (pss_cons (ps_if (pt_cmpR op_gt (pe_ix ix_list (pv 0) pe_int (fun _ _ => rfl)) pe_int (nomark _))
    (pss_cons (ps_set (i := 3) sc__law_draw.nd rfl (Or.inl rfl) (pe_op op_modN (pe_callTy call_int1 (by rfl) C.f_int (by decide +kernel) (pa_cons (pe_ix ix_list (pv 0) pe_int (fun _ _ => rfl)) pa_nil)) (pv 1)))
  (pss_cons (ps_asg (pe_op op_fdivN (pe_ix ix_list (pv 0) pe_int (fun _ _ => rfl)) (pv 1)) (pg_sub (pv 0) pe_int set_list))
  (pss_one (ps_ret (pv 3)))))
    pss_nil)
  (pss_cons (ps_set (i := 4) sc__law_draw.nd rfl (Or.inl rfl) (pe_op op_modN (pe_callTy call_int1 (by rfl) C.f_int (by decide +kernel) (pa_cons (pe_op op_mul (pe_op op_add (pe_op op_add (pe_ix ix_list (pv 0) pe_int (fun _ _ => rfl)) (pe_op op_mul pe_int (pe_ix ix_list (pv 0) pe_int (fun _ _ => rfl)))) pe_int) pe_int) pa_nil)) pe_int))
  (pss_cons (ps_set (i := 4) sc__law_draw.nd rfl (Or.inl rfl) (pe_op op_modN (pe_callTy call_int1 (by rfl) C.f_int (by decide +kernel) (pa_cons (pe_op op_mul (pv 4) (pe_op op_add (pe_op op_fdivN (pv 4) pe_int) pe_int)) pa_nil)) pe_int))
  (pss_cons (ps_set (i := 4) sc__law_draw.nd rfl (Or.inl rfl) (pe_op op_modN (pe_callTy call_int1 (by rfl) C.f_int (by decide +kernel) (pa_cons (pe_op op_mul (pv 4) (pe_op op_add (pe_op op_fdivN (pv 4) pe_int) pe_int)) pa_nil)) pe_int))
  (pss_one (ps_ret (pe_op op_modN (pe_callTy call_int1 (by rfl) C.f_int (by decide +kernel) (pa_cons (pe_op op_fdivN (pv 4) pe_int) pa_nil)) (pv 1)))))))))), ?_⟩
  obtain ⟨f, c, many, cells, i, b, s, n, rfl, hm, hf, hc, kk⟩ := hsp
  have hfc : c ≠ f := fun e => by
    subst e
    rw [hf] at hc
    have := HO.lst.inj (Option.some.inj hc)
    cases cells with
    | nil => cases this
    | cons x xs => rw [List.map_cons] at this; injection this with h _; cases h
  have hmod : ∀ x : Int, 0 ≤ x.fmod many ∧ x.fmod many < many := fun x => fmod_in (by omega) x
  refine qe_set (f := f) (j := 4) (xs := [.ref c, .int i, .int b, .int s, .int n]) (ee_op0 (ee_ix (p := f) (v := .int n) (ee_var rfl) ee_c hf rfl) ee_c) hf rfl rfl ?_
  have hlen : EvE (tOp (rIxL K) (tVar 0) (tC (.int 0))) [some (.ref f), some (.int many), none, none, none] (L2.upd H f (Fd c i b s (n + 1))) (.ref c) := ee_ix (p := f) (ee_var rfl) ee_c upd_same rfl
  have hc1 : L2.upd H f (Fd c i b s (n + 1)) c = some (.lst (cells.map .int)) := by rw [upd_ne hfc]; exact hc
  refine qe_ifJ (b := decide (b = 0) && decide ((i : Int) < (cells.map V.int).length)) (fun σ' H' => ∃ (i' : Nat) (b' s' : Int) (x : Option V), σ' = [some (.ref f), some (.int many), x, none, none] ∧ H' = L2.upd H f (Fd c i' b' s' (n + 1))) ?_
    (et_andE (et_E (ee_eq (ee_ix (p := f) (v := .int b) (ee_var rfl) ee_c upd_same rfl) ee_c)) (et_E (ee_op0 (g := fun i j => .bl (decide (i < j))) (ee_ix (p := f) (v := .int i) (ee_var rfl) ee_c upd_same rfl) (ee_cb1 hlen fun Q q => ⟨c, _, rfl, .inl (SqL.of hc1), q⟩)))) (fun rest hb => ?_) fun rest hb => rest _ _ ⟨i, b, s, none, rfl, rfl⟩
  · rintro σ' H' ⟨i', b', s', x, rfl, rfl⟩
    refine qe_ifn (b := decide (0 < b')) (et_E (ee_op0 (g := fun i j => .bl (decide (j < i))) (ee_ix (p := f) (v := .int b') (ee_var rfl) ee_c upd_same rfl) ee_c)) (fun hb => ?_) fun hb => ?_
    · refine qe_asg (v := .int (b'.fmod many)) (ee_op (ee_cb1 (v := .int b') (ee_ix (p := f) (v := .int b') (ee_var rfl) ee_c upd_same rfl) fun Q q => .inl ⟨b', rfl, q⟩) (ee_var rfl) (by omega)) ?_
      refine qe_set (f := f) (j := 2) (v := .int (b'.fdiv many)) (ee_op (ee_ix (p := f) (v := .int b') (ee_var rfl) ee_c upd_same rfl) (ee_var rfl) ⟨by omega, by omega⟩) upd_same rfl rfl ?_
      rw [upd_upd]
      exact se_ret (v := .int (b'.fmod many)) (ee_var rfl) (kk _ i' (b'.fdiv many) s' (n + 1) (hmod b').1 (hmod b').2)
    · have m1 := fun x : Int => fmod_in (m := 2147483647) (by omega) x
      have m2 := fun x : Int => fmod_in (m := 2147483399) (by omega) x
      refine qe_asg (v := .int (((s' + 7919 * (n + 1) + 1) * 48271).fmod 2147483647)) (ee_op (ee_cb1 (v := .int ((s' + 7919 * (n + 1) + 1) * 48271)) (ee_op (ee_op0 (ee_op0 (ee_ix (p := f) (v := .int s') (ee_var rfl) ee_c upd_same rfl) (ee_op ee_c (ee_ix (p := f) (v := .int (n + 1)) (ee_var rfl) ee_c upd_same rfl) (.inl (by decide)))) ee_c) ee_c (.inr (by decide))) fun Q q => .inl ⟨_, rfl, q⟩) ee_c (by decide)) ?_
      obtain ⟨y, hy, e⟩ : ∃ y, y = ((s' + 7919 * (n + 1) + 1) * 48271).fmod 2147483647 ∧ 0 ≤ y ∧ y < 2147483647 := ⟨_, rfl, m1 _⟩
      rw [← hy]
      clear hy
      refine qe_asg (v := .int ((y * (y.fdiv 1009 + 69621)).fmod 2147483647)) (ee_op (ee_cb1 (v := .int (y * (y.fdiv 1009 + 69621))) (ee_op (ee_var rfl) (ee_op0 (ee_op (ee_var rfl) ee_c ⟨by decide, by decide⟩) ee_c) (.inl (by omega))) fun Q q => .inl ⟨_, rfl, q⟩) ee_c (by decide)) ?_
      obtain ⟨z, hz, e2⟩ : ∃ z, z = (y * (y.fdiv 1009 + 69621)).fmod 2147483647 ∧ 0 ≤ z ∧ z < 2147483647 := ⟨_, rfl, m1 _⟩
      rw [← hz]
      clear hz
      refine qe_asg (v := .int ((z * (z.fdiv 2003 + 40692)).fmod 2147483399)) (ee_op (ee_cb1 (v := .int (z * (z.fdiv 2003 + 40692))) (ee_op (ee_var rfl) (ee_op0 (ee_op (ee_var rfl) ee_c ⟨by decide, by decide⟩) ee_c) (.inl (by omega))) fun Q q => .inl ⟨_, rfl, q⟩) ee_c (by decide)) ?_
      refine se_ret (v := .int ((((z * (z.fdiv 2003 + 40692)).fmod 2147483399).fdiv 64).fmod many)) (ee_op (ee_cb1 (v := .int (((z * (z.fdiv 2003 + 40692)).fmod 2147483399).fdiv 64)) (ee_op (ee_var rfl) ee_c ⟨by decide, by decide⟩) fun Q q => .inl ⟨_, rfl, q⟩) (ee_var rfl) (by omega)) (kk _ i' b' s' (n + 1) (hmod _).1 (hmod _).2)
  · rw [Bool.and_eq_true, decide_eq_true_eq, decide_eq_true_eq, List.length_map] at hb
    have hi : i < cells.length := by omega
    refine qe_asg (v := .int (if cells[i] < 0 then -cells[i] else cells[i])) (ee_cb1 (ee_ix (p := c) (v := .int cells[i]) hlen (ee_ix (p := f) (v := .int i) (ee_var rfl) ee_c upd_same rfl) hc1 (at_of (j := i) rfl (by rw [List.getElem?_map, List.getElem?_eq_getElem hi]; rfl))) fun Q q => ⟨_, rfl, q⟩) ?_
    obtain ⟨y, hy⟩ : ∃ y : Int, y = if cells[i] < 0 then -cells[i] else cells[i] := ⟨_, rfl⟩
    rw [← hy]
    refine qe_set (f := f) (j := 1) (v := .int ((i + 1 : Nat) : Int)) (ee_op0 (g := fun i j => .int (i + j)) (ee_ix (p := f) (v := .int i) (ee_var rfl) ee_c upd_same rfl) ee_c) upd_same rfl rfl ?_
    rw [upd_upd]
    refine se_if (b := decide ((10 : Int) ^ 18 ≤ y)) (et_E (ee_op0 (g := fun i j => .bl (decide (j ≤ i))) (ee_var rfl) (ee_op (g := fun i j => .int (i ^ j.toNat)) ee_c ee_c ⟨by decide, by decide, by decide⟩))) (fun _ => ?_) fun _ => ?_
    · refine se_set (f := f) (j := 2) (v := .int y) (ee_var rfl) upd_same rfl rfl ?_
      rw [upd_upd]
      exact rest _ _ ⟨i + 1, y, s, some (.int y), rfl, rfl⟩
    · refine se_set (f := f) (j := 3) (v := .int ((s * 69621 + y + 1).fmod 2147483647)) (ee_op (ee_cb1 (v := .int (s * 69621 + y + 1)) (ee_op0 (ee_op0 (ee_op (ee_ix (p := f) (v := .int s) (ee_var rfl) ee_c upd_same rfl) ee_c (.inr (by decide))) (ee_var rfl)) ee_c) fun Q q => .inl ⟨_, rfl, q⟩) ee_c (by decide)) upd_same rfl rfl ?_
      rw [upd_upd]
      exact rest _ _ ⟨i + 1, b, (s * 69621 + y + 1).fmod 2147483647, some (.int y), rfl, rfl⟩
end
end Eld
set_option maxRecDepth 100000
set_option maxHeartbeats 1000000
/-! Expressions that change the feed: ExF, EvD; words, pick. -/
namespace Eld
open PySem PySem.Spec PyProof.Rows L2
/-- the heap grows, the feed at f changes -/
def ExF (f : Addr) (G H G' H' : Hp) : Prop := Ext G (hid H f f) G' H' ∧ FeedAt f G' H'
theorem feed_ne {f : Addr} {G H : Hp} (h : FeedAt f G H) : H f ≠ none := by
  obtain ⟨g, c, cells, i, b, s, n, hf, hc⟩ := h
  rw [hf]; exact fun z => nomatch z
section
variable {f : Addr} {G H G1 H1 G2 H2 : Hp}
theorem ExF.refl (s : Same G H) (h : FeedAt f G H) : ExF f G H G H := ⟨Ext.hid0 s, h⟩
theorem ExF.of (s : Same G H) (h : FeedAt f G H) (e : Ext G H G1 H1) : ExF f G H G1 H1 := ⟨(Ext.hid0 s).trans e, h.ext e⟩
theorem ExF.trans (a : ExF f G H G1 H1) (b : ExF f G1 H1 G2 H2) : ExF f G H G2 H2 := ⟨a.1.hid hid_l hid_r b.1, b.2⟩
theorem ExF.s (a : ExF f G H G1 H1) : Same G1 H1 := a.1.s
theorem ExF.g (a : ExF f G H G1 H1) : Same G G1 := a.1.g
theorem ExF.h (a : ExF f G H G1 H1) {p : Addr} {o : HO} (hp : H p = some o) (n : p ≠ f) : H1 p = some o := a.1.h p o (by rw [hid_ne n n]; exact hp)
theorem ExF.fr (a : ExF f G H G1 H1) {p : Addr} (hp : H p ≠ none) (n : p ≠ f) (gp : G p = none) : G1 p = none := a.1.f p (by rw [hid_ne n n]; exact hp) gp
theorem ExF.updn (e : ExF f G H G1 H1) {p : Addr} {o : HO} (h : H p = none) (n : p ≠ f) (g : G1 p = none) : ExF f G H G1 (L2.upd H1 p o) := by
  obtain ⟨a, g', c, cells, i, b, st, n', hF, hc⟩ := e
  exact ⟨a.upd (by rw [hid_ne n n]; exact h) g, g', c, cells, i, b, st, n', by rw [upd_ne (Ne.symm n)]; exact hF, hc⟩
theorem FeedAt.know {p : Addr} {o : HO} (h : FeedAt f G H) (n : p ≠ f) (g : G p = none) : FeedAt f (L2.upd G p o) H := by
  obtain ⟨g', c, cells, i, b, st, n', hF, hc⟩ := h
  exact ⟨by rw [upd_ne (Ne.symm n)]; exact g', c, cells, i, b, st, n', hF, Same.new g _ _ hc⟩
theorem FeedAt.updn {p : Addr} {o : HO} (h : FeedAt f G H) (n : p ≠ f) : FeedAt f G (L2.upd H p o) := by
  obtain ⟨g', c, cells, i, b, st, n', hF, hc⟩ := h
  exact ⟨g', c, cells, i, b, st, n', by rw [upd_ne (Ne.symm n)]; exact hF, hc⟩
theorem ExF.know (e : ExF f G H G1 H1) {p : Addr} {o : HO} (h : H p = none) (n : p ≠ f) (g : G1 p = none) (hp : H1 p = some o) : ExF f G H (L2.upd G1 p o) H1 :=
  ⟨e.1.know (by rw [hid_ne n n]; exact h) g hp, e.2.know n g⟩
/-- the base of a loop stays hid -/
theorem Ext.exf {Gb Hb : Hp} (a : Ext Gb (Eld.hid Hb f f) G H) (b : ExF f G H G1 H1) : Ext Gb (Eld.hid Hb f f) G1 H1 := a.hid hid_l hid_r b.1
end
/-! what an expression yields, the feed changing -/
def EvD (te : TE) (σ : St) (f : Addr) (G H : Hp) (P : V → Hp → Prop) : Prop := ∀ Q : VK, (∀ v G' H', ExF f G H G' H' → P v G' → Q v H') → te σ H Q
/-- a whole number of which p holds -/
def rZ (p : Int → Prop) : V → Hp → Prop := fun v _ => ∃ d, v = .int d ∧ p d
instance {p : Int → Prop} : MnP (rZ p) := ⟨fun _ h => h⟩
section
variable {K : PySem.W.Frag} {σ : St} {f : Addr} {G H : Hp} {ta tb te tx : TE} {P P1 P2 P3 : V → Hp → Prop} {p q r : Int → Prop} {D : Ends} {tz : TS} {δ : Type}
theorem ed_p (s : Same G H) (hf : FeedAt f G H) (h : EvP te σ G P) : EvD te σ f G H P := fun Q q => h H s Q fun v G' H' e pp => q v G' H' (ExF.of s hf e) pp
theorem ed_x (s : Same G H) (hf : FeedAt f G H) (h : EvX te σ G H P) : EvD te σ f G H P := fun Q q => h Q fun v G' H' e pp => q v G' H' (ExF.of s hf e) pp
theorem ed_imp (h : EvD te σ f G H P) (i : ∀ v G' H', ExF f G H G' H' → P v G' → P1 v G') : EvD te σ f G H P1 := fun Q q => h Q fun v G' H' e pp => q v G' H' e (i v G' H' e pp)
theorem ed_int {n : Int} (s : Same G H) (hf : FeedAt f G H) : EvD (tC (.int n)) σ f G H (rZ fun d => d = n) := fun Q q => q _ _ _ (ExF.refl s hf) ⟨n, rfl, rfl⟩
theorem ed_op {rr : R2} [MnP P1] (ha : EvD ta σ f G H P1) (hb : ∀ G' H', ExF f G H G' H' → EvD tb σ f G' H' P2) (hr : ∀ x y G' H', ExF f G H G' H' → P1 x G' → P2 y G' → EvD (fun _ H Q => rr x y H Q) σ f G' H' P) : EvD (tOp rr ta tb) σ f G H P := fun Q q =>
  ha _ fun x G1 H1 e1 p1 => hb G1 H1 e1 _ fun y G2 H2 e2 p2 => hr x y G2 H2 (e1.trans e2) (mn e2.g p1) p2 Q fun v G3 H3 e3 p3 => q v G3 H3 ((e1.trans e2).trans e3) p3
theorem ed_rI {C : Int → Int → Prop} {g : Int → Int → Int} (ha : EvD ta σ f G H (rZ p)) (hb : ∀ G' H', ExF f G H G' H' → EvD tb σ f G' H' (rZ q)) (hc : ∀ i j, p i → q j → C i j ∧ r (g i j)) : EvD (tOp (L2.rI C fun i j => .int (g i j)) ta tb) σ f G H (rZ r) :=
  ed_op ha hb fun x y G' H' e ⟨i, e1, p1⟩ ⟨j, e2, p2⟩ Q k => ⟨i, j, e1, e2, (hc i j p1 p2).1, k _ _ _ (ExF.refl e.s e.2) ⟨_, rfl, (hc i j p1 p2).2⟩⟩
theorem ed_rI0 {g : Int → Int → Int} (ha : EvD ta σ f G H (rZ p)) (hb : ∀ G' H', ExF f G H G' H' → EvD tb σ f G' H' (rZ q)) (hc : ∀ i j, p i → q j → r (g i j)) : EvD (tOp (rI0 fun i j => .int (g i j)) ta tb) σ f G H (rZ r) :=
  ed_op ha hb fun x y G' H' e ⟨i, e1, p1⟩ ⟨j, e2, p2⟩ Q k => ⟨i, j, e1, e2, k _ _ _ (ExF.refl e.s e.2) ⟨_, rfl, hc i j p1 p2⟩⟩
/-- e == n, a flag -/
def rFl (p : Bool → Prop) : V → Hp → Prop := fun v _ => ∃ b, v = .bl b ∧ p b
instance {p : Bool → Prop} : MnP (rFl p) := ⟨fun _ h => h⟩
theorem ed_eq {n : Int} (ha : EvD ta σ f G H (rZ p)) : EvD (tOp L2.rEq ta (tC (.int n))) σ f G H (rFl fun _ => True) := fun Q q =>
  ha _ fun x G1 H1 e1 ⟨i, e, p1⟩ => ⟨by rw [e]; rfl, by rw [e]; exact q _ _ _ e1 ⟨_, rfl, trivial⟩⟩
/-- int(flag) -/
theorem ed_intB {p : Bool → Prop} {q : Int → Prop} (ha : EvD ta σ f G H (rFl p)) (h : ∀ b, p b → q (if b then 1 else 0)) : EvD (tCB (fun xs H Q => (∃ i, xs = [V.int i] ∧ Q (.int i) H) ∨ ∃ k, xs = [V.bl k] ∧ Q (.int (if k then 1 else 0)) H) (tCons ta tNil)) σ f G H (rZ q) := fun Q k =>
  ha _ fun x G1 H1 e1 ⟨b, e, pb⟩ => .inr ⟨b, by rw [e], k _ _ _ e1 ⟨_, rfl, h b pb⟩⟩
/-! the draw -/
theorem ed_draw {E : XK} {i : Nat} {many : Int} (hi : σ[i]? = some (some (.ref f))) (s : Same G H) (hf : FeedAt f G H) (hx : EvX tx σ G H (rI many)) (hm : 1 ≤ many ∧ many < 1000000) : EvD (tCall sp__law_draw [] E (tCons (tVar i) (tCons tx tNil))) σ f G H (rZ fun d => 0 ≤ d ∧ d < many) := fun Q q =>
  ⟨.ref f, hi, hx _ fun v G1 H1 e1 p1 => by
    cases (show v = .int many from p1)
    have h1 := hf.ext e1
    obtain ⟨g, c, cells, i, b, st, n, hF, hc⟩ := id h1
    refine ⟨f, c, many, cells, i, b, st, n, rfl, hm, hF, e1.s _ _ hc, fun d i' b' s' n' h0 h2 => q _ G1 _ ⟨⟨e1.g, fun p o hp => ?_, fun p o hp => ?_, fun p hp gp => ?_⟩, g, c, cells, i', b', s', n', upd_same, hc⟩ ⟨d, rfl, h0, h2⟩⟩
    · have hne : p ≠ f := fun z => by subst z; rw [hid_l] at hp; cases hp
      rw [upd_ne hne]
      rw [hid_ne hne hne] at hp
      exact e1.h _ _ hp
    · have hne : p ≠ f := fun z => by subst z; rw [g] at hp; cases hp
      rw [upd_ne hne]
      exact e1.s _ _ hp
    · have hne : p ≠ f := fun z => hp (by subst z; exact hid_l)
      rw [hid_ne hne hne] at hp
      exact e1.f p hp gp⟩
theorem ed_drawC {E : XK} {i : Nat} {many : Int} (hi : σ[i]? = some (some (.ref f))) (s : Same G H) (hf : FeedAt f G H) (hm : 1 ≤ many ∧ many < 1000000) : EvD (tCall sp__law_draw [] E (tCons (tVar i) (tCons (tC (.int many)) tNil))) σ f G H (rZ fun d => 0 ≤ d ∧ d < many) := ed_draw hi s hf (EvP.at ev_int s) hm
theorem ed_drawD {E : XK} {i : Nat} {N : Int} (hi : σ[i]? = some (some (.ref f))) (hx : EvD tx σ f G H (rZ fun d => 1 ≤ d ∧ d ≤ N)) (hN : N < 1000000) : EvD (tCall sp__law_draw [] E (tCons (tVar i) (tCons tx tNil))) σ f G H (rZ fun d => 0 ≤ d ∧ d < N) := fun Q q =>
  ⟨.ref f, hi, hx _ fun v G1 H1 e1 ⟨many, ev, hm1, hm2⟩ => by
    subst ev
    obtain ⟨v, hv, h⟩ := ed_drawC (E := E) (many := many) hi e1.s e1.2 ⟨hm1, by omega⟩ Q fun v G2 H2 e2 ⟨d, ed, h0, h2⟩ => q v G2 H2 (e1.trans e2) ⟨d, ed, h0, by omega⟩
    have : v = .ref f := by
      rw [hi] at hv
      exact (Option.some.inj (Option.some.inj hv)).symm
    subst this
    exact h⟩
/-! statements -/
theorem qd_asg {i : Nat} (h : EvD te σ f G H P) (k : ∀ v G' H', ExF f G H G' H' → P v G' → tz D (σ.set i (some v)) H') : tSeq (tAsg te (gName i)) tz D σ H := h _ k
theorem sd_asg {i : Nat} (h : EvD te σ f G H P) (k : ∀ v G' H', ExF f G H G' H' → P v G' → D.nx (σ.set i (some v)) H') : tAsg te (gName i) D σ H := h _ k
theorem sd_ret (h : EvD te σ f G H P) (k : ∀ v G' H', ExF f G H G' H' → P v G' → D.rt v H') : tRet te D σ H := h _ k
theorem qd_forR {g : TG} {tb : TS} (h : EvD te σ f G H (rZ p)) (k : ∀ n G1 H1, ExF f G H G1 H1 → p n → tSeq (tFor (iRng1 (tCons (tC (.int n)) tNil)) g tb) tz D σ H1) : tSeq (tFor (iRng1 (tCons te tNil)) g tb) tz D σ H :=
  h _ fun v G1 H1 e1 ⟨n, ev, pn⟩ => by subst ev; exact k n G1 H1 e1 pn
/-! a list of things that the feed gives -/
def rLx (n : Nat) (p : δ → Prop) (R : δ → V → Hp → Prop) : V → Hp → Prop := fun v G => ∃ ds, ds.length = n ∧ (∀ d ∈ ds, p d) ∧ rL R ds v G
instance {n : Nat} {p : δ → Prop} {R : δ → V → Hp → Prop} [∀ d, MnP (R d)] : MnP (rLx n p R) := ⟨fun s ⟨ds, h1, h2, h3⟩ => ⟨ds, h1, h2, mn s h3⟩⟩
theorem ed_lcN {n : Nat} {i : Nat} {p : δ → Prop} {R : δ → V → Hp → Prop} [∀ d, MnP (R d)] {vs : List Nat} (hn : n ≤ 1000) (s : Same G H) (hf : FeedAt f G H) (hw : ∀ v, wipe ((wipe σ vs).set i (some v)) vs = wipe σ vs)
    (he : ∀ x G' H', Same G' H' → FeedAt f G' H' → EvD te ((wipe σ vs).set i (some x)) f G' H' fun v G => ∃ d, p d ∧ R d v G) :
    EvD (tLc (iRng1 (tCons (tC (.int n)) tNil)) (gName i) tYes te vs) σ f G H (rLx n p R) := fun Q q => by
  refine ⟨n, rfl, by omega, by omega, fun Dl hD => ?_⟩
  have hDf : Dl ≠ f := fun z => by subst z; exact feed_ne hf hD
  have gD : G Dl = none := s.free hD
  refine ⟨fun i m H' => m = n - i ∧ i ≤ n ∧ ∃ G' acc ds, ExF f G H G' H' ∧ G' Dl = none ∧ H' Dl = some (.lst acc) ∧ All2 R G' acc ds ∧ ds.length = i ∧ ∀ d ∈ ds, p d,
    ⟨n, by omega, Nat.zero_le _, G, [], [], ExF.of s hf (Ext.newH s hD), gD, upd_same, .nil, rfl, fun d h => nomatch h⟩, ?_⟩
  rintro j m H' ⟨rfl, hj, G', acc, ds, e', gn, hDl, al, hl, hp⟩
  have hJ : ((n : Int)).toNat = n := by omega
  by_cases hlt : j < n
  · refine .inr ⟨?_, fun H' => ∃ G' acc ds, ExF f G H G' H' ∧ G' Dl = none ∧ H' Dl = some (.lst acc) ∧ All2 R G' acc ds ∧ ds.length = j + 1 ∧ ∀ d ∈ ds, p d, fun H2 l => ⟨n - (j + 1), by omega, rfl, hlt, l⟩, fun x H2 y => ?_⟩
    · show j < ((n : Int)).toNat
      omega
    · obtain ⟨rfl, rfl⟩ := y
      refine ⟨hw _, ?_⟩
      unfold tYes
      dsimp only
      rw [if_pos rfl]
      refine he _ G' H2 e'.s e'.2 _ fun v G2 H3 e2 ⟨d, pd, rd⟩ => ?_
      have hl2 := al.length
      have gn2 : G2 Dl = none := e2.fr (by rw [hDl]; exact fun z => nomatch z) hDf gn
      refine ⟨acc, e2.h hDl hDf, small1000 (by omega), G2, acc ++ [v], ds ++ [d], ?_, gn2, upd_same, (al.mono e2.g).snoc rd, by rw [List.length_append, hl]; rfl, fun d' hd' => ?_⟩
      · exact (e'.trans e2).updn hD hDf gn2
      · rcases List.mem_append.mp hd' with h | h
        · exact hp d' h
        · rw [List.mem_singleton.mp h]; exact pd
  · have e : j = n := by omega
    subst e
    refine .inl ⟨?_, ?_⟩
    · show ((j : Int)).toNat ≤ j
      omega
    · exact q _ _ _ (e'.know hD hDf gn hDl) ⟨ds, hl, hp, Dl, acc, rfl, upd_same, al.mono (Same.new gn)⟩
end
/-! more rules -/
theorem glue_fold (l : List Str) (a : Array Nat) : (l.foldl (fun acc p => acc ++ Str.empty.cps ++ p.cps) a).toList = a.toList ++ l.flatMap fun p => p.cps.toList := by
  induction l generalizing a with
  | nil => simp
  | cons x l ih =>
    rw [List.foldl_cons, ih, List.flatMap_cons, ← List.append_assoc]
    congr 1
    simp [Str.empty]
theorem join_cps (ys : List Str) : (Txt.join Str.empty ys).cps.toList = ys.flatMap fun p => p.cps.toList := by
  show (((ys.drop 1).foldl (fun acc p => acc ++ Str.empty.cps ++ p.cps) (ys.headD Str.empty).cps)).toList = _
  rw [glue_fold]
  cases ys with
  | nil => rfl
  | cons x l => rw [List.flatMap_cons]; rfl
/-- one sign of z -/
def SgS (z : Str) (x : Str) : Prop := ∃ c ∈ z.cps.toList, x = ⟨#[c]⟩
theorem sgs_len {z : Str} : ∀ {ys : List Str}, (∀ y ∈ ys, SgS z y) → (ys.flatMap fun p => p.cps.toList).length = ys.length ∧ (ys.map (·.length)).sum = ys.length ∧ ∀ c ∈ (ys.flatMap fun p => p.cps.toList), c ∈ z.cps.toList
  | [], _ => ⟨rfl, rfl, fun c h => nomatch h⟩
  | y :: ys, h => by
    obtain ⟨h1, h2, h3⟩ := sgs_len (ys := ys) fun x hx => h x (List.mem_cons_of_mem _ hx)
    obtain ⟨c, hc, rfl⟩ := h y (List.mem_cons_self ..)
    refine ⟨?_, ?_, fun d hd => ?_⟩
    · rw [List.flatMap_cons, List.length_append, h1]
      exact Nat.add_comm 1 ys.length
    · rw [List.map_cons, List.sum_cons, h2]
      exact Nat.add_comm 1 ys.length
    · rw [List.flatMap_cons] at hd
      rcases List.mem_append.mp hd with hd | hd
      · have : d = c := by simpa using hd
        rw [this]; exact hc
      · exact h3 d hd
theorem join_ofS {z : Str} {ys : List Str} (h : ∀ y ∈ ys, SgS z y) (h1 : 1 ≤ ys.length) (h8 : ys.length ≤ 8) : OfS (Txt.join Str.empty ys) z := by
  obtain ⟨a, b, c⟩ := sgs_len h
  have e := join_cps ys
  have hl : (Txt.join Str.empty ys).length = ys.length := by
    rw [← a, ← e, Array.length_toList]; rfl
  exact ⟨by omega, by omega, fun d hd => c d (by rw [← e]; exact hd)⟩
section
variable {K : PySem.W.Frag} {σ : St} {f : Addr} {G H : Hp} {ta tb te tx : TE} {tr : TA} {tt : TT} {P P1 P2 P3 : V → Hp → Prop} {p q r : Int → Prop} {D : Ends} {tz : TS} {δ : Type}
theorem et_T {b : Bool} (h : EvE te σ H (.bl b)) : EtE (tTest te) σ H b := fun Q q => h _ ⟨b, rfl, q⟩
theorem ed_lcR {g : TG} {vs : List Nat} (h : EvD te σ f G H (rZ p)) (k : ∀ n G1 H1, ExF f G H G1 H1 → p n → EvD (tLc (iRng1 (tCons (tC (.int n)) tNil)) g tt tx vs) σ f G1 H1 P) : EvD (tLc (iRng1 (tCons te tNil)) g tt tx vs) σ f G H P := fun Q q =>
  h _ fun v G1 H1 e1 ⟨n, ev, pn⟩ => by subst ev; exact k n G1 H1 e1 pn Q fun v G2 H2 e2 p2 => q v G2 H2 (e1.trans e2) p2
/-- "".join(texts) -/
theorem ed_join {pp : List Str → Prop} (hb : EvD tb σ f G H fun v G => ∃ ys, pp ys ∧ rL rS ys v G) (hz : ∀ ys, pp ys → (ys.map (·.length)).sum ≤ 1000) :
    EvD (tM1 (fun x xs H Q => ∃ a p, ∃ ys : List Str, x = .str a ∧ xs = [.ref p] ∧ (SqL K H p (ys.map V.str) ∨ SqT K H p (ys.map V.str)) ∧ (ys.map (·.length)).sum + ys.length * a.length ≤ 16777216 ∧ Q (.str (Txt.join a ys)) H) (tC (.str "")) tb) σ f G H fun v _ => ∃ ys, pp ys ∧ v = .str (Txt.join Str.empty ys) := fun Q q =>
  ⟨⟨"", rfl⟩, hb _ fun u G2 H2 e2 ⟨ys, hp, p, xs, eu, hl, al⟩ => by
    subst eu
    rw [all2_strs] at al
    subst al
    refine ⟨"", p, ys, rfl, rfl, .inl (SqL.of (e2.s _ _ hl)), ?_, q _ _ _ e2 ⟨ys, hp, rfl⟩⟩
    have := hz ys hp
    show _ + ys.length * 0 ≤ _
    omega⟩
/-- a sign of a text -/
theorem ed_sign {z : Str} (s : Same G H) (hf : FeedAt f G H) {i : Nat} (hi : σ[i]? = some (some (.str z))) (hz : z.length ≤ sizeLine) (hb : EvD tb σ f G H (rZ fun d => 0 ≤ d ∧ d < (z.cps.toList.length : Nat))) :
    EvD (tOp rIxS (tVar i) tb) σ f G H fun v G => ∃ x, SgS z x ∧ rS x v G := fun Q q =>
  ⟨_, hi, hb _ fun u G2 H2 e2 ⟨d, eu, h0, h1⟩ => by
    subst eu
    obtain ⟨n, rfl⟩ : ∃ n : Nat, d = (n : Int) := ⟨d.toNat, by omega⟩
    have hlt : n < z.cps.toList.length := by omega
    exact ⟨z, n, z.cps.toList[n], rfl, rfl, hz, atI_nat (List.getElem?_eq_getElem hlt), q _ _ _ e2 ⟨_, ⟨_, List.getElem_mem hlt, rfl⟩, rfl⟩⟩⟩
/-! defs that change the feed -/
def fSp {α : Type} (pre : α → List V → Hp → Prop) (post : α → V → Hp → Prop) : Sp := fun vs H Q _ => ∃ (a : α) (f : Addr) (G : Hp) (us : List V), vs = .ref f :: us ∧ Same G H ∧ FeedAt f G H ∧ pre a us G ∧ ∀ v G' H', ExF f G H G' H' → post a v G' → Q v H'
def EvDA (tr : TA) (σ : St) (f : Addr) (G H : Hp) (PP : List V → Hp → Prop) : Prop := ∀ Q : List V → Hp → Prop, (∀ vs G' H', ExF f G H G' H' → PP vs G' → Q vs H') → tr σ H Q
theorem eda_p {PP : List V → Hp → Prop} (s : Same G H) (hf : FeedAt f G H) (h : EvA tr σ G PP) : EvDA tr σ f G H PP := fun Q q => h H s Q fun v G' H' e pp => q v G' H' (ExF.of s hf e) pp
theorem eda_cons {PP : List V → Hp → Prop} [MnP P] (h : EvD te σ f G H P) (hr : ∀ G' H', ExF f G H G' H' → EvDA tr σ f G' H' PP) : EvDA (tCons te tr) σ f G H (pCons P PP) := fun Q q =>
  h _ fun v G' H' e pv => hr G' H' e _ fun ws G2 H2 e2 p2 => q _ G2 H2 (e.trans e2) ⟨v, ws, rfl, mn e2.g pv, p2⟩
theorem ed_callF {α : Type} {pre : α → List V → Hp → Prop} {post : α → V → Hp → Prop} {PP : List V → Hp → Prop} {E : XK} {i : Nat} (hi : σ[i]? = some (some (.ref f))) (h : EvDA tr σ f G H PP) (hp : ∀ vs G', PP vs G' → ∃ a, pre a vs G' ∧ ∀ v G2, post a v G2 → P v G2) :
    EvD (tCall (fSp pre post) [] E (tCons (tVar i) tr)) σ f G H P := fun Q q =>
  ⟨_, hi, h _ fun vs G1 H1 e1 pp => by
    obtain ⟨a, ha, hb⟩ := hp vs G1 pp
    exact ⟨a, f, G1, vs, by rw [List.append_nil], e1.s, e1.2, ha, fun v G2 H2 e2 p2 => q v G2 H2 (e1.trans e2) (hb v G2 p2)⟩⟩
end
section
variable {P : Program} {w : World} {K : PySem.W.Frag} {mg : Str → Option Value} {base : Heap}
abbrev N__law_words : List Str := ["_law_feed_here", "_law_signs", "_law_many", "_law_found", "_law_turn", "_law_most_here", "_law_word", "_law_sign"]
theorem sc__law_words : FnScope N__law_words ["_law_feed_here", "_law_signs", "_law_many"] (defScope s__law_words) := ⟨rfl, rfl, rfl, by decide +kernel, rfl, by decide +kernel, by decide +kernel⟩
abbrev sp__law_words : Sp := fSp (fun (_ : Unit) us _ => us = [.str smallS, .int 1]) (fun _ v G => ∃ x, OfS x smallS ∧ rT rS [x] v G)
theorem has__law_words (C : Ctx K mg) : Has P w K mg base "_law_words" ["_law_feed_here", "_law_signs", "_law_many"] 2 sp__law_words := by
  obtain ⟨fd, F⟩ := C.d__law_words
  refine has_mk F C.g__law_words sc__law_words (fun _ _ _ _ _ _ us hl => match us, hl with | [_, _, _], _ => rfl) (fun vs H Q E h => by obtain ⟨_, _, _, _, rfl, _, _, rfl, _⟩ := h; rfl) (fun cdv A outer s H vs Q E hr hsp => ?_)
  have hu := hu_of hr
  refine ⟨_, (pss_cons (ps_set (i := 3) sc__law_words.nd rfl (Or.inl rfl) (pe_lst pa_nil))
  (pss_cons (ps_for PassesOwn.never (by rfl) (pi_range1 rfl C.f_range (pa_cons (pv 2) pa_nil)) (pg_name (i := 4) sc__law_words.nd rfl (Or.inl rfl))
    (pss_cons (ps_set (i := 5) sc__law_words.nd rfl (Or.inl rfl) (pe_op op_add pe_int (pe_op op_mulW pe_int (pe_callTy call_int1 (by rfl) C.f_int (by decide +kernel) (pa_cons (pe_cmpR op_eq (pe_callH (has__law_draw C) hr (by decide) rfl (pa_cons (pv 0) (pa_cons pe_int pa_nil))) pe_int (nomark _)) pa_nil)))))
  (pss_cons (ps_set (i := 6) sc__law_words.nd rfl (Or.inl rfl) (pe_join pe_str (pe_lc (own := [("_law_sign", 7)]) (by rfl) sc__law_words.nd (pi_range1 rfl C.f_range (pa_cons (pe_op op_add pe_int (pe_callH (has__law_draw C) hr (by decide) rfl (pa_cons (pv 0) (pa_cons (pv 5) pa_nil)))) pa_nil)) (blkOk_by (own := [("_law_sign", 7)]) (N := N__law_words) (sc := defScope s__law_words) (by decide +kernel)) (fun _ _ _ _ _ => (pg_name (i := 7) sc__law_words.nd rfl (Or.inl rfl))) (fun _ _ _ _ _ => pts_nil) (fun _ _ _ _ _ => (pe_ix ix_str (pv 1) (pe_callH (has__law_draw (P := P) (w := w) (base := base) C) hr (by decide) rfl (pa_cons (pv 0) (pa_cons pe_int pa_nil))) (fun _ _ => rfl))))))
  (pss_one (ps_if (pt_cmpR op_notIn_seq (pv 6) (pv 3) (by rfl))
    (pss_one (ps_expr (pe_bm PySem.F.plainAttrs_list PySem.F.slot_list_append PySem.F.type_list_append mt_append (pv 3) (pa_cons (pv 6) pa_nil))))
    pss_nil)))))
  (pss_one (ps_ret (pe_callTy call_tuple_of (by rfl) C.f_tuple (by decide +kernel) (pa_cons (pe_callB cr_sortedS (by rfl) C.f_sorted (by decide +kernel) (pa_cons (pv 3) pa_nil)) pa_nil)))))), ?_⟩
  obtain ⟨_, f, G, _, rfl, sG, hf, rfl, k⟩ := hsp
  have hs26 : smallS.cps.toList.length = 26 := by decide +kernel
  refine q_asgN (en_l0 (R := rS)) sG fun l o G1 H1 e1 hl gl hol ol => ?_
  obtain ⟨xs0, rfl, al0⟩ := ol
  cases al0
  have hlf : l ≠ f := fun z => by subst z; exact feed_ne hf hl
  have f1 := ExF.of sG hf e1
  refine q_for (Gb := G) (Hb := hid H f f) f1.1 (ei_range1 (n := 1) (ev_vi rfl) (by omega) (by omega)) (fun i σ' G' H' => ∃ a b c xs, σ' = [some (.ref f), some (.str smallS), some (.int 1), some (.ref l), a, b, c, none] ∧ FeedAt f G' H' ∧ H' l = some (.lst xs) ∧ G' l = none ∧ ((i = 0 ∧ xs = []) ∨ (i = 1 ∧ ∃ x, OfS x smallS ∧ xs = [.str x])))
    (fun G2 H2 e2 => ⟨none, none, none, [], rfl, f1.2.ext e2, e2.h _ _ hol, e2.f l (by rw [hol]; exact fun z => nomatch z) gl, .inl ⟨rfl, rfl⟩⟩) (fun G2 sG2 i d v' σ' G0 H0 G' H' hk s0 e0' j e' r => ?_) (fun G2 σ' G' H' sG2 s2 e2 j => ?_)
  · obtain ⟨a, b, c, xs, rfl, hf0, hx, gx, hor⟩ := j
    have hi : i = 0 := by have := (upTo_get hk).1; omega
    subst hi
    have hxs : xs = [] := by
      rcases hor with ⟨_, h⟩ | ⟨h, _⟩
      · exact h
      · omega
    subst hxs
    have hf' := hf0.ext e'
    have hx' := e'.h _ _ hx
    have gx' := e'.f l (by rw [hx]; exact fun z => nomatch z) gx
    refine eg_name _ e'.s _ ?_
    refine qd_asg (f := f) (G := G') (P := rZ fun d => 1 ≤ d ∧ d ≤ 8) (ed_rI0 (p := fun d => d = 2) (q := fun d => d = 0 ∨ d = 6) (ed_int e'.s hf') (fun G2 H2 e2 => ed_rI (p := fun d => d = 6) (q := fun d => d = 0 ∨ d = 1) (ed_int e2.s e2.2) (fun G3 H3 e3 => ed_intB (ed_eq (ed_drawC rfl e3.s e3.2 (by omega))) fun b _ => by cases b <;> simp) fun i j hi hj => ?_) fun i j hi hj => ?_) fun v3 G3 H3 e3 p3 => ?_
    · subst hi
      rcases hj with rfl | rfl <;> exact ⟨cmulW_of rfl rfl, by decide⟩
    · subst hi
      rcases hj with rfl | rfl <;> decide
    · obtain ⟨m, rfl, hm1, hm2⟩ := p3
      have hx3 := e3.h hx' hlf
      have gx3 := e3.fr (by rw [hx']; exact fun z => nomatch z) hlf gx'
      refine qd_asg (f := f) (G := G3) (P := fun v _ => ∃ ys, (1 ≤ ys.length ∧ ys.length ≤ 8 ∧ ∀ y ∈ ys, SgS smallS y) ∧ v = .str (Txt.join Str.empty ys)) (ed_join (pp := fun ys => 1 ≤ ys.length ∧ ys.length ≤ 8 ∧ ∀ y ∈ ys, SgS smallS y) (ed_lcR (p := fun n => 1 ≤ n ∧ n ≤ 8) (ed_rI0 (p := fun d => d = 1) (q := fun d => 0 ≤ d ∧ d < m) (ed_int e3.s e3.2) (fun G4 H4 e4 => ed_draw rfl e4.s e4.2 (EvP.at (ev_vi rfl) e4.s) (by omega)) fun i j hi hj => by subst hi; omega) fun n G4 H4 e4 hn => ?_) fun ys hys => ?_) fun v5 G5 H5 e5 p5 => ?_
      · obtain ⟨n, rfl⟩ : ∃ n' : Nat, n = (n' : Int) := ⟨n.toNat, by omega⟩
        refine ed_imp (ed_lcN (p := SgS smallS) (R := rS) (n := n) (by omega) e4.s e4.2 (fun v => rfl) fun x G5 H5 s5 f5 => ed_sign s5 f5 rfl (by decide +kernel) (ed_imp (ed_drawC rfl s5 f5 (by omega)) fun v _ _ _ p => by rw [hs26]; exact p)) fun v G5 H5 e5 ⟨ds, h1, h2, h3⟩ => ⟨ds, ⟨by omega, by omega, h2⟩, h3⟩
      · have := (sgs_len hys.2.2).2.1
        omega
      · obtain ⟨ys, ⟨h1, h8, hsg⟩, rfl⟩ := p5
        have hof := join_ofS hsg h1 h8
        have hx5 := e5.h hx3 hlf
        have gx5 := e5.fr (by rw [hx3]; exact fun z => nomatch z) hlf gx3
        refine se_if (b := true) (et_T fun Q q => ⟨_, rfl, _, rfl, l, [], rfl, .inl (SqL.of hx5), rfl, rfl, q⟩) (fun _ => ?_) fun z => nomatch z
        refine s_app (P := rS (Txt.join Str.empty ys)) hx5 (ev_var rfl rfl) (ev_vs rfl) e5.s (small1000 (Nat.zero_le _)) fun v6 G6 H6 e6 p6 h6 => ?_
        cases (show v6 = .str _ from p6)
        have gx6 := e6.f l (by rw [hx5]; exact fun z => nomatch z) gx5
        have f6 := (e3.trans e5).trans (ExF.of e5.s e5.2 e6)
        have hlb : hid H f f l = none := by rw [hid_ne hlf hlf]; exact hl
        exact ⟨G6, (s0.trans e'.g).trans f6.g, (((e0'.trans e').exf f6)).upd hlb gx6, _, _, _, _, rfl, f6.2.updn hlf, upd_same, gx6, .inr ⟨rfl, _, hof, rfl⟩⟩
  · obtain ⟨a, b, c, xs, rfl, hf0, hx, gx, hor⟩ := j
    rcases hor with ⟨h, _⟩ | ⟨_, x, hof, rfl⟩
    · rw [upTo_len] at h; exact absurd h (by decide)
    have e3 : ExF f G H G' H' := ⟨e2, hf0⟩
    have e4 := e3.know hl hlf gx hx
    refine sd_ret (f := f) (ed_p e4.s e4.2 (ev_tupL (R := rS) (ds := [x]) (EvP.imp (ev_sortS (ds := [x]) (ev_var rfl ⟨l, _, rfl, upd_same, .cons rfl .nil⟩) (by show 1 < 64; omega)) fun v G5 _ ⟨ys, hp, _, h⟩ => by
      rw [List.perm_singleton.mp hp] at h; exact h))) fun v G5 H5 e5 p5 => k v G5 H5 (e4.trans e5) ⟨x, hof, p5⟩
end
end Eld
set_option maxRecDepth 100000
set_option maxHeartbeats 1000000
/-! The law's own def pick. -/
namespace Eld
open PySem PySem.Spec PyProof.Rows L2
theorem erase_map {α β : Type} (g : α → β) : ∀ (l : List α) (i : Nat), (l.map g).eraseIdx i = (l.eraseIdx i).map g
  | [], _ => rfl
  | _ :: _, 0 => rfl
  | a :: l, i + 1 => by
    show g a :: (l.map g).eraseIdx i = g a :: (l.eraseIdx i).map g
    rw [erase_map g l i]
theorem erase_perm {α : Type} : ∀ (l : List α) (i : Nat) (h : i < l.length), (l[i] :: l.eraseIdx i).Perm l
  | [], _, h => absurd h (Nat.not_lt_zero _)
  | _ :: _, 0, _ => List.Perm.refl _
  | a :: l, i + 1, h => by
    have h' : i < l.length := Nat.lt_of_succ_lt_succ h
    exact (List.Perm.swap a l[i] (l.eraseIdx i)).trans ((erase_perm l i h').cons a)
section
variable {K : PySem.W.Frag} {σ : St} {f : Addr} {G H : Hp} {te : TE}
theorem en_listO {i : Nat} {v : V} {things : List Str} (hi : σ[i]? = some (some v)) (hv : (∃ x, v = .str x ∧ signs x = things ∧ x.length ≤ sizeLine) ∨ rL rS things v G) :
    EvN (tCB (cOr (fun xs H Q => ∃ x : Str, xs = [V.str x] ∧ x.length ≤ sizeLine ∧ ∀ p, H p = none → Q (.ref p) (upd H p (.lst ((Eld.signs x).map V.str)))) (fun xs H Q => ∃ p ys, xs = [V.ref p] ∧ (SqL K H p ys ∨ SqT K H p ys) ∧ ∀ l, H l = none → Q (.ref l) (upd H l (.lst ys)))) (tCons (tVar i) tNil)) σ G (oL rS things) := fun H s Q q =>
  ⟨v, hi, by
    rcases hv with ⟨x, rfl, rfl, hl⟩ | ⟨a, xs, rfl, ha, al⟩
    · exact .inl ⟨x, rfl, hl, fun p hp => q p _ G _ (Ext.newH s hp) hp (s.free hp) upd_same ⟨_, rfl, all2_strs.mpr rfl⟩⟩
    · exact .inr ⟨a, xs, rfl, .inl (SqL.of (s _ _ ha)), fun p hp => q p _ G _ (Ext.newH s hp) hp (s.free hp) upd_same ⟨_, rfl, al⟩⟩⟩
end
section
variable {P : Program} {w : World} {K : PySem.W.Frag} {mg : Str → Option Value} {base : Heap}
abbrev N__law_pick : List Str := ["_law_feed_here", "_law_things", "_law_many", "_law_left", "_law_found", "_law_turn"]
theorem sc__law_pick : FnScope N__law_pick ["_law_feed_here", "_law_things", "_law_many"] (defScope s__law_pick) := ⟨rfl, rfl, rfl, by decide +kernel, rfl, by decide +kernel, by decide +kernel⟩
abbrev sp__law_pick : Sp := fSp (fun (a : List Str × Nat) us G => (∃ u, us = [u, .int a.2] ∧ ((∃ x, u = .str x ∧ signs x = a.1 ∧ x.length ≤ sizeLine) ∨ rL rS a.1 u G)) ∧ a.1.Nodup ∧ a.2 ≤ a.1.length ∧ a.1.length ≤ 100) (fun a v G => ∃ ys : List Str, ys.length = a.2 ∧ ys.Nodup ∧ (∀ y ∈ ys, y ∈ a.1) ∧ rL rS ys v G)
theorem has__law_pick (C : Ctx K mg) : Has P w K mg base "_law_pick" ["_law_feed_here", "_law_things", "_law_many"] 2 sp__law_pick := by
  obtain ⟨fd, F⟩ := C.d__law_pick
  refine has_mk F C.g__law_pick sc__law_pick (fun _ _ _ _ _ _ us hl => match us, hl with | [_, _, _], _ => rfl) (fun vs H Q E h => by obtain ⟨_, _, _, _, rfl, _, _, ⟨⟨_, rfl, _⟩, _⟩, _⟩ := h; rfl) (fun cdv A outer s H vs Q E hr hsp => ?_)
  have hu := hu_of hr
  refine ⟨_, (pss_cons (ps_set (i := 3) sc__law_pick.nd rfl (Or.inl rfl) (pe_callTy (call_or (call_list_strH rfl) call_list_of) (by rfl) C.f_list (by decide +kernel) (pa_cons (pv 1) pa_nil)))
  (pss_cons (ps_set (i := 4) sc__law_pick.nd rfl (Or.inl rfl) (pe_lst pa_nil))
  (pss_cons (ps_for PassesOwn.never (by rfl) (pi_range1 rfl C.f_range (pa_cons (pv 2) pa_nil)) (pg_name (i := 5) sc__law_pick.nd rfl (Or.inl rfl))
    (pss_one (ps_expr (pe_bm PySem.F.plainAttrs_list PySem.F.slot_list_append PySem.F.type_list_append mt_append (pv 4) (pa_cons (pe_bm PySem.F.plainAttrs_list PySem.F.slot_list_pop PySem.F.type_list_pop mt_popAt (pv 3) (pa_cons (pe_callH (has__law_draw C) hr (by decide) rfl (pa_cons (pv 0) (pa_cons (pe_callB call_len_seq (by rfl) C.f_len (by decide +kernel) (pa_cons (pv 3) pa_nil)) pa_nil))) pa_nil)) pa_nil)))))
  (pss_one (ps_ret (pv 4)))))), ?_⟩
  obtain ⟨⟨things, many⟩, f, G, _, rfl, sG, hf, ⟨⟨u, rfl, hu'⟩, hnd, hmany, hlen⟩, k⟩ := hsp
  dsimp only at hu' hnd hmany hlen
  refine q_asgN (en_listO rfl hu') sG fun l o G1 H1 e1 hl gl hol ol => ?_
  obtain ⟨xs0, rfl, al0⟩ := ol
  rw [all2_strs] at al0
  subst al0
  have hlf : l ≠ f := fun z => by subst z; exact feed_ne hf hl
  refine q_asgN (en_l0 (R := rS)) e1.s fun m o G2 H2 e2 hm gm hom om => ?_
  obtain ⟨xs1, rfl, al1⟩ := om
  cases al1
  have hml : m ≠ l := fun z => by subst z; rw [hol] at hm; cases hm
  have hmH : H m = none := e1.h.free hm
  have hmf : m ≠ f := fun z => by subst z; exact feed_ne hf hmH
  have e02 := e1.trans e2
  have f2 := ExF.of sG hf e02
  have hlb : hid H f f l = none := by rw [hid_ne hlf hlf]; exact hl
  have hmb : hid H f f m = none := by rw [hid_ne hmf hmf]; exact hmH
  refine q_for (Gb := G) (Hb := hid H f f) f2.1 (ei_range1 (n := (many : Int)) (ev_vi rfl) (by omega) (by omega)) (fun i σ' G' H' => ∃ (a : Option V) (left found : List Str), σ' = [some (.ref f), some u, some (.int many), some (.ref l), some (.ref m), a] ∧ FeedAt f G' H' ∧ H' l = some (.lst (left.map .str)) ∧ G' l = none ∧ H' m = some (.lst (found.map .str)) ∧ G' m = none ∧ found.length = i ∧ (found ++ left).Perm things)
    (fun G3 H3 e3 => ⟨none, things, [], rfl, f2.2.ext e3, e3.h _ _ (e2.h _ _ hol), e3.f l (by rw [e2.h _ _ hol]; exact fun z => nomatch z) (e2.f l (by rw [hol]; exact fun z => nomatch z) gl), e3.h _ _ hom, e3.f m (by rw [hom]; exact fun z => nomatch z) gm, rfl, List.Perm.refl _⟩) (fun G3 sG3 i d v' σ' G0 H0 G' H' hk s0 e0' j e' r => ?_) (fun G3 σ' G' H' sG3 s3 e3 j => ?_)
  · obtain ⟨a, left, found, rfl, hf0, hx, gx, hy, gy, hfl, hperm⟩ := j
    have hi : i < many := by have := (upTo_get hk).1; omega
    have hf' := hf0.ext e'
    have hx' := e'.h _ _ hx
    have gx' := e'.f l (by rw [hx]; exact fun z => nomatch z) gx
    have hy' := e'.h _ _ hy
    have gy' := e'.f m (by rw [hy]; exact fun z => nomatch z) gy
    have hll : found.length + left.length = things.length := by rw [← List.length_append]; exact hperm.length_eq
    refine eg_name _ e'.s _ ?_
    refine ⟨_, rfl, Or.inl ⟨rfl, _, SqL.of hy'⟩, _, rfl, Or.inl ⟨rfl, _, SqL.of hx'⟩, ?_⟩
    refine ed_draw (f := f) (many := (left.length : Int)) rfl e'.s hf' (fun Q q => ⟨_, rfl, l, _, rfl, .inl (SqL.of hx'), q _ G' _ (Ext.refl e'.s) (by rw [List.length_map]; rfl)⟩) (by omega) _ fun v G4 H4 e4 ⟨n, en, h0, h1⟩ => ?_
    subst en
    have hx4 := e4.h hx' hlf
    have hy4 := e4.h hy' hmf
    have gx4 := e4.fr (by rw [hx']; exact fun z => nomatch z) hlf gx'
    have gy4 := e4.fr (by rw [hy']; exact fun z => nomatch z) hmf gy'
    have hn : n.toNat < left.length := by omega
    refine ⟨l, _, n, n.toNat, .str left[n.toNat], rfl, rfl, hx4, by omega, by omega, seqIndex_of h0 (by rw [List.length_map]; exact h1), by rw [List.getElem?_map, List.getElem?_eq_getElem hn]; rfl, ?_⟩
    refine ⟨m, _, _, rfl, rfl, by rw [upd_ne hml]; exact hy4, by rw [List.length_map]; exact small1000 (by omega), ?_⟩
    have e5 := (e0'.trans e').exf e4
    refine ⟨G4, (s0.trans e'.g).trans e4.g, (e5.upd hlb gx4).upd hmb gy4, _, left.eraseIdx n.toNat, found ++ [left[n.toNat]], rfl, (e4.2.updn hlf).updn hmf, ?_, gx4, ?_, gy4, by rw [List.length_append, hfl]; rfl, ?_⟩
    · rw [upd_ne (Ne.symm hml), upd_same, erase_map]
    · rw [upd_same, List.map_append]; rfl
    · refine List.Perm.trans ?_ hperm
      rw [List.append_assoc]
      exact List.Perm.append_left found (erase_perm left n.toNat hn)
  · obtain ⟨a, left, found, rfl, hf0, hx, gx, hy, gy, hfl, hperm⟩ := j
    rw [upTo_len] at hfl
    have f3 : ExF f G H G' H' := ⟨e3, hf0⟩
    have f4 := f3.know hmH hmf gy hy
    have hnd2 : (found ++ left).Nodup := hperm.nodup_iff.mpr hnd
    exact sd_ret (f := f) (ed_p f4.s f4.2 (ev_var (P := rL rS found) rfl ⟨m, _, rfl, upd_same, all2_strs.mpr rfl⟩)) fun v G5 H5 e5 p5 => k v G5 H5 (f4.trans e5) ⟨found, by show found.length = many; omega, (List.nodup_append.mp hnd2).1, fun y hy => hperm.mem_iff.mp (List.mem_append_left _ hy), p5⟩
end
end Eld
set_option maxRecDepth 100000
set_option maxHeartbeats 1000000
/-! The law's own def one_demand. -/
namespace Eld
open PySem PySem.Spec PyProof.Rows L2
theorem pick_lets {ys : List Str} (h : ∀ y ∈ ys, y ∈ signs "abcd") (nd : ys.Nodup) : ∃ ls : List Nat, ys = ls.map let1 ∧ ls.Nodup ∧ (∀ i ∈ ls, i < 4) ∧ Txt.join Str.empty ys = lets ls := by
  have e : (ys.map unlet).map let1 = ys := by
    rw [List.map_map]
    refine (List.map_congr_left fun y hy => ?_).trans (List.map_id ys)
    have := h y hy
    rw [abcd] at this
    obtain ⟨i, _, rfl⟩ := List.mem_map.mp this
    show let1 (unlet (let1 i)) = let1 i
    rw [unlet_let]
  have nd2 : (ys.map unlet).Nodup := by
    have h2 : ((ys.map unlet).map let1).Nodup := by rw [e]; exact nd
    rw [List.nodup_iff_pairwise_ne, List.pairwise_map] at h2
    rw [List.nodup_iff_pairwise_ne]
    exact h2.imp fun hn z => hn (by rw [z])
  have h4 : ∀ i ∈ ys.map unlet, i < 4 := fun i hi => by
    obtain ⟨y, hy, rfl⟩ := List.mem_map.mp hi
    have := h y hy
    rw [abcd] at this
    obtain ⟨j, hj, rfl⟩ := List.mem_map.mp this
    rw [unlet_let]
    exact List.mem_range.mp hj
  have hl : (ys.map unlet).length ≤ 4 := by
    have := nodup_len (l := ys.map unlet) (m := List.range 4) nd2 fun x hx => List.mem_range.mpr (h4 x hx)
    rw [List.length_range] at this
    exact this
  have h3 := (letter_rows _ (List.mem_range.mpr (by omega)) _ (mem_arr.mpr ⟨rfl, nd2, fun x hx => List.mem_range.mpr (h4 x hx)⟩)).2
  rw [e] at h3
  exact ⟨ys.map unlet, e.symm, nd2, h4, h3⟩
def FacOk (d : Int) : Prop := d ≠ 0 ∧ -99 ≤ d ∧ d ≤ 99
section
variable {K : PySem.W.Frag} {σ : St} {f : Addr} {G H : Hp} {ta tb te tx : TE} {tr : TA} {P P1 : V → Hp → Prop} {D : Ends} {tz : TS} {δ : Type}
theorem ed_tupA {PP : List V → Hp → Prop} (h : EvDA tr σ f G H PP) (hn : ∀ vs G', PP vs G' → vs.length ≤ sizeLine) (hp : ∀ vs a G', PP vs G' → G' a = none → P (.ref a) (upd G' a (.tup vs))) : EvD (tTup tr) σ f G H P := fun Q q =>
  h _ fun vs G' H' e p => ⟨hn vs G' p, fun a ha => q _ _ _ (e.trans (ExF.of e.s e.2 (Ext.new e.s ha))) (hp vs a G' p (e.s.free ha))⟩
theorem sd_app {i : Nat} {l : Addr} {xs : List V} (hi : σ[i]? = some (some (.ref l))) (hl : H l = some (.lst xs)) (hlf : l ≠ f) (h : EvD ta σ f G H P) (hz : xs.length < sizeLine)
    (k : ∀ v G' H', ExF f G H G' H' → P v G' → H' l = some (.lst xs) → D.nx σ (upd H' l (.lst (xs ++ [v])))) : tDrop (tBM K "list" rAppend (tVar i) (tCons ta tNil)) D σ H :=
  ⟨_, hi, Or.inl ⟨rfl, _, SqL.of hl⟩, h _ fun v G1 H1 e1 p1 => ⟨l, xs, v, rfl, rfl, e1.h hl hlf, hz, k v G1 H1 e1 p1 (e1.h hl hlf)⟩⟩
theorem ed_ixT {ns : List Int} {p : Int → Prop} (ha : EvD ta σ f G H (rT Eld.rI ns)) (hb : ∀ G' H', ExF f G H G' H' → EvD tb σ f G' H' (rZ fun d => 0 ≤ d ∧ d < (ns.length : Nat))) (hp : ∀ n ∈ ns, p n) : EvD (tOp (rIxT K) ta tb) σ f G H (rZ p) :=
  ed_op ha hb fun x y G' H' e ⟨a, xs, ex, hx, al⟩ ⟨d, ey, h0, h1⟩ Q q => by
    have hlt : d.toNat < ns.length := by omega
    rw [all2_ints] at al
    subst al
    exact ⟨a, _, d, .int ns[d.toNat], ex, ey, SqT.of (e.s _ _ hx), at_of (j := d.toNat) (Int.toNat_of_nonneg h0).symm (by rw [List.getElem?_map, List.getElem?_eq_getElem hlt]; rfl), q _ _ _ (ExF.refl e.s e.2) ⟨_, rfl, hp _ (List.getElem_mem hlt)⟩⟩
end
section
variable {P : Program} {w : World} {K : PySem.W.Frag} {mg : Str → Option Value} {base : Heap}
def OdPost (a : Int × Str × Nat) : V → Hp → Prop := fun v G => ∃ T r, (Dm.mk a.1 a.2.1 a.2.2 T r).Ok ∧ (Dm.mk a.1 a.2.1 a.2.2 T r).L.length ≤ 3 ∧ rDm (Dm.mk a.1 a.2.1 a.2.2 T r) v G
/-- a right term -/
def TmOk (s : Nat) (pool : List Str) (t : Int × List Nat) : Prop := FacOk t.1 ∧ t.2.length = s ∧ t.2.Nodup ∧ ∀ i ∈ t.2, i < 4 ∧ let1 i ∈ pool
theorem od_len {m : Int} {lab : Str} {s : Nat} {T : List (Int × List Nat)} {r : Int} {pool : List Str} (hT : ∀ t ∈ T, TmOk s pool t) (hp : pool.length ≤ 3) : (Dm.mk m lab s T r).L.length ≤ 3 := by
  have := nodup_len (l := (Dm.mk m lab s T r).L.map let1) (m := pool) (by
    have h := Dm.L_nd (Dm.mk m lab s T r)
    rw [List.nodup_iff_pairwise_ne] at h ⊢
    rw [List.pairwise_map]
    exact h.imp fun hn z => hn (let1_inj z)) fun x hx => by
      obtain ⟨i, hi, rfl⟩ := List.mem_map.mp hx
      obtain ⟨_, t, ht, hit⟩ := Dm.L_mem.mp hi
      exact ((hT t ht).2.2.2 i hit).2
  rw [List.length_map] at this
  omega
abbrev N__law_one_demand : List Str := ["_law_feed_here", "_law_label", "_law_size", "_law_great", "_law_pool", "_law_terms_here", "_law_turn", "_law_factor", "_law_right"]
theorem sc__law_one_demand : FnScope N__law_one_demand ["_law_feed_here", "_law_label", "_law_size"] (defScope s__law_one_demand) := ⟨rfl, rfl, rfl, by decide +kernel, rfl, by decide +kernel, by decide +kernel⟩
abbrev sp__law_one_demand : Sp := fSp (fun (a : Int × Str × Nat) us _ => us = [.str a.2.1, .int a.2.2] ∧ (2 ≤ a.1 ∧ a.1 ≤ 5) ∧ OfS a.2.1 smallS ∧ (a.2.2 = 1 ∨ a.2.2 = 2)) OdPost
theorem has__law_one_demand (C : Ctx K mg) : Has P w K mg base "_law_one_demand" ["_law_feed_here", "_law_label", "_law_size"] 3 sp__law_one_demand := by
  obtain ⟨fd, F⟩ := C.d__law_one_demand
  refine has_mk F C.g__law_one_demand sc__law_one_demand (fun _ _ _ _ _ _ us hl => match us, hl with | [_, _, _], _ => rfl) (fun vs H Q E h => by obtain ⟨_, _, _, _, rfl, _, _, ⟨rfl, _⟩, _⟩ := h; rfl) (fun cdv A outer s H vs Q E hr hsp => ?_)
  have hu := hu_of hr
  refine ⟨_, (pss_cons (ps_set (i := 3) sc__law_one_demand.nd rfl (Or.inl rfl) (pe_cmpR op_eq (pe_callH (has__law_draw C) hr (by decide) rfl (pa_cons (pv 0) (pa_cons pe_int pa_nil))) pe_int (nomark _)))
  (pss_cons (ps_set (i := 4) sc__law_one_demand.nd rfl (Or.inl rfl) (pe_callH (has__law_pick C) hr (by decide) rfl (pa_cons (pv 0) (pa_cons pe_str (pa_cons (pe_op op_add pe_int (pe_callH (has__law_draw C) hr (by decide) rfl (pa_cons (pv 0) (pa_cons pe_int pa_nil)))) pa_nil)))))
  (pss_cons (ps_set (i := 5) sc__law_one_demand.nd rfl (Or.inl rfl) (pe_lst pa_nil))
  (pss_cons (ps_for PassesOwn.never (by rfl) (pi_range1 rfl C.f_range (pa_cons (pe_op op_add pe_int (pe_callH (has__law_draw C) hr (by decide) rfl (pa_cons (pv 0) (pa_cons (pe_op op_add pe_int (pe_op op_mulW pe_int (pe_callTy call_int1 (by rfl) C.f_int (by decide +kernel) (pa_cons (pv 3) pa_nil)))) pa_nil)))) pa_nil)) (pg_name (i := 6) sc__law_one_demand.nd rfl (Or.inl rfl))
    (pss_cons (ps_set (i := 7) sc__law_one_demand.nd rfl (Or.inl rfl) (pe_ix ix_tup (pe_tup (pa_cons pe_int (pa_cons (pe_un un_neg pe_int) (pa_cons pe_int (pa_cons pe_int (pa_cons (pe_un un_neg pe_int) (pa_cons pe_int pa_nil))))))) (pe_callH (has__law_draw C) hr (by decide) rfl (pa_cons (pv 0) (pa_cons pe_int pa_nil))) (fun _ _ => rfl)))
  (pss_cons (ps_if (pt_val (pv 3))
    (pss_one (ps_set (i := 7) sc__law_one_demand.nd rfl (Or.inl rfl) (pe_op op_mulW (pe_op op_add pe_int (pe_callH (has__law_draw C) hr (by decide) rfl (pa_cons (pv 0) (pa_cons pe_int pa_nil)))) (pe_op op_sub pe_int (pe_op op_mulW pe_int (pe_callH (has__law_draw C) hr (by decide) rfl (pa_cons (pv 0) (pa_cons pe_int pa_nil))))))))
    pss_nil)
  (pss_one (ps_expr (pe_bm PySem.F.plainAttrs_list PySem.F.slot_list_append PySem.F.type_list_append mt_append (pv 5) (pa_cons (pe_tup (pa_cons (pv 7) (pa_cons (pv 1) (pa_cons (pe_join pe_str (pe_callH (has__law_pick C) hr (by decide) rfl (pa_cons (pv 0) (pa_cons (pv 4) (pa_cons (pv 2) pa_nil))))) pa_nil)))) pa_nil)))))))
  (pss_cons (ps_set (i := 8) sc__law_one_demand.nd rfl (Or.inl rfl) (pe_callH (has__law_draw C) hr (by decide) rfl (pa_cons (pv 0) (pa_cons pe_int pa_nil))))
  (pss_cons (ps_if (pt_val (pv 3))
    (pss_one (ps_set (i := 8) sc__law_one_demand.nd rfl (Or.inl rfl) (pe_op op_sub (pe_callH (has__law_draw C) hr (by decide) rfl (pa_cons (pv 0) (pa_cons pe_int pa_nil))) pe_int)))
    pss_nil)
  (pss_one (ps_ret (pe_tup (pa_cons (pe_callTy call_tuple_of (by rfl) C.f_tuple (by decide +kernel) (pa_cons (pv 5) pa_nil)) (pa_cons (pv 8) pa_nil))))))))))), ?_⟩
  obtain ⟨⟨m, lab, sz⟩, f, G, _, rfl, sG, hf, ⟨rfl, hm, hlab, hsz⟩, k⟩ := hsp
  dsimp only at hm hlab hsz
  refine qd_asg (f := f) (G := G) (P := rFl fun _ => True) (ed_eq (ed_drawC rfl sG hf (by omega))) fun v1 G1 H1 e1 p1 => ?_
  obtain ⟨great, rfl, _⟩ := p1
  refine qd_asg (f := f) (G := G1) (P := fun v G => ∃ ys : List Str, (2 ≤ ys.length ∧ ys.length ≤ 3) ∧ ys.Nodup ∧ (∀ y ∈ ys, y ∈ signs "abcd") ∧ rL rS ys v G)
    (ed_callF (PP := pCons (rS "abcd") (pCons (rZ fun d => 2 ≤ d ∧ d ≤ 3) pNil)) rfl (eda_cons (ed_p e1.s e1.2 ev_str) fun G2 H2 e2 => eda_cons (ed_rI0 (p := fun d => d = 2) (q := fun d => 0 ≤ d ∧ d < 2) (ed_int e2.s e2.2) (fun G3 H3 e3 => ed_drawC rfl e3.s e3.2 (by omega)) fun i j hi hj => by subst hi; omega) fun G3 H3 e3 => eda_p e3.s e3.2 ea_nil) fun vs G' pp => ?_) fun v2 G2 H2 e2 p2 => ?_
  · obtain ⟨v, _, rfl, p1, w, _, rfl, ⟨n, rfl, h2, h3⟩, rfl⟩ := pp
    cases (show v = .str "abcd" from p1)
    have hl4 : (signs "abcd").length = 4 := by decide +kernel
    refine ⟨(signs "abcd", n.toNat), ⟨⟨_, by show _ = [V.str "abcd", .int (n.toNat : Int)]; rw [Int.toNat_of_nonneg (by omega)], .inl ⟨_, rfl, rfl, by decide +kernel⟩⟩, by show (signs "abcd").Nodup; decide +kernel, by show n.toNat ≤ (signs "abcd").length; omega, by show (signs "abcd").length ≤ 100; omega⟩, fun v G2 ⟨ys, h1, h4, h5, h6⟩ => ⟨ys, ?_, h4, h5, h6⟩⟩
    have h1 : ys.length = n.toNat := h1
    omega
  obtain ⟨pool, ⟨hp2, hp3⟩, hpnd, hpab, hpool⟩ := p2
  have e02 := e1.trans e2
  refine q_asgN (en_l0 (R := rTm)) e2.s fun l o G3 H3 e3 hl gl hol ol => ?_
  obtain ⟨xs0, rfl, al0⟩ := ol
  cases al0
  have hlf : l ≠ f := fun z => by subst z; exact feed_ne e2.2 hl
  have f3 := ExF.of e2.s e2.2 e3
  have e03 := e02.trans f3
  have hlb : hid H f f l = none := by
    rw [hid_ne hlf hlf]
    cases q : H l with
    | none => rfl
    | some o => rw [e02.h q hlf] at hl; cases hl
  refine qd_forR (f := f) (G := G3) (p := fun n => 1 ≤ n ∧ n ≤ 8) (ed_rI0 (p := fun d => d = 1) (q := fun d => 0 ≤ d ∧ d < 8) (ed_int f3.s f3.2) (fun G4 H4 e4 => ed_drawD (N := 8) rfl (ed_rI0 (p := fun d => d = 3) (q := fun d => d = 0 ∨ d = 5) (ed_int e4.s e4.2) (fun G5 H5 e5 => ed_rI (p := fun d => d = 5) (q := fun d => d = 0 ∨ d = 1) (ed_int e5.s e5.2) (fun G6 H6 e6 => ed_intB (p := fun _ => True) (ed_imp (ed_p e6.s e6.2 (ev_vb rfl)) fun v _ _ _ p => ⟨_, p, trivial⟩) fun b _ => by cases b <;> simp) fun i j hi hj => ?_) fun i j hi hj => ?_) (by omega)) fun i j hi hj => by subst hi; omega) fun n G4 H4 e4 hn => ?_
  · subst hi
    rcases hj with rfl | rfl <;> exact ⟨cmulW_of rfl rfl, by decide⟩
  · subst hi
    rcases hj with rfl | rfl <;> decide
  obtain ⟨n, rfl⟩ : ∃ n' : Nat, n = (n' : Int) := ⟨n.toNat, by omega⟩
  have e04 := e03.trans e4
  refine q_for (Gb := G) (Hb := hid H f f) e04.1 (ei_range1 (n := (n : Int)) (ev_c rfl) (by omega) (by omega)) (fun i σ' G' H' => ∃ (a b : Option V) (T : List (Int × List Nat)) (xs : List V), σ' = [some (.ref f), some (.str lab), some (.int sz), some (.bl great), some v2, some (.ref l), a, b, none] ∧ FeedAt f G' H' ∧ H' l = some (.lst xs) ∧ G' l = none ∧ T.length = i ∧ (∀ t ∈ T, TmOk sz pool t) ∧ All2 rTm G' xs (T.map fun t => (t.1, lab, lets t.2)))
    (fun G5 H5 e5 => ⟨none, none, [], [], rfl, e4.2.ext e5, e5.h _ _ (e4.h hol hlf), e5.f l (by rw [e4.h hol hlf]; exact fun z => nomatch z) (e4.fr (by rw [hol]; exact fun z => nomatch z) hlf gl), rfl, (fun t h => nomatch h), .nil⟩) (fun G5 sG5 i d v' σ' G0 H0 G' H' hk s0 e0' j e' r => ?_) (fun G5 σ' G' H' sG5 s5 e5 j => ?_)
  · obtain ⟨a, b, T, xs, rfl, hf0, hx, gx, hTl, hT, al⟩ := j
    have hi : i < n := by have := (upTo_get hk).1; omega
    have hf' := hf0.ext e'
    have hx' := e'.h _ _ hx
    have gx' := e'.f l (by rw [hx]; exact fun z => nomatch z) gx
    have al' := al.mono e'.g
    have hpool' : rL rS pool v2 G' := mn (f3.g.trans (e4.g.trans (sG5.trans (s0.trans e'.g)))) hpool
    refine eg_name _ e'.s _ ?_
    refine qd_asg (f := f) (G := G') (P := rZ FacOk) (ed_ixT (ns := [1, -1, 2, 3, -2, 1]) (ed_p e'.s hf' (ev_tA (ds := [1, -1, 2, 3, -2, 1]) (eas_cons ev_int (eas_cons (ev_neg ev_int) (eas_cons ev_int (eas_cons ev_int (eas_cons (ev_neg ev_int) (eas_cons ev_int eas_nil)))))) (by show 6 ≤ sizeLine; decide))) (fun G6 H6 e6 => ed_drawC rfl e6.s e6.2 (by omega)) (by
      intro n hn
      simp only [List.mem_cons, List.not_mem_nil, or_false] at hn
      rcases hn with rfl | rfl | rfl | rfl | rfl | rfl <;> exact ⟨by decide, by decide, by decide⟩)) fun v7 G7 H7 e7 p7 => ?_
    obtain ⟨fc, rfl, hfc⟩ := p7
    refine qe_ifJ (b := great) (fun σ' H' => ∃ (G8 : Hp) (fc : Int) , ExF f G7 H7 G8 H' ∧ FacOk fc ∧ σ' = [some (.ref f), some (.str lab), some (.int sz), some (.bl great), some v2, some (.ref l), some v', some (.int fc), none]) ?_ (et_T (ee_var rfl)) (fun rest hg => ?_) (fun rest hg => rest _ _ ⟨G7, fc, ExF.refl e7.s e7.2, hfc, rfl⟩)
    · rintro σ' H8 ⟨G8, fc, e8, hfc, rfl⟩
      have e78 := e7.trans e8
      have hx8 := e78.h hx' hlf
      have gx8 := e78.fr (by rw [hx']; exact fun z => nomatch z) hlf gx'
      have hxl := al'.length
      rw [List.length_map] at hxl
      refine sd_app (f := f) (G := G8) (P := fun v G => ∃ t, TmOk sz pool t ∧ rTm (t.1, lab, lets t.2) v G) rfl hx8 hlf (ed_tupA (PP := pCons (Eld.rI fc) (pCons (rS lab) (pCons (fun v _ => ∃ ls : List Nat, (ls.length = sz ∧ ls.Nodup ∧ ∀ i ∈ ls, i < 4 ∧ let1 i ∈ pool) ∧ v = .str (lets ls)) pNil)))
        (eda_cons (ed_p e8.s e8.2 (ev_vi rfl)) fun G9 H9 e9 => eda_cons (ed_p e9.s e9.2 (ev_vs rfl)) fun G10 H10 e10 => @eda_cons _ _ _ _ _ _ _ _ ⟨fun _ h => h⟩ (ed_imp (ed_join (pp := fun ys => ys.length = sz ∧ ys.Nodup ∧ ∀ y ∈ ys, y ∈ pool) (ed_callF (PP := pCons (rL rS pool) (pCons (Eld.rI (sz : Int)) pNil)) rfl (eda_p e10.s e10.2 (ea_2 (ev_var rfl (mn (e7.g.trans (e8.g.trans (e9.g.trans e10.g))) hpool')) (ev_vi rfl))) fun vs G' pp => ?_) fun ys hys => ?_) fun v G11 H11 _ ⟨ys, hys, ev⟩ => ?_) fun G11 H11 e11 => eda_p e11.s e11.2 ea_nil) (fun vs G' pp => ?_) (fun vs ad G' pp hn => ?_)) (small1000 (by omega)) fun v9 G9 H9 e9 p9 h9 => ?_
      · obtain ⟨v, _, rfl, p1, w, _, rfl, p2, rfl⟩ := pp
        cases (show w = .int sz from p2)
        exact ⟨(pool, sz), ⟨⟨v, rfl, .inr p1⟩, hpnd, by show sz ≤ pool.length; rcases hsz with h | h <;> omega, by show pool.length ≤ 100; omega⟩, fun v G2 ⟨ys, h1, h4, h5, h6⟩ => ⟨ys, ⟨h1, h4, h5⟩, h6⟩⟩
      · obtain ⟨ls, rfl, hnd, h4, _⟩ := pick_lets (fun y hy => hpab y (hys.2.2 y hy)) hys.2.1
        have h1 := hys.1
        rw [List.map_map, show ((fun x : Str => x.length) ∘ let1) = fun _ => 1 from rfl, List.map_const', List.sum_replicate_nat]
        rw [List.length_map] at h1
        rcases hsz with h | h <;> omega
      · obtain ⟨ls, rfl, hnd, h4, hj⟩ := pick_lets (fun y hy => hpab y (hys.2.2 y hy)) hys.2.1
        have h1 := hys.1
        rw [List.length_map] at h1
        exact ⟨ls, ⟨h1, hnd, fun i hi => ⟨h4 i hi, hys.2.2 _ (List.mem_map.mpr ⟨i, hi, rfl⟩)⟩⟩, by rw [ev, hj]⟩
      · obtain ⟨v, _, rfl, _, w, _, rfl, _, u, _, rfl, _, rfl⟩ := pp
        show 3 ≤ sizeLine
        decide
      · obtain ⟨v, _, rfl, p1, w, _, rfl, p2, u, _, rfl, ⟨ls, hls, rfl⟩, rfl⟩ := pp
        exact ⟨(fc, ls), ⟨hfc, hls.1, hls.2.1, hls.2.2⟩, ad, v, w, _, rfl, upd_same, p1, p2, rfl⟩
      · obtain ⟨t, ht, rt⟩ := p9
        have e79 := e78.trans e9
        have gx9 := e9.fr (by rw [hx8]; exact fun z => nomatch z) hlf gx8
        refine ⟨G9, (s0.trans e'.g).trans e79.g, ((e0'.trans e').exf e79).upd hlb gx9, _, _, T ++ [t], _, rfl, e9.2.updn hlf, upd_same, gx9, by rw [List.length_append, hTl]; rfl, fun t' ht' => ?_, ?_⟩
        · rcases List.mem_append.mp ht' with h | h
          · exact hT t' h
          · rw [List.mem_singleton.mp h]; exact ht
        · rw [List.map_append]
          exact (al'.mono e79.g).snoc rt
    · refine sd_asg (f := f) (G := G7) (P := rZ FacOk) (ed_rI (p := fun d => 1 ≤ d ∧ d ≤ 99) (q := fun d => d = 1 ∨ d = -1) (ed_rI0 (p := fun d => d = 1) (q := fun d => 0 ≤ d ∧ d < 99) (ed_int e7.s e7.2) (fun G8 H8 e8 => ed_drawC rfl e8.s e8.2 (by omega)) fun i j hi hj => by subst hi; omega) (fun G8 H8 e8 => ed_rI0 (p := fun d => d = 1) (q := fun d => d = 0 ∨ d = 2) (ed_int e8.s e8.2) (fun G9 H9 e9 => ed_rI (p := fun d => d = 2) (q := fun d => 0 ≤ d ∧ d < 2) (ed_int e9.s e9.2) (fun G10 H10 e10 => ed_drawC rfl e10.s e10.2 (by omega)) fun i j hi hj => ?_) fun i j hi hj => ?_) fun i j hi hj => ?_) fun v8 G8 H8 e8 p8 => ?_
      · subst hi
        have : j = 0 ∨ j = 1 := by omega
        rcases this with rfl | rfl <;> exact ⟨cmulW_of rfl rfl, by decide⟩
      · subst hi
        rcases hj with rfl | rfl <;> decide
      · refine ⟨cmulW_of (sml_abs (by omega)) (sml_abs (by omega)), ?_⟩
        rcases hj with rfl | rfl
        · exact ⟨by omega, by omega, by omega⟩
        · exact ⟨by omega, by omega, by omega⟩
      · obtain ⟨fc, rfl, hfc⟩ := p8
        exact rest _ _ ⟨G8, fc, e8, hfc, rfl⟩
  · obtain ⟨a, b, T, xs, rfl, hf0, hx, gx, hTl, hT, al⟩ := j
    rw [upTo_len, Int.toNat_natCast] at hTl
    have e05 : ExF f G H G' H' := ⟨e5, hf0⟩
    refine qd_asg (f := f) (G := G') (P := rZ fun d => -999 ≤ d ∧ d ≤ 999) (ed_imp (ed_drawC (many := 7) rfl e05.s e05.2 (by omega)) fun v _ _ _ ⟨d, h, h1, h2⟩ => ⟨d, h, by omega, by omega⟩) fun v6 G6 H6 e6 p6 => ?_
    obtain ⟨rt, rfl, hrt⟩ := p6
    refine qe_ifJ (b := great) (fun σ' H' => ∃ (G8 : Hp) (rt : Int) , ExF f G6 H6 G8 H' ∧ (-999 ≤ rt ∧ rt ≤ 999) ∧ σ' = [some (.ref f), some (.str lab), some (.int sz), some (.bl great), some v2, some (.ref l), a, b, some (.int rt)]) ?_ (et_T (ee_var rfl)) (fun rest hg => ?_) (fun rest hg => rest _ _ ⟨G6, rt, ExF.refl e6.s e6.2, hrt, rfl⟩)
    · rintro σ' H8 ⟨G8, rt, e8, hrt, rfl⟩
      have e68 := e6.trans e8
      have hx8 := e68.h hx hlf
      have gx8 := e68.fr (by rw [hx]; exact fun z => nomatch z) hlf gx
      have e08 := e05.trans e68
      have hlH : H l = none := by rw [hid_ne hlf hlf] at hlb; exact hlb
      have e9 := e08.know hlH hlf gx8 hx8
      have hd : ∀ d : Dm, d = Dm.mk m lab sz T rt → rL rTm d.terms (.ref l) (L2.upd G8 l (.lst xs)) := fun d hd => ⟨l, xs, rfl, upd_same, by rw [hd]; exact (al.mono (e68.g)).mono (Same.new gx8)⟩
      refine sd_ret (f := f) (P := OdPost (m, lab, sz)) (ed_imp (ed_p e9.s e9.2 (ev_t2 (R := rT rTm) (S := Eld.rI) (x := (Dm.mk m lab sz T rt).terms) (y := rt) (ev_tupL (ev_var rfl (hd _ rfl))) (ev_vi rfl))) fun v G10 H10 e10 p10 => ⟨T, rt, ⟨hm, hlab, hsz, ?_, ?_, fun t ht => ?_, hrt⟩, od_len hT hp3, p10⟩) fun v G10 H10 e10 p10 => k v G10 H10 (e9.trans e10) p10
      · show 1 ≤ T.length; omega
      · show T.length ≤ 8; omega
      · obtain ⟨⟨h1, h2, h3⟩, h4, h5, h6⟩ := hT t ht
        exact ⟨h1, h2, h3, h4, h5, fun i hi => (h6 i hi).1⟩
    · refine sd_asg (f := f) (G := G6) (P := rZ fun d => -999 ≤ d ∧ d ≤ 999) (ed_rI0 (p := fun d => 0 ≤ d ∧ d < 1999) (q := fun d => d = 999) (ed_drawC rfl e6.s e6.2 (by omega)) (fun G8 H8 e8 => ed_int e8.s e8.2) fun i j hi hj => by subst hj; omega) fun v8 G8 H8 e8 p8 => ?_
      obtain ⟨rt, rfl, hrt⟩ := p8
      exact rest _ _ ⟨G8, rt, e8, hrt, rfl⟩
end
end Eld
set_option maxRecDepth 100000
set_option maxHeartbeats 8000000
/-! The law. -/
namespace Eld
open PySem PySem.Spec PyProof.Rows L2
section
variable {K : PySem.W.Frag} {σ : St} {f : Addr} {G H : Hp} {ta tb te tx : TE} {tr : TA} {P P1 : V → Hp → Prop} {D : Ends} {tz : TS} {δ α : Type}
theorem ev_tupZ [MnP P] (h : EvP te σ G P) (hr : ∀ v G', P v G' → ∃ p, v = .ref p) : EvP (tTupZ (tCons te tNil)) σ G (rTZ P) := fun H s Q q =>
  ea_1 h H s _ fun vs G' H' e p => by
    obtain ⟨v, _, rfl, p1, rfl⟩ := p
    obtain ⟨a, rfl⟩ := hr v G' p1
    exact ⟨by show 1 ≤ sizeLine; decide, fun b ob hb hd => q _ _ _ (e.trans (Ext.new e.s hb)) ⟨b, ob, a, rfl, upd_same, hd, mn (Same.new (e.s.free hb)) p1⟩⟩
theorem ev_callE {pre : α → List V → Hp → Prop} {post : α → V → Hp → Prop} {PP : List V → Hp → Prop} {E : XK} (h : EvA tr σ G PP) (hp : ∀ vs G', Same G G' → PP vs G' → ∃ a, pre a vs G' ∧ ∀ v G2, post a v G2 → P v G2) : EvP (tCall (pSp pre post) [] E tr) σ G P := fun H s Q q =>
  h H s _ fun vs G' H' e p => by
    obtain ⟨a, ha, hb⟩ := hp vs G' e.g p
    exact ⟨a, G', e.s, by rw [List.append_nil]; exact ha, fun v G2 H2 e2 p2 => q v G2 H2 (e.trans e2) (hb v G2 p2)⟩
theorem ev_isIf {E : Prop} {b : Bool} (ha : EvP ta σ G (rIfN E)) (hb : b = true ↔ ¬ E) : EvP (tOp (fun x y H Q => y = .non ∧ Q (.bl (decide (x = .non))) H) ta (tC .non)) σ G (rB b) := fun H s Q q =>
  ha H s _ fun v G1 H1 e1 p1 => ⟨rfl, q _ G1 H1 e1 (by
    show V.bl (decide (v = .non)) = V.bl b
    rw [show decide (v = .non) = b by rw [Bool.eq_iff_iff, decide_eq_true_iff, hb]; exact p1])⟩
end
def rW : V → Hp → Prop := fun v G => ∃ x, OfS x smallS ∧ rT rS [x] v G
instance : MnP rW := ⟨fun s ⟨x, h1, h2⟩ => ⟨x, h1, mn s h2⟩⟩
theorem forms_card : ∀ s ∈ [1, 2], ((arr (List.range 3) s).filter fun r => decide (rank r = r)).length = s := by decide +kernel
/-- the greatest number of comers that is gone through -/
def topOf (m s : Nat) : Nat := if s = 1 then [6, 5, 4, 4].getD (m - 2) 0 else 3
theorem topOf_le : ∀ m ∈ [2, 3, 4, 5], ∀ s ∈ [1, 2], topOf m s ≤ 6 := by decide +kernel
theorem topOf_ok {d : Dm} (ok : d.Ok) (h : d.s = 2 → d.m ≤ 3) : TopOk d (topOf d.m.toNat d.s) := fun n hn => by
  obtain ⟨h2, h5⟩ := ok.m
  obtain ⟨t1, t2⟩ := topOk
  rcases ok.s with e | e
  · rw [e] at hn ⊢
    refine t1 d.m.toNat ?_ n (List.mem_range.mpr (Nat.lt_succ_of_le hn))
    have : d.m = 2 ∨ d.m = 3 ∨ d.m = 4 ∨ d.m = 5 := by omega
    rcases this with h | h | h | h <;> rw [h] <;> decide
  · rw [e] at hn ⊢
    refine t2 d.m.toNat ?_ n (List.mem_range.mpr (Nat.lt_succ_of_le hn))
    have := h e
    have : d.m = 2 ∨ d.m = 3 := by omega
    rcases this with h | h <;> rw [h] <;> decide
/-- what served tells, as a row -/
def Told (d : Dm) (b : Bool) (M : Nat) : V → Hp → Prop := fun v G => ∃ (a : Addr) (y : V) (rest : List V), v = .ref a ∧ G a = some (.tup (.str (if b then "ever" else "more") :: y :: rest)) ∧ (b = true → d.Rule) ∧ (b = false → ¬ d.Rule ∧ y = .int ((M : Int) - 1) ∧ ¬ d.Fill M ∧ ∀ N, N < M → d.Fill N)
instance {d : Dm} {b : Bool} {M : Nat} : MnP (Told d b M) := ⟨fun s ⟨a, y, rest, e, h, h2⟩ => ⟨a, y, rest, e, s _ _ h, h2⟩⟩
theorem serv_told {d : Dm} {v : V} {G : Hp} (h : ServPost d v G) : ∃ b M, Told d b M v G := by
  rcases h with ⟨hr, a, y, rfl, h⟩ | ⟨hr, a, M, x, y, rfl, h, h1, h2⟩
  · exact ⟨true, 0, a, y, [], rfl, h, fun _ => hr, fun z => nomatch z⟩
  · exact ⟨false, M, a, _, _, rfl, h, (fun z => nomatch z), fun _ => ⟨hr, rfl, h1, h2⟩⟩
section
variable {K : PySem.W.Frag} {σ : St} {G : Hp} {te : TE} {d : Dm} {b : Bool} {M : Nat}
theorem ev_told0 (h : EvP te σ G (Told d b M)) : EvP (tOp (rIxT K) te (tC (.int 0))) σ G (rS (if b then "ever" else "more")) :=
  ev_op h (fun _ s => ev_int) fun x y G' _ p p' H s Q q => by
    obtain ⟨a, y, rest, rfl, h, _⟩ := p
    exact ⟨a, _, 0, _, rfl, p', SqT.of (s _ _ h), at_of (j := 0) rfl rfl, q _ _ _ (Ext.refl s) rfl⟩
theorem ev_told1 (h : EvP te σ G (Told d false M)) : EvP (tOp (rIxT K) te (tC (.int 1))) σ G (rI ((M : Int) - 1)) :=
  ev_op h (fun _ s => ev_int) fun x y G' _ p p' H s Q q => by
    obtain ⟨a, y, rest, rfl, h, _, h2⟩ := p
    obtain ⟨_, rfl, _⟩ := h2 rfl
    exact ⟨a, _, 1, _, rfl, p', SqT.of (s _ _ h), at_of (j := 1) rfl rfl, q _ _ _ (Ext.refl s) rfl⟩
theorem ev_toldE (h : EvP te σ G (Told d b M)) : EvP (tOp L2.rEq (tOp (rIxT K) te (tC (.int 0))) (tC (.str "ever"))) σ G (rB b) := EvP.tr (ev_eqS (ev_told0 h) ev_str) (by cases b <;> decide +kernel)
theorem ev_toldM (h : EvP te σ G (Told d b M)) : EvP (tOp L2.rEq (tOp (rIxT K) te (tC (.int 0))) (tC (.str "more"))) σ G (rB (!b)) := EvP.tr (ev_eqS (ev_told0 h) ev_str) (by cases b <;> decide +kernel)
end
section
variable {P : Program} {w : World} {K : PySem.W.Frag} {mg : Str → Option Value} {base : Heap}
abbrev N_law : List Str := ["_law_script", "_law_feed_here", "_law_size", "_law_world", "_law_top", "_law_label", "_law_demand", "_law_tables", "_law_party", "_law_told", "_law_ruled", "_law_first", "_law_many", "_law_is_bad"]
theorem sc_law : FnScope N_law ["_law_script"] (defScope s_law) := ⟨rfl, rfl, rfl, by decide +kernel, rfl, by decide +kernel, by decide +kernel⟩
def sp_law (K : PySem.W.Frag) : Sp := fun vs H Q _ => ∃ ns v, vs = [v] ∧ rSq K ns v H ∧ ∀ H', Q (.bl true) H'
theorem ok_law (C : Ctx K mg) {fd : FuncData} (F : FunD K "law" "law" (defArgs s_law) (defBody s_law) (defScope s_law) [] [] (He.ga K "law") fd) : FnOk P w K mg base CX0 12 (He.ga K "law") fd ["_law_script"] (sp_law K) := by
  refine F.ok sc_law (fun vs H Q E h => by obtain ⟨_, _, rfl, _⟩ := h; rfl) (fun cdv A outer s H vs Q E hr hsp => ?_)
  have hu := hu_of hr
  suffices hx : ∃ t, PSs (cxOf CX0 P w K mg base N_law "law" (defScope s_law) (He.ga K "law") cdv A outer s H E).nox (defBody s_law) t ∧ t { nx := fun _ H' => Q .non H', rt := Q } (start N_law vs) H from by
    obtain ⟨t, h, q⟩ := hx
    exact ⟨t, h.nox, q⟩
  refine ⟨_, (pss_cons (ps_set (i := 1) sc_law.nd rfl (Or.inl rfl) (pe_callH (has__law_feed C) hr (by decide) rfl (pa_cons (pv 0) pa_nil)))
  (pss_cons (ps_set (i := 2) sc_law.nd rfl (Or.inl rfl) (pe_op op_add pe_int (pe_callTy call_int1 (by rfl) C.f_int (by decide +kernel) (pa_cons (pe_cmpR op_eq (pe_callH (has__law_draw C) hr (by decide) rfl (pa_cons (pv 1) (pa_cons pe_int pa_nil))) pe_int (nomark _)) pa_nil))))
  (pss_cons (ps_set (i := 3) sc_law.nd rfl (Or.inl rfl) (pe_op op_add pe_int (pe_callH (has__law_draw C) hr (by decide) rfl (pa_cons (pv 1) (pa_cons (pe_ifExp (pt_cmpR op_eq (pv 2) pe_int (nomark _)) pe_int pe_int) pa_nil)))))
  (pss_cons (ps_set (i := 4) sc_law.nd rfl (Or.inl rfl) (pe_ifExp (pt_cmpR op_eq (pv 2) pe_int (nomark _)) (pe_ix ix_tup (pe_tup (pa_cons pe_int (pa_cons pe_int (pa_cons pe_int (pa_cons pe_int pa_nil))))) (pe_op op_sub (pv 3) pe_int) (fun _ _ => rfl)) pe_int))
  (pss_cons (ps_set (i := 5) sc_law.nd rfl (Or.inl rfl) (pe_ix ix_tup (pe_callH (has__law_words C) hr (by decide) rfl (pa_cons (pv 1) (pa_cons pe_str (pa_cons pe_int pa_nil)))) pe_int (fun _ _ => rfl)))
  (pss_cons (ps_set (i := 6) sc_law.nd rfl (Or.inl rfl) (pe_callH (has__law_one_demand C) hr (by decide) rfl (pa_cons (pv 1) (pa_cons (pv 5) (pa_cons (pv 2) pa_nil)))))
  (pss_cons (ps_set (i := 7) sc_law.nd rfl (Or.inl rfl) (pe_tupZ (pa_cons (pe_tup (pa_cons (pv 5) (pa_cons (pv 2) pa_nil))) pa_nil)))
  (pss_cons (ps_set (i := 8) sc_law.nd rfl (Or.inl rfl) (pe_makeH (has_Party C) hr (by decide) rfl C.g_Party (pa_cons (pe_makeH (has_Book C) hr (by decide) rfl C.g_Book (pa_cons (pv 3) (pa_cons (pv 7) (pa_cons (pe_tup (pa_cons (pv 6) pa_nil)) pa_nil)))) (pa_cons (pe_tup pa_nil) (pa_cons pe_dnewK pa_nil)))))
  (pss_cons (ps_set (i := 9) sc_law.nd rfl (Or.inl rfl) (pe_callH (has_served C) hr (by decide) rfl (pa_cons (pv 8) pa_nil)))
  (pss_cons (ps_if (PW.pt (pw_or (pt_not (pt_val (pe_callB call_isi (by rfl) C.f_isinstance (by decide +kernel) (pa_cons (pv 9) (pa_cons (pe_bltn (v := .ty "tuple") rfl C.f_tuple (by decide +kernel) rfl) pa_nil))))) (pw_or (pt_cmpR op_lt (pe_callB call_len_seq (by rfl) C.f_len (by decide +kernel) (pa_cons (pv 9) pa_nil)) pe_int (nomark _)) (pw_or1 (pt_cmpR op_notIn_seq (pe_ix ix_tup (pv 9) pe_int (fun _ _ => rfl)) (pe_tup (pa_cons pe_str (pa_cons pe_str pa_nil))) (by rfl))))))
    (pss_one (ps_ret pe_bl))
    pss_nil)
  (pss_cons (ps_set (i := 10) sc_law.nd rfl (Or.inl rfl) (pe_callH (has__law_search C) hr (by decide) rfl (pa_cons (pv 3) (pa_cons (pe_callH (has__law_forms C) hr (by decide) rfl (pa_cons (pv 7) (pa_cons (pe_tup pa_nil) pa_nil))) (pa_cons pe_dnewN (pa_cons (pe_callH (has__law_lines C) hr (by decide) rfl (pa_cons (pe_lst (pa_cons (pv 6) pa_nil)) (pa_cons (pe_tup pa_nil) pa_nil))) pa_nil))))))
  (pss_cons (ps_if (pt_cmpR op_ne (pe_cmpR op_eq (pe_ix ix_tup (pv 9) pe_int (fun _ _ => rfl)) pe_str (nomark _)) (pe_cmpR op_gt (pe_callB call_len_seq (by rfl) C.f_len (by decide +kernel) (pa_cons (pv 10) pa_nil)) pe_int (nomark _)) (nomark _))
    (pss_one (ps_ret pe_bl))
    pss_nil)
  (pss_cons (ps_set (i := 11) sc_law.nd rfl (Or.inl rfl) (pe_callH (has__law_first_bad C) hr (by decide) rfl (pa_cons (pv 3) (pa_cons (pv 7) (pa_cons (pv 6) (pa_cons (pv 4) pa_nil))))))
  (pss_cons (ps_if (PW.pt (pw_and (pt_cmpR op_notN (pv 11) pe_non (nomark _)) (pw_and1 (PW.pt (pw_or (pt_cmpR op_eq (pe_ix ix_tup (pv 9) pe_int (fun _ _ => rfl)) pe_str (nomark _)) (pw_or1 (pt_cmpR op_ne (pe_ix ix_tup (pv 9) pe_int (fun _ _ => rfl)) (pe_op op_sub (pv 11) pe_int) (nomark _))))))))
    (pss_one (ps_ret pe_bl))
    pss_nil)
  (pss_cons (ps_if (PW.pt (pw_and (pt_cmpR op_isN (pv 11) pe_non (nomark _)) (pw_and (pt_cmpR op_eq (pe_ix ix_tup (pv 9) pe_int (fun _ _ => rfl)) pe_str (nomark _)) (pw_and1 (pt_cmpR op_lt (pe_ix ix_tup (pv 9) pe_int (fun _ _ => rfl)) (pv 4) (nomark _))))))
    (pss_one (ps_ret pe_bl))
    pss_nil)
  (pss_cons (ps_set (i := 12) sc_law.nd rfl (Or.inl rfl) (pe_callH (has__law_draw C) hr (by decide) rfl (pa_cons (pv 1) (pa_cons (pe_op op_add (pv 4) pe_int) pa_nil))))
  (pss_cons (ps_set (i := 13) sc_law.nd rfl (Or.inl rfl) (pe_and (pe_cmpR op_notN (pv 11) pe_non (nomark _)) (pe_one (pe_cmpR op_ge (pv 12) (pv 11) (nomark _)))))
  (pss_one (ps_ret (pe_and (pe_cmpR op_eq (pe_cmpR op_isN (pe_callH (has_filling C) hr (by decide) rfl (pa_cons (pv 8) (pa_cons (pv 12) pa_nil))) pe_non (nomark _)) (pv 13) (nomark _)) (pe_one (pe_cmpR op_ne (pe_cmpR op_isN (pe_callH (has_refusal C) hr (by decide) rfl (pa_cons (pv 8) (pa_cons (pv 12) pa_nil))) pe_non (nomark _)) (pv 13) (nomark _))))))))))))))))))))))), ?_⟩
  obtain ⟨ns, v, rfl, hv, kk⟩ := hsp
  refine ⟨_, rfl, ns, v, rfl, hv, fun f G1 H1 e1 f1 _ => ?_⟩
  refine qd_asg (f := f) (G := G1) (P := rZ fun d => d = 1 ∨ d = 2) (ed_rI0 (p := fun d => d = 1) (q := fun d => d = 0 ∨ d = 1) (ed_int e1.s f1) (fun G2 H2 e2 => ed_intB (ed_eq (ed_drawC rfl e2.s e2.2 (by omega))) fun b _ => by cases b <;> simp) fun i j hi hj => by subst hi; omega) fun v2 G2 H2 e2 p2 => ?_
  obtain ⟨sz', rfl, hsz'⟩ := p2
  obtain ⟨sz, rfl⟩ : ∃ n' : Nat, sz' = (n' : Int) := ⟨sz'.toNat, by omega⟩
  have hsz : sz = 1 ∨ sz = 2 := by omega
  clear hsz'
  refine qd_asg (f := f) (G := G2) (P := rZ fun d => (2 ≤ d ∧ d ≤ 5) ∧ (sz = 2 → d ≤ 3)) (ed_rI0 (p := fun d => d = 2) (q := fun d => 0 ≤ d ∧ d < if sz = 1 then 4 else 2) (ed_int e2.s e2.2) (fun G3 H3 e3 => ed_draw rfl e3.s e3.2 (EvP.at (ev_if (b := decide ((sz : Int) = 1)) (et_val (ev_eq (ev_vi rfl) ev_int)) (fun hb => ?_) (fun hb => ?_)) e3.s) ?_) fun i j hi hj => ?_) fun v3 G3 H3 e3 p3 => ?_
  · have : (sz : Int) = 1 := of_decide_eq_true hb
    rw [if_pos (by omega)]
    exact ev_int
  · have : ¬ (sz : Int) = 1 := of_decide_eq_false hb
    rw [if_neg (by omega)]
    exact ev_int
  · split <;> omega
  · subst hi
    rcases hsz with rfl | rfl
    · rw [if_pos rfl] at hj
      exact ⟨by omega, fun z => by omega⟩
    · rw [if_neg (by decide)] at hj
      exact ⟨by omega, fun z => by omega⟩
  obtain ⟨m, rfl, hm, hm3⟩ := p3
  have hm5 : m = 2 ∨ m = 3 ∨ m = 4 ∨ m = 5 := by omega
  refine q_asg (P := rI ((topOf m.toNat sz : Nat) : Int)) (ev_if (b := decide ((sz : Int) = 1)) (et_val (ev_eq (ev_vi rfl) ev_int)) (fun hb => ?_) (fun hb => ?_)) e3.s fun v4 G4 H4 e4 p4 => ?_
  · have : (sz : Int) = 1 := of_decide_eq_true hb
    have hs1 : sz = 1 := by omega
    refine ev_ixT (R := Eld.rI) (ds := [6, 5, 4, 4]) (i := m - 2) (j := m.toNat - 2) (ev_tA (eas_cons ev_int (eas_cons ev_int (eas_cons ev_int (eas_cons ev_int eas_nil)))) (by show 4 ≤ sizeLine; decide)) (ev_sub (ev_vi rfl) ev_int) (by omega) ?_
    unfold topOf
    rw [if_pos hs1]
    rcases hm5 with rfl | rfl | rfl | rfl <;> rfl
  · have : ¬ (sz : Int) = 1 := of_decide_eq_false hb
    unfold topOf
    rw [if_neg (by omega)]
    exact ev_int
  cases (show v4 = .int _ from p4)
  show tSeq _ _ _ [some v, some (.ref f), some (.int (sz : Int)), some (.int m), some (.int ((topOf m.toNat sz : Nat) : Int)), none, none, none, none, none, none, none, none, none] _
  have f4 := e3.2.ext e4
  refine qd_asg (f := f) (G := G4) (P := fun v _ => ∃ x, OfS x smallS ∧ v = .str x) (ed_op (P1 := rW) (P2 := rI 0) (ed_callF (PP := pCons (rS smallS) (pCons (rI 1) pNil)) rfl (eda_p e4.s f4 (ea_2 ev_str ev_int)) fun vs G' pp => ?_) (fun G5 H5 e5 => ed_p e5.s e5.2 ev_int) fun x y G5 H5 e5 p p' Q q => ?_) fun v5 G5 H5 e5 p5 => ?_
  · obtain ⟨v, _, rfl, p1, w, _, rfl, p2, rfl⟩ := pp
    exact ⟨(), by rw [show v = .str smallS from p1, show w = .int 1 from p2], fun v G2 h => h⟩
  · obtain ⟨x, hof, a, xs, rfl, hx, al⟩ := p
    rw [all2_strs] at al
    subst al
    exact ⟨a, _, 0, .str x, rfl, p', SqT.of (e5.s _ _ hx), at_of (j := 0) rfl rfl, q _ _ _ (ExF.refl e5.s e5.2) ⟨x, hof, rfl⟩⟩
  obtain ⟨lab, hlab, rfl⟩ := p5
  refine qd_asg (f := f) (G := G5) (P := OdPost (m, lab, sz)) (ed_callF (PP := pCons (rS lab) (pCons (rI (sz : Int)) pNil)) rfl (eda_p e5.s e5.2 (ea_2 (ev_vs rfl) (ev_vi rfl))) fun vs G' pp => ?_) fun v6 G6 H6 e6 p6 => ?_
  · obtain ⟨v, _, rfl, p1, w, _, rfl, p2, rfl⟩ := pp
    exact ⟨(m, lab, sz), ⟨by rw [show v = .str lab from p1, show w = .int sz from p2], hm, hlab, hsz⟩, fun v G2 h => h⟩
  obtain ⟨T, r, ok, h3, hd6⟩ := p6
  have htok : TopOk (Dm.mk m lab sz T r) (topOf m.toNat sz) := topOf_ok ok hm3
  have htop : topOf m.toNat sz ≤ 6 := by
    refine topOf_le m.toNat ?_ sz ?_
    · rcases hm5 with rfl | rfl | rfl | rfl <;> decide
    · rcases hsz with rfl | rfl <;> decide
  obtain ⟨top, etop⟩ : ∃ top, top = topOf m.toNat sz := ⟨_, rfl⟩
  dsimp only at hd6
  rw [← etop] at htok htop ⊢
  clear etop
  obtain ⟨d, ed⟩ : ∃ d, d = Dm.mk m lab sz T r := ⟨_, rfl⟩
  obtain ⟨rfl, rfl, rfl⟩ : m = d.m ∧ lab = d.lab ∧ sz = d.s := by subst ed; exact ⟨rfl, rfl, rfl⟩
  rw [← ed] at ok h3 hd6 htok
  clear ed T r
  have f6 := e6.2
  show tSeq _ _ _ [some v, some (.ref f), some (.int d.s), some (.int d.m), some (.int (top : Int)), some (.str d.lab), some v6, none, none, none, none, none, none, none] _
  refine q_asg (P := rTZ (rTb d.tb)) (ev_tupZ (P := rTb d.tb) (ev_t2 (R := rS) (S := Eld.rI) (x := d.lab) (y := (d.s : Int)) (ev_vs rfl) (ev_vi rfl)) fun v G' ⟨a, x, y, h, _⟩ => ⟨a, h⟩) e6.s fun v7 G7 H7 e7 p7 => ?_
  have f7 := f6.ext e7
  show tSeq _ _ _ [some v, some (.ref f), some (.int d.s), some (.int d.m), some (.int (top : Int)), some (.str d.lab), some v6, some v7, none, none, none, none, none, none] _
  refine q_asg (P := rPa P w K d) (ev_party d (ea_3 (P := rBk K d) (P1 := rT rS []) (P2 := rKd []) (ev_book d (ea_3 (P := rI d.m) (P1 := rTZ (rTb d.tb)) (P2 := rT rDm [d]) (ev_vi rfl) (ev_var rfl p7) (ev_tT1 (R := rDm) (x := d) (ev_var rfl (mn e7.g hd6)))) fun vs G' _ pp => ?_) ev_tT0 (EvN.know en_dK fun p o G' s gn oo => ⟨p, rfl, by rw [oo, upd_same]⟩)) fun vs G' _ pp => ?_) e7.s fun v8 G8 H8 e8 p8 => ?_
  · obtain ⟨v, _, rfl, p1, w, _, rfl, p2, u, _, rfl, p3, rfl⟩ := pp
    exact ⟨⟨w, u, by rw [show v = .int _ from p1], p2, p3⟩, ok⟩
  · obtain ⟨v, _, rfl, p1, w, _, rfl, p2, u, _, rfl, p3, rfl⟩ := pp
    exact ⟨v, w, u, rfl, p1, p2, p3⟩
  have f8 := f7.ext e8
  show tSeq _ _ _ [some v, some (.ref f), some (.int d.s), some (.int d.m), some (.int (top : Int)), some (.str d.lab), some v6, some v7, some v8, none, none, none, none, none] _
  refine q_asg (P := ServPost d) (ev_call1 (P := rPa P w K d) (post := fun d : Dm => ServPost d) d (ev_var rfl p8) fun v G' _ p => ⟨⟨v, rfl, p⟩, ok, h3⟩) e8.s fun v9 G9 H9 e9 p9 => ?_
  have f9 := f8.ext e9
  show tSeq _ _ _ [some v, some (.ref f), some (.int d.s), some (.int d.m), some (.int (top : Int)), some (.str d.lab), some v6, some v7, some v8, some v9, none, none, none, none] _
  obtain ⟨b, M, ht⟩ := serv_told p9
  have ht0 := ht
  obtain ⟨ta, ty, tr, ev9, _, hbt, hbf⟩ := ht0
  have htn : ∃ n : Nat, 2 ≤ n ∧ rTn n v9 G9 := by
    obtain ⟨a, y, rest, rfl, h, _⟩ := ht
    exact ⟨rest.length + 2, by omega, a, _, rfl, h, rfl⟩
  obtain ⟨tn, htn2, htn⟩ := htn
  refine q_skip (EvT.to (et_or (a := false) (b := false) (EvT.to (et_not (et_val (ev_isi_tup (ev_var rfl htn) (b := true) (by decide +kernel)))) rfl) fun _ => EvT.to (et_or (a := false) (b := false) (EvT.to (et_val (ev_lt (ev_lenTn (ev_var rfl htn)) ev_int)) (decide_eq_false (by omega))) fun _ => EvT.to (et_val (ev_nin (x := if b then "ever" else "more") (ss := ["ever", "more"]) (ev_told0 (ev_var rfl ht)) (ev_tT2 (R := rS) (x := "ever") (y := "more") ev_str ev_str))) (by cases b <;> decide +kernel)) rfl) rfl) e9.s fun G10 H10 e10 => ?_
  have f10 := f9.ext e10
  have hm' := ok.m
  have hd10 : rDm d v6 G10 := mn (e7.g.trans (e8.g.trans (e9.g.trans e10.g))) hd6
  have ht10 : rTZ (rTb d.tb) v7 G10 := mn (e8.g.trans (e9.g.trans e10.g)) p7
  refine q_asg (P := rLen d.Rule) (ev_callE (PP := pCons (rI d.m) (pCons (rL rPl d.forms) (pCons (rPD P w []) (pCons (rLE d) pNil)))) (ea_4 (P := rI d.m) (P1 := rL rPl d.forms) (P2 := rPD P w []) (P3 := rLE d) (ev_vi rfl) (ev_call2 (P := rTZ (rTb d.tb)) (P1 := rT rS []) (post := fun d : Dm => rL rPl d.forms) d (ev_var rfl ht10) ev_tT0 fun v1 v2 G' _ p1 p2 => ⟨⟨v1, v2, rfl, p1, p2⟩, ok⟩) (EvN.nd en_nd) (ev_call2 (P := rL rDm [d]) (P1 := rT rS []) (post := fun d : Dm => rLE d) d (ev_l1 (R := rDm) (x := d) (ev_var rfl hd10)) ev_tT0 fun v1 v2 G' _ p1 p2 => ⟨⟨v1, v2, rfl, p1, p2⟩, ok, h3⟩)) fun vs G' _ pp => ?_) e10.s fun v11 G11 H11 e11 p11 => ?_
  · obtain ⟨v1, _, rfl, p1, v2, _, rfl, p2, v3, _, rfl, p3, v4, _, rfl, ⟨es, p4, le⟩, rfl⟩ := pp
    refine ⟨(⟨d.m, d.forms, es⟩ : SeArg), ⟨⟨v2, v3, v4, by rw [show v1 = .int _ from p1], p2, p3, p4⟩, hm', d.forms_nd, by have := Dm.forms_len ok; show d.forms.length ≤ 100; omega, ?_, fun ln hl t ht => ?_⟩, fun v G2 ⟨a, xs, ea, h, e⟩ => ⟨a, xs, ea, h, e.trans (le.sat.trans (Dm.lsat_rule ok))⟩⟩
    · show d.m.toNat ^ d.forms.length ≤ 1000
      have hfl : d.forms.length = d.s := by
        unfold Dm.forms
        rw [List.length_map]
        exact forms_card d.s (by rcases hsz with h | h <;> rw [h] <;> decide)
      rw [hfl]
      refine Nat.le_trans (Nat.pow_le_pow_left (by omega : d.m.toNat ≤ 5) _) (Nat.le_trans (Nat.pow_le_pow_right (by omega) (by omega : d.s ≤ 2)) (by decide))
    · obtain ⟨row, hrow, rfl⟩ := List.mem_map.mp (le.sub ln hl)
      exact Dm.fline_mem ok h3 hrow t ht
  have f11 := f10.ext e11
  show tSeq _ _ _ [some v, some (.ref f), some (.int d.s), some (.int d.m), some (.int (top : Int)), some (.str d.lab), some v6, some v7, some v8, some v9, some v11, none, none, none] _
  have ht11 : Told d b M v9 G11 := mn (e10.g.trans e11.g) ht
  have hbR : b = true ↔ d.Rule := by
    cases b with
    | true => exact ⟨fun _ => hbt rfl, fun _ => rfl⟩
    | false => exact ⟨(fun z => nomatch z), fun z => ((hbf rfl).1 z).elim⟩
  refine q_skip (EvT.to (et_val (ev_neB (i := b) (j := b) (ev_toldE (ev_var rfl ht11)) (ev_nzPos (ev_lenQ (ev_var rfl p11)) hbR))) (by simp)) e11.s fun G12 H12 e12 => ?_
  have f12 := f11.ext e12
  have e10_12 := (e11.trans e12)
  refine q_asg (P := FbPost d top) (ev_call4 (P := rI d.m) (P1 := rTZ (rTb d.tb)) (P2 := rDm d) (P3 := rI (top : Int)) (post := fun a : Dm × Nat => FbPost a.1 a.2) (d, top) (ev_vi rfl) (ev_var rfl (mn e10_12.g ht10)) (ev_var rfl (mn e10_12.g hd10)) (ev_vi rfl) fun v1 v2 v3 v4 G' _ p1 p2 p3 p4 => ⟨⟨v2, v3, by rw [show v1 = .int _ from p1, show v4 = .int _ from p4], p2, p3⟩, ok, h3, htop, htok⟩) e12.s fun v13 G13 H13 e13 p13 => ?_
  have f13 := f12.ext e13
  show tSeq _ _ _ [some v, some (.ref f), some (.int d.s), some (.int d.m), some (.int (top : Int)), some (.str d.lab), some v6, some v7, some v8, some v9, some v11, some v13, none, none] _
  have ht13 : Told d b M v9 G13 := mn (e12.g.trans e13.g) ht11
  have p13 : FbPost d top v13 G13 := p13
  have same : ∀ M', v13 = .int (M' : Nat) → M' ≤ top → ¬ d.Fill M' → (∀ N, N < M' → d.Fill N) → b = false ∧ M' = M := fun M' _ h1 h2 h4 => by
    have hb0 : b = false := by
      cases b with
      | true => exact (h2 (Dm.rule_fill ok h3 (by omega) (hbt rfl))).elim
      | false => rfl
    obtain ⟨_, _, g1, g2⟩ := hbf hb0
    refine ⟨hb0, ?_⟩
    rcases Nat.lt_trichotomy M' M with h | h | h
    · exact (h2 (g2 _ h)).elim
    · exact h
    · exact (g1 (h4 _ h)).elim
  refine q_skip (by
    rcases p13 with ⟨rfl, h⟩ | ⟨M', rfl, h1, h2, h4⟩
    · exact EvT.to (et_and (a := false) (b := false) (EvT.to (et_val (ev_notN (x := .non) (ev_var rfl rfl) ev_non)) rfl) fun z => nomatch z) rfl
    · obtain ⟨hb0, rfl⟩ := same M' rfl h1 h2 h4
      subst hb0
      exact EvT.to (et_and (a := true) (b := false) (EvT.to (et_val (ev_notN (x := .int (M' : Nat)) (ev_var rfl rfl) ev_non)) rfl) fun _ => EvT.to (et_or (a := false) (b := false) (EvT.to (et_val (ev_toldE (ev_var rfl ht13))) rfl) fun _ => EvT.to (et_val (ev_ne (i := (M' : Int) - 1) (j := (M' : Int) - 1) (ev_told1 (ev_var rfl ht13)) (ev_sub (ev_vi rfl) ev_int))) (by simp)) rfl) rfl) e13.s fun G14 H14 e14 => ?_
  have f14 := f13.ext e14
  have ht14 : Told d b M v9 G14 := mn e14.g ht13
  refine q_skip (by
    rcases p13 with ⟨rfl, h⟩ | ⟨M', rfl, h1, h2, h4⟩
    · refine EvT.to (et_and (a := true) (b := false) (EvT.to (et_val (ev_isN (x := .non) (ev_var rfl rfl) ev_non)) rfl) fun _ => ?_) rfl
      cases b with
      | true => exact EvT.to (et_and (a := false) (b := false) (EvT.to (et_val (ev_toldM (ev_var rfl ht14))) rfl) fun z => nomatch z) rfl
      | false =>
        obtain ⟨_, _, g1, g2⟩ := hbf rfl
        have : top < M := by
          rcases Nat.lt_or_ge top M with h' | h'
          · exact h'
          · exact (g1 (h _ h')).elim
        exact EvT.to (et_and (a := true) (b := false) (EvT.to (et_val (ev_toldM (ev_var rfl ht14))) rfl) fun _ => EvT.to (et_val (ev_lt (ev_told1 (ev_var rfl ht14)) (ev_vi (n := (top : Int)) rfl))) (decide_eq_false (by omega))) rfl
    · exact EvT.to (et_and (a := false) (b := false) (EvT.to (et_val (ev_isN (x := .int (M' : Nat)) (ev_var rfl rfl) ev_non)) rfl) fun z => nomatch z) rfl) e14.s fun G15 H15 e15 => ?_
  have f15 := f14.ext e15
  refine qd_asg (f := f) (G := G15) (P := rZ fun n => 0 ≤ n ∧ n < (top : Int) + 1) (ed_draw rfl e15.s f15 (EvP.at (ev_add (ev_vi rfl) ev_int) e15.s) (by omega)) fun v16 G16 H16 e16 p16 => ?_
  obtain ⟨n', rfl, hn⟩ := p16
  obtain ⟨n, rfl⟩ : ∃ n : Nat, n' = (n : Int) := ⟨n'.toNat, by omega⟩
  show tSeq _ _ _ [some v, some (.ref f), some (.int d.s), some (.int d.m), some (.int (top : Int)), some (.str d.lab), some v6, some v7, some v8, some v9, some v11, some v13, some (.int (n : Int)), none] _
  have hpa16 : rPa P w K d v8 G16 := mn (e9.g.trans (e10.g.trans (e11.g.trans (e12.g.trans (e13.g.trans (e14.g.trans (e15.g.trans e16.g))))))) p8
  refine q_asg (P := fun v _ => ∃ bb, v = .bl bb ∧ (bb = true ↔ ¬ d.Fill n)) (by
    rcases p13 with ⟨rfl, h⟩ | ⟨M', rfl, h1, h2, h4⟩
    · refine EvP.imp (ev_andV (a := false) (b := false) (EvP.tr (ev_notN (x := .non) (ev_var rfl rfl) ev_non) rfl) fun z => nomatch z) fun v G' _ p => ⟨false, p, (fun z => nomatch z), fun z => (z (h n (by omega))).elim⟩
    · refine EvP.imp (ev_andV (a := true) (b := decide ((M' : Int) ≤ (n : Int))) (EvP.tr (ev_notN (x := .int (M' : Nat)) (ev_var rfl rfl) ev_non) rfl) fun _ => ev_ge (ev_vi rfl) (ev_vi rfl)) fun v G' _ p => ⟨_, p, ?_⟩
      rw [Bool.true_and, decide_eq_true_iff]
      constructor
      · intro z y
        exact h2 (Dm.fill_down (by omega) y)
      · intro z
        rcases Nat.lt_or_ge n M' with h' | h'
        · exact (z (h4 _ h')).elim
        · omega) e16.s fun v17 G17 H17 e17 p17 => ?_
  obtain ⟨bad, rfl, hbad⟩ := p17
  show tRet _ _ [some v, some (.ref f), some (.int d.s), some (.int d.m), some (.int (top : Int)), some (.str d.lab), some v6, some v7, some v8, some v9, some v11, some v13, some (.int (n : Int)), some (.bl bad)] _
  have hpa17 : rPa P w K d v8 G17 := mn e17.g hpa16
  have hpre : ∀ v1 v2 G', rPa P w K d v1 G' → rI (n : Int) v2 G' → preFl P w K (d, n) [v1, v2] G' := fun v1 v2 G' p1 p2 => ⟨⟨v1, by rw [show v2 = .int _ from p2], p1⟩, ok, h3, by show n ≤ 8; omega⟩
  refine s_ret (P := rB true) (EvP.tr (ev_andV (a := true) (b := true) (EvP.tr (ev_eqB (i := bad) (j := bad) (ev_isIf (E := d.Fill n) (ev_call2 (P := rPa P w K d) (P1 := rI (n : Int)) (post := fun a : Dm × Nat => rIfN (a.1.Fill a.2)) (d, n) (ev_var rfl hpa17) (ev_vi rfl) fun v1 v2 G' _ p1 p2 => hpre v1 v2 G' p1 p2) hbad) (ev_vb rfl)) (by simp)) fun _ => EvP.tr (ev_neB (i := !bad) (j := bad) (ev_isIf (E := ¬ d.Fill n) (ev_call2 (P := rPa P w K d) (P1 := rI (n : Int)) (post := fun a : Dm × Nat => rIfN (¬ a.1.Fill a.2)) (d, n) (ev_var rfl hpa17) (ev_vi rfl) fun v1 v2 G' _ p1 p2 => hpre v1 v2 G' p1 p2) ?_) (ev_vb rfl)) (by cases bad <;> decide)) rfl) e17.s fun v18 G18 H18 e18 p18 => ?_
  · rw [← hbad]
    cases bad <;> simp
  · rw [show v18 = .bl true from p18]
    exact kk _
end
end Eld
set_option maxRecDepth 100000
set_option maxHeartbeats 0
/-! The end: the facts of the top, the law's promise, the row. -/
namespace Eld
open PySem PySem.Spec PyProof.Rows L2
theorem facts {P : Program} {w : World} {K : PySem.W.Frag} {h : Heap} {mg : Str → Option Value} {f : Addr} (X : K.In h) (G : h.Ns mainGlobals mg) (hfa : mg ("law" : Str) = some (.ref f)) (c : He.SaysD fa fn K) :
    ∃ fd : FuncData, (∀ (s : Shared) (v : Value), BindsTo s fd ⟨[v], []⟩ [("_law_script", v)]) ∧ ∀ base : Heap, K.In base → base.Ns mainGlobals mg → FnOk P w K mg base CX0 12 f fd ["_law_script"] (sp_law K) := by
  have C : Ctx K mg := ⟨c, h, X, G⟩
  obtain ⟨fd, F⟩ := C.d_law
  have e := hfa.symm.trans C.g_law
  cases e
  have b := FunD.bindsA (ps := ["_law_script"]) F fun _ _ _ _ _ _ us hl => match us, hl with | [_], _ => rfl
  exact ⟨fd, fun s v => b s [v] rfl, fun base _ _ => ok_law C F⟩
end Eld
open PySem PySem.W PySem.Calls PyProof.Rows
theorem PySem.Challenge.cw_elderalike_k40_whole_books_of_one_demand_holds : PySem.Challenge.rw_elderalike_k40_whole_books_of_one_demand.Holds := by
  w_on; o_law
  refine HandSHeadRun.head_any (r := Eld.RR) (q := view Eld.RR.prog [136]) (H := Eld.hk) (ob := Eld.ob) (M := 15000) (loose := Eld.loose) (d := HandSHeadRun.topDef Eld.RR.prog 136) (kwd := []) Eld.ob_eq
    (by kernel_rfl) (fun s => by kernel_rfl) Eld.run (by kernel_rfl) (by kernel_rfl) (by kernel_rfl) (by rfl) (by first | assumption | decide +kernel) (by decide +kernel) ⟨rfl, rfl, rfl, rfl, rfl, by decide +kernel⟩ ?hw ?hc
  case hw => w_witness2
  case hc =>
    refine L2.walk_ofE (l := PySem.Challenge.rw_elderalike_k40_whole_books_of_one_demand) (n := 63) (k := 12) (x := "_law_script") (CX := L2.CX0) rfl (by decide) (by kernel_rfl) ⟨rfl, by decide, by decide⟩ ?F (fun _ _ _ _ z => z)
    intro w mg fa h Y G hmg0
    obtain ⟨K, KX, c⟩ := Y
    have hmg : mg ("law" : PySem.Str) = some (.ref fa) := by
      have e : (HandSHeadRun.topDef Eld.RR.prog 136).name = ("law" : PySem.Str) := by kernel_rfl
      rw [← e]
      exact hmg0
    obtain ⟨fd, hb, hF⟩ := Eld.facts (P := (PySem.Challenge.rw_elderalike_k40_whole_books_of_one_demand).prog) (w := w) KX G hmg c
    exact ⟨K, fd, Eld.sp_law K, KX, hb, fun H a ns hl _ hS => ⟨ns, .ref a, rfl, ⟨a, rfl, hS⟩, fun _ => rfl⟩, hF⟩
