import PyProof.Rows.All
import Wide.All
import OpenK.AllK
import Wide.FinOn
import KE.KStateDown
import HandS.ForMost
import HandS.Defaults
import HandS.IsInst
import HandS.DictComp
import HandS.Zip
import HandS.Sort
import HandS.SortRule
import HandS.SortInts
import HandS.Style
import HandS.Flow
import HandS.Walk
import HandS.Conv
import HandS.Wide
import HandS.Small
import HandS.OwnEq
import HandS.TupAny
import HandS.TupLe
import HandS.More
import HandS.Text
import HandS.Head0
import HandS.Head1
import HandS.Head2
import HandS.HeadEnd
import HandS.HeadHook1
import HandS.HeadHook2
import KE.GoesZip
import KE.GoesEnum
import KE.GoesMore
import KE.DataMinMax
import KE.KRevSl
import HandS.SortKw
import HandS.Codes
import KE.DataEq
import HandS.Star
import PySem.Challenge.RW_wordvault_k89_whole_codes_along_a_text
set_option Elab.async false
set_option linter.all false
section
set_option maxRecDepth 100000
set_option maxHeartbeats 4000000
namespace WV
open PySem PySem.Spec PyProof.Rows L2
/-! ### the text by places -/
def topS (i : Nat) : Stmt := PySem.Challenge.pw_wordvault_k89_whole_codes_along_a_text.main.body.getD i (.Pass ⟨0, 0, 0, 0⟩)
abbrev s_is_count : Stmt := topS 24
abbrev s_two_power : Stmt := topS 25
abbrev s_check_signs : Stmt := topS 26
abbrev s_check_counts : Stmt := topS 27
abbrev s_bits_of : Stmt := topS 28
abbrev s_canonical : Stmt := topS 29
abbrev s_is_bits : Stmt := topS 30
abbrev s_checked_words : Stmt := topS 31
abbrev s_Code_init : Stmt := inClass (topS 33) 0
abbrev s_Code_eq : Stmt := inClass (topS 33) 1
abbrev s_code_of : Stmt := topS 34
abbrev s_check_pair : Stmt := topS 35
abbrev s_cost_by : Stmt := topS 36
abbrev s_cost : Stmt := topS 37
abbrev s_joined_pairs : Stmt := topS 38
abbrev s_least_of : Stmt := topS 39
abbrev s_least_cost : Stmt := topS 40
abbrev s_lengths_for : Stmt := topS 41
abbrev s_least_code : Stmt := topS 42
abbrev s_is_least_for : Stmt := topS 43
abbrev s_is_least : Stmt := topS 44
abbrev s_as_frozen : Stmt := topS 45
abbrev s_check_rank : Stmt := topS 47
abbrev s_is_sign_of : Stmt := topS 48
abbrev s_parted_sign : Stmt := topS 49
abbrev s_parted_code : Stmt := topS 50
abbrev s_put_sign : Stmt := topS 51
abbrev s_strike_sign : Stmt := topS 52
abbrev s_is_tally : Stmt := topS 55
abbrev s_is_event : Stmt := topS 56
abbrev s_is_beginning : Stmt := topS 57
abbrev s_tallies_of : Stmt := topS 58
abbrev s_Stretch_init : Stmt := inClass (topS 59) 0
abbrev s_Stretch_takes : Stmt := inClass (topS 59) 2
abbrev s_Stretch_code_for : Stmt := inClass (topS 59) 3
abbrev s_taken_on : Stmt := topS 60
abbrev s_CodePlan_init : Stmt := inClass (topS 61) 0
abbrev s_plan_codes : Stmt := topS 62
abbrev s_is_pair_at : Stmt := topS 63
abbrev s_codes_hold : Stmt := topS 64
abbrev s_serves : Stmt := topS 65
abbrev s_stops_hold : Stmt := topS 66
abbrev s_is_plan : Stmt := topS 67
abbrev s_code_at : Stmt := topS 68
abbrev s_is_from : Stmt := topS 76
abbrev s_is_name : Stmt := topS 77
abbrev s_is_part : Stmt := topS 78
abbrev s_is_rule : Stmt := topS 79
abbrev s_names_in : Stmt := topS 80
abbrev s_in_order : Stmt := topS 81
abbrev s_names_below : Stmt := topS 82
abbrev s_check_rules : Stmt := topS 83
abbrev s_Text_init : Stmt := inClass (topS 84) 0
abbrev s_Text_size_of : Stmt := inClass (topS 84) 3
abbrev s_Text_items_of : Stmt := inClass (topS 84) 4
abbrev s_Text_counted : Stmt := inClass (topS 84) 7
abbrev s_Text_tally : Stmt := inClass (topS 84) 8
abbrev s_Text_ahead : Stmt := inClass (topS 84) 9
abbrev s_name_of : Stmt := topS 86
abbrev s_Maker_init : Stmt := inClass (topS 87) 0
abbrev s_Maker_add_rule : Stmt := inClass (topS 87) 1
abbrev s_Maker_add_text : Stmt := inClass (topS 87) 2
abbrev s_Maker_text_of : Stmt := inClass (topS 87) 3
abbrev s_check_stretch : Stmt := topS 88
abbrev s_cut_out : Stmt := topS 89
abbrev s_Coded_init : Stmt := inClass (topS 91) 0
abbrev s_Coded_bits_in : Stmt := inClass (topS 91) 1
abbrev s_counts_added : Stmt := topS 94
abbrev s_Common_init : Stmt := inClass (topS 95) 0
abbrev s_Apart_init : Stmt := inClass (topS 96) 0
abbrev s_check_tallies : Stmt := topS 97
abbrev s_common : Stmt := topS 98
abbrev s_with_steps : Stmt := topS 99
abbrev s_lasts : Stmt := topS 100
abbrev s_law_pen : Stmt := topS 102
abbrev s_law_draw : Stmt := topS 103
abbrev s_law_rules : Stmt := topS 104
abbrev s_law_text : Stmt := topS 105
abbrev s_law : Stmt := topS 106
def d_is_count : He.DefD := ⟨("is_count", none), "is_count", "is_count", defArgs s_is_count, defBody s_is_count, defScope s_is_count, [], []⟩
def d_two_power : He.DefD := ⟨("two_power", none), "two_power", "two_power", defArgs s_two_power, defBody s_two_power, defScope s_two_power, [], []⟩
def d_check_signs : He.DefD := ⟨("check_signs", none), "check_signs", "check_signs", defArgs s_check_signs, defBody s_check_signs, defScope s_check_signs, [], []⟩
def d_check_counts : He.DefD := ⟨("check_counts", none), "check_counts", "check_counts", defArgs s_check_counts, defBody s_check_counts, defScope s_check_counts, [], []⟩
def d_bits_of : He.DefD := ⟨("bits_of", none), "bits_of", "bits_of", defArgs s_bits_of, defBody s_bits_of, defScope s_bits_of, [], []⟩
def d_canonical : He.DefD := ⟨("canonical", none), "canonical", "canonical", defArgs s_canonical, defBody s_canonical, defScope s_canonical, [], []⟩
def d_is_bits : He.DefD := ⟨("is_bits", none), "is_bits", "is_bits", defArgs s_is_bits, defBody s_is_bits, defScope s_is_bits, [], []⟩
def d_checked_words : He.DefD := ⟨("checked_words", none), "checked_words", "checked_words", defArgs s_checked_words, defBody s_checked_words, defScope s_checked_words, [], []⟩
def d_Code_init : He.DefD := ⟨("Code", some "__init__"), "__init__", "Code.__init__", defArgs s_Code_init, defBody s_Code_init, defScope s_Code_init, [.non], []⟩
def d_Code_eq : He.DefD := ⟨("Code", some "__eq__"), "__eq__", "Code.__eq__", defArgs s_Code_eq, defBody s_Code_eq, defScope s_Code_eq, [], []⟩
def d_code_of : He.DefD := ⟨("code_of", none), "code_of", "code_of", defArgs s_code_of, defBody s_code_of, defScope s_code_of, [], []⟩
def d_check_pair : He.DefD := ⟨("check_pair", none), "check_pair", "check_pair", defArgs s_check_pair, defBody s_check_pair, defScope s_check_pair, [], []⟩
def d_cost_by : He.DefD := ⟨("cost_by", none), "cost_by", "cost_by", defArgs s_cost_by, defBody s_cost_by, defScope s_cost_by, [], []⟩
def d_cost : He.DefD := ⟨("cost", none), "cost", "cost", defArgs s_cost, defBody s_cost, defScope s_cost, [], []⟩
def d_joined_pairs : He.DefD := ⟨("joined_pairs", none), "joined_pairs", "joined_pairs", defArgs s_joined_pairs, defBody s_joined_pairs, defScope s_joined_pairs, [], []⟩
def d_least_of : He.DefD := ⟨("least_of", none), "least_of", "least_of", defArgs s_least_of, defBody s_least_of, defScope s_least_of, [], []⟩
def d_least_cost : He.DefD := ⟨("least_cost", none), "least_cost", "least_cost", defArgs s_least_cost, defBody s_least_cost, defScope s_least_cost, [], []⟩
def d_lengths_for : He.DefD := ⟨("lengths_for", none), "lengths_for", "lengths_for", defArgs s_lengths_for, defBody s_lengths_for, defScope s_lengths_for, [], []⟩
def d_least_code : He.DefD := ⟨("least_code", none), "least_code", "least_code", defArgs s_least_code, defBody s_least_code, defScope s_least_code, [], []⟩
def d_is_least_for : He.DefD := ⟨("is_least_for", none), "is_least_for", "is_least_for", defArgs s_is_least_for, defBody s_is_least_for, defScope s_is_least_for, [], []⟩
def d_is_least : He.DefD := ⟨("is_least", none), "is_least", "is_least", defArgs s_is_least, defBody s_is_least, defScope s_is_least, [], []⟩
def d_as_frozen : He.DefD := ⟨("as_frozen", none), "as_frozen", "as_frozen", defArgs s_as_frozen, defBody s_as_frozen, defScope s_as_frozen, [], []⟩
def d_check_rank : He.DefD := ⟨("check_rank", none), "check_rank", "check_rank", defArgs s_check_rank, defBody s_check_rank, defScope s_check_rank, [], []⟩
def d_is_sign_of : He.DefD := ⟨("is_sign_of", none), "is_sign_of", "is_sign_of", defArgs s_is_sign_of, defBody s_is_sign_of, defScope s_is_sign_of, [], []⟩
def d_parted_sign : He.DefD := ⟨("parted_sign", none), "parted_sign", "parted_sign", defArgs s_parted_sign, defBody s_parted_sign, defScope s_parted_sign, [], []⟩
def d_parted_code : He.DefD := ⟨("parted_code", none), "parted_code", "parted_code", defArgs s_parted_code, defBody s_parted_code, defScope s_parted_code, [], []⟩
def d_put_sign : He.DefD := ⟨("put_sign", none), "put_sign", "put_sign", defArgs s_put_sign, defBody s_put_sign, defScope s_put_sign, [], []⟩
def d_strike_sign : He.DefD := ⟨("strike_sign", none), "strike_sign", "strike_sign", defArgs s_strike_sign, defBody s_strike_sign, defScope s_strike_sign, [], []⟩
def d_is_tally : He.DefD := ⟨("is_tally", none), "is_tally", "is_tally", defArgs s_is_tally, defBody s_is_tally, defScope s_is_tally, [], []⟩
def d_is_event : He.DefD := ⟨("is_event", none), "is_event", "is_event", defArgs s_is_event, defBody s_is_event, defScope s_is_event, [], []⟩
def d_is_beginning : He.DefD := ⟨("is_beginning", none), "is_beginning", "is_beginning", defArgs s_is_beginning, defBody s_is_beginning, defScope s_is_beginning, [], []⟩
def d_tallies_of : He.DefD := ⟨("tallies_of", none), "tallies_of", "tallies_of", defArgs s_tallies_of, defBody s_tallies_of, defScope s_tallies_of, [], []⟩
def d_Stretch_init : He.DefD := ⟨("Stretch", some "__init__"), "__init__", "Stretch.__init__", defArgs s_Stretch_init, defBody s_Stretch_init, defScope s_Stretch_init, [], []⟩
def d_Stretch_takes : He.DefD := ⟨("Stretch", some "takes"), "takes", "Stretch.takes", defArgs s_Stretch_takes, defBody s_Stretch_takes, defScope s_Stretch_takes, [], []⟩
def d_Stretch_code_for : He.DefD := ⟨("Stretch", some "code_for"), "code_for", "Stretch.code_for", defArgs s_Stretch_code_for, defBody s_Stretch_code_for, defScope s_Stretch_code_for, [], []⟩
def d_taken_on : He.DefD := ⟨("taken_on", none), "taken_on", "taken_on", defArgs s_taken_on, defBody s_taken_on, defScope s_taken_on, [], []⟩
def d_CodePlan_init : He.DefD := ⟨("CodePlan", some "__init__"), "__init__", "CodePlan.__init__", defArgs s_CodePlan_init, defBody s_CodePlan_init, defScope s_CodePlan_init, [], []⟩
def d_plan_codes : He.DefD := ⟨("plan_codes", none), "plan_codes", "plan_codes", defArgs s_plan_codes, defBody s_plan_codes, defScope s_plan_codes, [], []⟩
def d_is_pair_at : He.DefD := ⟨("is_pair_at", none), "is_pair_at", "is_pair_at", defArgs s_is_pair_at, defBody s_is_pair_at, defScope s_is_pair_at, [], []⟩
def d_codes_hold : He.DefD := ⟨("codes_hold", none), "codes_hold", "codes_hold", defArgs s_codes_hold, defBody s_codes_hold, defScope s_codes_hold, [], []⟩
def d_serves : He.DefD := ⟨("serves", none), "serves", "serves", defArgs s_serves, defBody s_serves, defScope s_serves, [], []⟩
def d_stops_hold : He.DefD := ⟨("stops_hold", none), "stops_hold", "stops_hold", defArgs s_stops_hold, defBody s_stops_hold, defScope s_stops_hold, [], []⟩
def d_is_plan : He.DefD := ⟨("is_plan", none), "is_plan", "is_plan", defArgs s_is_plan, defBody s_is_plan, defScope s_is_plan, [], []⟩
def d_code_at : He.DefD := ⟨("code_at", none), "code_at", "code_at", defArgs s_code_at, defBody s_code_at, defScope s_code_at, [], []⟩
def d_is_from : He.DefD := ⟨("is_from", none), "is_from", "is_from", defArgs s_is_from, defBody s_is_from, defScope s_is_from, [], []⟩
def d_is_name : He.DefD := ⟨("is_name", none), "is_name", "is_name", defArgs s_is_name, defBody s_is_name, defScope s_is_name, [], []⟩
def d_is_part : He.DefD := ⟨("is_part", none), "is_part", "is_part", defArgs s_is_part, defBody s_is_part, defScope s_is_part, [], []⟩
def d_is_rule : He.DefD := ⟨("is_rule", none), "is_rule", "is_rule", defArgs s_is_rule, defBody s_is_rule, defScope s_is_rule, [], []⟩
def d_names_in : He.DefD := ⟨("names_in", none), "names_in", "names_in", defArgs s_names_in, defBody s_names_in, defScope s_names_in, [], []⟩
def d_in_order : He.DefD := ⟨("in_order", none), "in_order", "in_order", defArgs s_in_order, defBody s_in_order, defScope s_in_order, [], []⟩
def d_names_below : He.DefD := ⟨("names_below", none), "names_below", "names_below", defArgs s_names_below, defBody s_names_below, defScope s_names_below, [], []⟩
def d_check_rules : He.DefD := ⟨("check_rules", none), "check_rules", "check_rules", defArgs s_check_rules, defBody s_check_rules, defScope s_check_rules, [], []⟩
def d_Text_init : He.DefD := ⟨("Text", some "__init__"), "__init__", "Text.__init__", defArgs s_Text_init, defBody s_Text_init, defScope s_Text_init, [], []⟩
def d_Text_size_of : He.DefD := ⟨("Text", some "size_of"), "size_of", "Text.size_of", defArgs s_Text_size_of, defBody s_Text_size_of, defScope s_Text_size_of, [], []⟩
def d_Text_items_of : He.DefD := ⟨("Text", some "items_of"), "items_of", "Text.items_of", defArgs s_Text_items_of, defBody s_Text_items_of, defScope s_Text_items_of, [], []⟩
def d_Text_counted : He.DefD := ⟨("Text", some "counted"), "counted", "Text.counted", defArgs s_Text_counted, defBody s_Text_counted, defScope s_Text_counted, [], []⟩
def d_Text_tally : He.DefD := ⟨("Text", some "tally"), "tally", "Text.tally", defArgs s_Text_tally, defBody s_Text_tally, defScope s_Text_tally, [], []⟩
def d_Text_ahead : He.DefD := ⟨("Text", some "ahead"), "ahead", "Text.ahead", defArgs s_Text_ahead, defBody s_Text_ahead, defScope s_Text_ahead, [], []⟩
def d_name_of : He.DefD := ⟨("name_of", none), "name_of", "name_of", defArgs s_name_of, defBody s_name_of, defScope s_name_of, [], []⟩
def d_Maker_init : He.DefD := ⟨("Maker", some "__init__"), "__init__", "Maker.__init__", defArgs s_Maker_init, defBody s_Maker_init, defScope s_Maker_init, [], []⟩
def d_Maker_add_rule : He.DefD := ⟨("Maker", some "add_rule"), "add_rule", "Maker.add_rule", defArgs s_Maker_add_rule, defBody s_Maker_add_rule, defScope s_Maker_add_rule, [], []⟩
def d_Maker_add_text : He.DefD := ⟨("Maker", some "add_text"), "add_text", "Maker.add_text", defArgs s_Maker_add_text, defBody s_Maker_add_text, defScope s_Maker_add_text, [], []⟩
def d_Maker_text_of : He.DefD := ⟨("Maker", some "text_of"), "text_of", "Maker.text_of", defArgs s_Maker_text_of, defBody s_Maker_text_of, defScope s_Maker_text_of, [], []⟩
def d_check_stretch : He.DefD := ⟨("check_stretch", none), "check_stretch", "check_stretch", defArgs s_check_stretch, defBody s_check_stretch, defScope s_check_stretch, [], []⟩
def d_cut_out : He.DefD := ⟨("cut_out", none), "cut_out", "cut_out", defArgs s_cut_out, defBody s_cut_out, defScope s_cut_out, [], []⟩
def d_Coded_init : He.DefD := ⟨("Coded", some "__init__"), "__init__", "Coded.__init__", defArgs s_Coded_init, defBody s_Coded_init, defScope s_Coded_init, [], []⟩
def d_Coded_bits_in : He.DefD := ⟨("Coded", some "bits_in"), "bits_in", "Coded.bits_in", defArgs s_Coded_bits_in, defBody s_Coded_bits_in, defScope s_Coded_bits_in, [], []⟩
def d_counts_added : He.DefD := ⟨("counts_added", none), "counts_added", "counts_added", defArgs s_counts_added, defBody s_counts_added, defScope s_counts_added, [], []⟩
def d_Common_init : He.DefD := ⟨("Common", some "__init__"), "__init__", "Common.__init__", defArgs s_Common_init, defBody s_Common_init, defScope s_Common_init, [], []⟩
def d_Apart_init : He.DefD := ⟨("Apart", some "__init__"), "__init__", "Apart.__init__", defArgs s_Apart_init, defBody s_Apart_init, defScope s_Apart_init, [], []⟩
def d_check_tallies : He.DefD := ⟨("check_tallies", none), "check_tallies", "check_tallies", defArgs s_check_tallies, defBody s_check_tallies, defScope s_check_tallies, [], []⟩
def d_common : He.DefD := ⟨("common", none), "common", "common", defArgs s_common, defBody s_common, defScope s_common, [], []⟩
def d_with_steps : He.DefD := ⟨("with_steps", none), "with_steps", "with_steps", defArgs s_with_steps, defBody s_with_steps, defScope s_with_steps, [], []⟩
def d_lasts : He.DefD := ⟨("lasts", none), "lasts", "lasts", defArgs s_lasts, defBody s_lasts, defScope s_lasts, [], []⟩
def d_law_pen : He.DefD := ⟨("_law_pen", none), "_law_pen", "_law_pen", defArgs s_law_pen, defBody s_law_pen, defScope s_law_pen, [], []⟩
def d_law_draw : He.DefD := ⟨("_law_draw", none), "_law_draw", "_law_draw", defArgs s_law_draw, defBody s_law_draw, defScope s_law_draw, [], []⟩
def d_law_rules : He.DefD := ⟨("_law_rules", none), "_law_rules", "_law_rules", defArgs s_law_rules, defBody s_law_rules, defScope s_law_rules, [], []⟩
def d_law_text : He.DefD := ⟨("_law_text", none), "_law_text", "_law_text", defArgs s_law_text, defBody s_law_text, defScope s_law_text, [], []⟩
def d_law : He.DefD := ⟨("law", none), "law", "law", defArgs s_law, defBody s_law, defScope s_law, [], []⟩
def fn : List He.DefD := [d_is_count, d_two_power, d_check_signs, d_check_counts, d_bits_of, d_canonical, d_is_bits, d_checked_words, d_Code_init, d_Code_eq, d_code_of, d_check_pair, d_cost_by, d_cost, d_joined_pairs, d_least_of, d_least_cost, d_lengths_for, d_least_code, d_is_least_for, d_is_least, d_as_frozen, d_check_rank, d_is_sign_of, d_parted_sign, d_parted_code, d_put_sign, d_strike_sign, d_is_tally, d_is_event, d_is_beginning, d_tallies_of, d_Stretch_init, d_Stretch_takes, d_Stretch_code_for, d_taken_on, d_CodePlan_init, d_plan_codes, d_is_pair_at, d_codes_hold, d_serves, d_stops_hold, d_is_plan, d_code_at, d_is_from, d_is_name, d_is_part, d_is_rule, d_names_in, d_in_order, d_names_below, d_check_rules, d_Text_init, d_Text_size_of, d_Text_items_of, d_Text_counted, d_Text_tally, d_Text_ahead, d_name_of, d_Maker_init, d_Maker_add_rule, d_Maker_add_text, d_Maker_text_of, d_check_stretch, d_cut_out, d_Coded_init, d_Coded_bits_in, d_counts_added, d_Common_init, d_Apart_init, d_check_tallies, d_common, d_with_steps, d_lasts, d_law_pen, d_law_draw, d_law_rules, d_law_text, d_law]
def fa : List He.Fa := [.glo "is_count", .glo "two_power", .glo "check_signs", .glo "check_counts", .glo "bits_of", .glo "canonical", .glo "is_bits", .glo "checked_words", .glo "code_of", .glo "check_pair", .glo "cost_by", .glo "cost", .glo "joined_pairs", .glo "least_of", .glo "least_cost", .glo "lengths_for", .glo "least_code", .glo "is_least_for", .glo "is_least", .glo "as_frozen", .glo "check_rank", .glo "is_sign_of", .glo "parted_sign", .glo "parted_code", .glo "put_sign", .glo "strike_sign", .glo "is_tally", .glo "is_event", .glo "is_beginning", .glo "tallies_of", .glo "taken_on", .glo "plan_codes", .glo "is_pair_at", .glo "codes_hold", .glo "serves", .glo "stops_hold", .glo "is_plan", .glo "code_at", .glo "is_from", .glo "is_name", .glo "is_part", .glo "is_rule", .glo "names_in", .glo "in_order", .glo "names_below", .glo "check_rules", .glo "name_of", .glo "check_stretch", .glo "cut_out", .glo "counts_added", .glo "check_tallies", .glo "common", .glo "with_steps", .glo "lasts", .glo "_law_pen", .glo "_law_draw", .glo "_law_rules", .glo "_law_text", .glo "law", .glo "Code", .cls "Code", .mkr "Code", .noat "Code" "lengths", .noat "Code" "words", .noat "Code" "size", .noat "Code" "longest", .glo "Stretch", .cls "Stretch", .mkr "Stretch", .noat "Stretch" "groups", .noat "Stretch" "depths", .noat "Stretch" "total", .noat "Stretch" "least", .noat "Stretch" "last", .glo "CodePlan", .cls "CodePlan", .mkr "CodePlan", .noat "CodePlan" "history", .noat "CodePlan" "codes", .noat "CodePlan" "stops", .glo "Text", .cls "Text", .mkr "Text", .noat "Text" "own_order", .noat "Text" "signs", .noat "Text" "own_rules", .noat "Text" "root", .noat "Text" "own_sizes", .noat "Text" "size", .noat "Text" "depth", .glo "Maker", .cls "Maker", .mkr "Maker", .noat "Maker" "signs", .noat "Maker" "own_rules", .glo "Coded", .cls "Coded", .mkr "Coded", .noat "Coded" "code", .noat "Coded" "text", .noat "Coded" "own_bits", .noat "Coded" "size", .glo "Common", .cls "Common", .mkr "Common", .noat "Common" "rows", .noat "Common" "code", .glo "Apart", .cls "Apart", .mkr "Apart", .noat "Apart" "rows", .noat "Apart" "whole", .noat "Apart" "parts", .meth "Code" "__eq__", .meth "Stretch" "takes", .meth "Stretch" "code_for", .meth "Text" "size_of", .meth "Text" "items_of", .meth "Text" "counted", .meth "Text" "tally", .meth "Text" "ahead", .meth "Maker" "add_rule", .meth "Maker" "add_text", .meth "Maker" "text_of", .meth "Coded" "bits_in", .free "isinstance", .free "int", .free "bool", .free "str", .free "list", .free "tuple", .free "len", .free "range", .free "enumerate", .free "zip", .free "sorted", .free "sum", .free "max", .free "min", .free "abs", .free "all", .free "any", .int "MOST_SIGNS" 2000, .int "MOST_LENGTH" 1999, .int "MOST_PAIRS" 400, .str "CAPITALS" "ABCDEFGHIJKLMNOPQRSTUVWXYZ", .int "MOST_TEXT_SIGNS" 2000, .int "MOST_RULES" 2000, .int "MOST_ITEMS" 40, .int "MOST_COUNT" 1000000000000000000000000000000, .int "MOST_PART" 2000, .int "MOST_TALLIES" 2000]
def loose0 : List PySem.Str := ["_wall", "VaultError", "TooMany", "BadSigns", "BadRule", "Ring", "NoRule", "BadPlace", "BadSize", "BadSign", "OtherSigns", "BadBits", "BadTally", "BadLength", "NotFull", "Begins", "OtherSize", "NotLeast", "BadRank", "BadHistory", "MOST_SIGNS", "MOST_LENGTH", "is_count", "two_power", "check_signs", "check_counts", "bits_of", "canonical", "is_bits", "checked_words"]
def loose1 : List PySem.Str := ["check_beginnings", "Code", "code_of", "check_pair", "cost_by", "cost", "joined_pairs", "least_of", "least_cost", "lengths_for", "least_code", "is_least_for", "is_least", "as_frozen", "check_rank", "is_sign_of", "parted_sign", "parted_code", "put_sign", "strike_sign", "MOST_PAIRS", "is_tally", "is_event", "is_beginning", "tallies_of", "Stretch", "taken_on", "CodePlan", "plan_codes", "is_pair_at"]
def loose2 : List PySem.Str := ["codes_hold", "serves", "stops_hold", "is_plan", "code_at", "CAPITALS", "MOST_TEXT_SIGNS", "MOST_RULES", "MOST_ITEMS", "MOST_COUNT", "MOST_PART", "is_from", "is_name", "is_part", "is_rule", "names_in", "in_order", "names_below", "check_rules", "Text", "name_of", "Maker", "check_stretch", "cut_out", "Coded", "MOST_TALLIES", "counts_added", "Common", "Apart", "check_tallies"]
def loose3 : List PySem.Str := ["common", "with_steps", "lasts", "_law_pen", "_law_draw", "_law_rules", "_law_text"]
def loose : List PySem.Str := loose0 ++ loose1 ++ loose2 ++ loose3
def looseE : List PySem.Str := ["_wall", "VaultError", "TooMany", "BadSigns", "BadRule", "Ring", "NoRule", "BadPlace", "BadSize", "BadSign", "OtherSigns", "BadBits", "BadTally", "BadLength", "NotFull", "Begins", "OtherSize", "NotLeast", "BadRank", "BadHistory", "check_beginnings"]
/-! ### what the head has: facts -/
def isiC (K : PySem.W.Frag) (x : Str) : Bool := decide (PySem.W.findIn K (.ref (He.ga K x)) "__class__" = some (some (.builtin "object.__class__"))) && decide (PySem.W.mroIn K (He.ga K x) (.type "object") = some true)
def extra (K : PySem.W.Frag) : Bool :=
  (decide (PySem.W.specialIn K (.builtin "object.__class__") "__get__" = some (some (.builtin "getset_descriptor.__get__"))) && decide (PySem.W.takesIn K (.builtin "object.__class__") = some true)) &&
  ((isiC K "Code" && (isiC K "Common" && isiC K "Apart")) &&
  (decide (PySem.W.kitOne K (.ref (He.ga K "Apart")) (.ref (He.ga K "Common")) = some false) && decide (PySem.W.kitAny K (.ref (He.ga K "Code")) [.type "list", .type "tuple"] = some false)))
abbrev AlM : Type := Bool × List He.FnW
def obsM (K : PySem.W.Frag) : AlM := ((fa.all fun f => f.ok K) && ((fn.all fun d => d.ok K) && extra K), fn.map fun d => He.fnW K d.at_)
def valM : AlM := (true, fn.map He.DefD.val)
def SaysM (K : PySem.W.Frag) : Prop := obsM K = valM
end WV
end
section
set_option maxRecDepth 100000
set_option maxHeartbeats 0
namespace WV
open PySem PySem.Spec PyProof.Rows L2
/-! ### the head's run with the facts -/
def refsT (o : Obj) : List Addr := match o.data with
  | .func fd => He.refV fd.code ++ He.refV fd.defaults
  | .cls cd => [cd.ns]
  | .dict es _ => es.toList.flatMap fun e => He.refV e.val
  | _ => []
def front (g : Addr → Option Obj) (as : List Addr) : List Addr := as.flatMap fun a => match g a with
  | some o => refsT o
  | none => []
def first (g : Addr → Option Obj) : List Addr := match g mainGlobals with
  | some o => (match o.data with
    | .dict es _ => es.toList.flatMap fun e => (match e.key with
      | .str x _ => if looseE.contains x then [] else He.refV e.val
      | _ => [])
    | _ => [])
  | none => []
def asM (g : Addr → Option Obj) : List Addr :=
  let f1 := first g
  let f2 := front g f1
  let f3 := front g f2
  let f4 := front g f3
  mainGlobals :: (f1 ++ f2 ++ f3 ++ f4)
def obsMG (g : Addr → Option Obj) : AlM := obsM (He.frG g (asM g))
def hk : PySem.W.Hook where
  α := AlM
  obs := fun s => obsMG s.heap.get?
  val := fun _ => valM
  says := fun _ h => ∃ K : PySem.W.Frag, K.In h ∧ SaysM K
  of := fun _ _ e => ⟨_, He.frG_in, e⟩
  keeps := fun _ _ _ ⟨K, hK, c⟩ k => ⟨K, PySem.W.Frag.In.keeps hK k, c⟩
theorem obsMG_eq {g : Addr → Option Obj} {s : Shared} (h : ∀ a, g a = s.heap.get? a) : obsMG g = hk.obs s := by
  have e : g = s.heap.get? := funext h
  rw [e] <;> rfl
abbrev R : PySem.W.OpenRow := PySem.W.OpenLaw.row PySem.Challenge.rw_wordvault_k89_whole_codes_along_a_text
def ob (s : PySem.W.SharedT) : AlM := obsMG (HandSHeadRun.getT s)
theorem ob_eq (s : PySem.W.SharedT) : ob s = hk.obs s.abs := obsMG_eq (HandSHeadRun.getT_eq s)
theorem run (w : World) : HandSHeadRun.RunEq R (PySem.W.view R.prog [106]) hk ob 20000 loose w := by
  intro os
  kernel_rfl
end WV
namespace WV
open PySem PySem.W PySem.Calls PyProof.Rows
theorem head_left (call : WalkO (view R.prog [106]) loose (XL (view R.prog [106]) []) hk.says R.toRowW (HandSHeadRun.topDef R.prog 106) [] fun f vs => PySem.call f vs) : PySem.Challenge.rw_wordvault_k89_whole_codes_along_a_text.Holds := by
  w_on; o_law
  refine HandSHeadRun.head_any (r := OpenLaw.row PySem.Challenge.rw_wordvault_k89_whole_codes_along_a_text) (q := view (OpenLaw.row PySem.Challenge.rw_wordvault_k89_whole_codes_along_a_text).prog [106]) (H := hk) (ob := ob) (M := 20000) (loose := loose) (d := HandSHeadRun.topDef (OpenLaw.row PySem.Challenge.rw_wordvault_k89_whole_codes_along_a_text).prog 106) (kwd := []) ob_eq
    (by kernel_rfl) (fun s => by kernel_rfl) run (by kernel_rfl) (by kernel_rfl) (by kernel_rfl) (by rfl) (by first | assumption | decide +kernel) (by decide +kernel) ⟨rfl, rfl, rfl, rfl, rfl, by decide +kernel⟩ ?hw call
  case hw => w_witness2
end WV
end
section
set_option maxRecDepth 100000
set_option maxHeartbeats 4000000
namespace WV
open PySem PySem.Spec PyProof.Rows L2
theorem SaysM.fact {K : PySem.W.Frag} (c : SaysM K) (i : Nat) {f : He.Fa} (h : fa[i]? = some f) : f.ok K = true := by
  have c1 := (He.ba (show ((fa.all fun f => f.ok K) && ((fn.all fun d => d.ok K) && extra K)) = true from congrArg (fun z : AlM => z.1) c)).1
  exact List.all_eq_true.mp c1 f (List.mem_of_getElem? h)
theorem SaysM.def_ {K : PySem.W.Frag} (c : SaysM K) (i : Nat) {d : He.DefD} (h : fn[i]? = some d) : ∃ fd, FunD K d.name d.qual d.params d.body d.scope (d.dvs K) (d.kws K) (He.fAd K d.at_) fd := by
  have c2 := (He.ba (He.ba (show ((fa.all fun f => f.ok K) && ((fn.all fun d => d.ok K) && extra K)) = true from congrArg (fun z : AlM => z.1) c)).2).1
  have e : fn.map (fun d => He.fnW K d.at_) = fn.map He.DefD.val := congrArg (fun z : AlM => z.2) c
  have e2 : (fn.map fun d => He.fnW K d.at_)[i]? = (fn.map He.DefD.val)[i]? := by rw [e]
  rw [List.getElem?_map, List.getElem?_map, h] at e2
  exact He.DefD.funD (Option.some.inj e2) (List.all_eq_true.mp c2 d (List.mem_of_getElem? h))
theorem SaysM.ext {K : PySem.W.Frag} (c : SaysM K) : extra K = true :=
  (He.ba (He.ba (show ((fa.all fun f => f.ok K) && ((fn.all fun d => d.ok K) && extra K)) = true from congrArg (fun z : AlM => z.1) c)).2).2
/-- what the walks lean on -/
structure T (K : PySem.W.Frag) (mg : Str → Option Value) : Prop where
  says : SaysM K
  glo : ∀ (i : Nat) {x : Str}, fa[i]? = some (.glo x) → mg x = some (.ref (He.ga K x))
  free : ∀ (i : Nat) {x : Str}, fa[i]? = some (.free x) → mg x = none
  intv : ∀ (i : Nat) {x : Str} {n : Int}, fa[i]? = some (.int x n) → ∃ u, mg x = some u ∧ RelV (.int n) u
  strv : ∀ (i : Nat) {x z : Str}, fa[i]? = some (.str x z) → ∃ u, mg x = some u ∧ RelV (.str z) u
theorem T.of {K : PySem.W.Frag} {h : Heap} {mg : Str → Option Value} (X : K.In h) (G : h.Ns mainGlobals mg) (c : SaysM K) : T K mg where
  says := c
  glo := fun i x e => He.glo_ok X G (c.fact i e)
  free := fun i x e => He.free_ok X G (c.fact i e)
  intv := fun i x n e => by
    obtain ⟨t, q⟩ := He.int_ok X G (c.fact i e)
    exact ⟨_, q, t, rfl⟩
  strv := fun i x z e => by
    obtain ⟨t, q⟩ := He.str_ok X G (c.fact i e)
    exact ⟨_, q, t, rfl⟩
section
variable {K : PySem.W.Frag} {mg : Str → Option Value}
theorem T.fact (t : T K mg) (i : Nat) {f : He.Fa} (h : fa[i]? = some f) : f.ok K = true := t.says.fact i h
theorem T.g_is_count (t : T K mg) : mg "is_count" = some (.ref (He.ga K "is_count")) := t.glo 0 rfl
theorem T.g_two_power (t : T K mg) : mg "two_power" = some (.ref (He.ga K "two_power")) := t.glo 1 rfl
theorem T.g_check_signs (t : T K mg) : mg "check_signs" = some (.ref (He.ga K "check_signs")) := t.glo 2 rfl
theorem T.g_check_counts (t : T K mg) : mg "check_counts" = some (.ref (He.ga K "check_counts")) := t.glo 3 rfl
theorem T.g_bits_of (t : T K mg) : mg "bits_of" = some (.ref (He.ga K "bits_of")) := t.glo 4 rfl
theorem T.g_canonical (t : T K mg) : mg "canonical" = some (.ref (He.ga K "canonical")) := t.glo 5 rfl
theorem T.g_is_bits (t : T K mg) : mg "is_bits" = some (.ref (He.ga K "is_bits")) := t.glo 6 rfl
theorem T.g_checked_words (t : T K mg) : mg "checked_words" = some (.ref (He.ga K "checked_words")) := t.glo 7 rfl
theorem T.g_code_of (t : T K mg) : mg "code_of" = some (.ref (He.ga K "code_of")) := t.glo 8 rfl
theorem T.g_check_pair (t : T K mg) : mg "check_pair" = some (.ref (He.ga K "check_pair")) := t.glo 9 rfl
theorem T.g_cost_by (t : T K mg) : mg "cost_by" = some (.ref (He.ga K "cost_by")) := t.glo 10 rfl
theorem T.g_cost (t : T K mg) : mg "cost" = some (.ref (He.ga K "cost")) := t.glo 11 rfl
theorem T.g_joined_pairs (t : T K mg) : mg "joined_pairs" = some (.ref (He.ga K "joined_pairs")) := t.glo 12 rfl
theorem T.g_least_of (t : T K mg) : mg "least_of" = some (.ref (He.ga K "least_of")) := t.glo 13 rfl
theorem T.g_least_cost (t : T K mg) : mg "least_cost" = some (.ref (He.ga K "least_cost")) := t.glo 14 rfl
theorem T.g_lengths_for (t : T K mg) : mg "lengths_for" = some (.ref (He.ga K "lengths_for")) := t.glo 15 rfl
theorem T.g_least_code (t : T K mg) : mg "least_code" = some (.ref (He.ga K "least_code")) := t.glo 16 rfl
theorem T.g_is_least_for (t : T K mg) : mg "is_least_for" = some (.ref (He.ga K "is_least_for")) := t.glo 17 rfl
theorem T.g_is_least (t : T K mg) : mg "is_least" = some (.ref (He.ga K "is_least")) := t.glo 18 rfl
theorem T.g_as_frozen (t : T K mg) : mg "as_frozen" = some (.ref (He.ga K "as_frozen")) := t.glo 19 rfl
theorem T.g_check_rank (t : T K mg) : mg "check_rank" = some (.ref (He.ga K "check_rank")) := t.glo 20 rfl
theorem T.g_is_sign_of (t : T K mg) : mg "is_sign_of" = some (.ref (He.ga K "is_sign_of")) := t.glo 21 rfl
theorem T.g_parted_sign (t : T K mg) : mg "parted_sign" = some (.ref (He.ga K "parted_sign")) := t.glo 22 rfl
theorem T.g_parted_code (t : T K mg) : mg "parted_code" = some (.ref (He.ga K "parted_code")) := t.glo 23 rfl
theorem T.g_put_sign (t : T K mg) : mg "put_sign" = some (.ref (He.ga K "put_sign")) := t.glo 24 rfl
theorem T.g_strike_sign (t : T K mg) : mg "strike_sign" = some (.ref (He.ga K "strike_sign")) := t.glo 25 rfl
theorem T.g_is_tally (t : T K mg) : mg "is_tally" = some (.ref (He.ga K "is_tally")) := t.glo 26 rfl
theorem T.g_is_event (t : T K mg) : mg "is_event" = some (.ref (He.ga K "is_event")) := t.glo 27 rfl
theorem T.g_is_beginning (t : T K mg) : mg "is_beginning" = some (.ref (He.ga K "is_beginning")) := t.glo 28 rfl
theorem T.g_tallies_of (t : T K mg) : mg "tallies_of" = some (.ref (He.ga K "tallies_of")) := t.glo 29 rfl
theorem T.g_taken_on (t : T K mg) : mg "taken_on" = some (.ref (He.ga K "taken_on")) := t.glo 30 rfl
theorem T.g_plan_codes (t : T K mg) : mg "plan_codes" = some (.ref (He.ga K "plan_codes")) := t.glo 31 rfl
theorem T.g_is_pair_at (t : T K mg) : mg "is_pair_at" = some (.ref (He.ga K "is_pair_at")) := t.glo 32 rfl
theorem T.g_codes_hold (t : T K mg) : mg "codes_hold" = some (.ref (He.ga K "codes_hold")) := t.glo 33 rfl
theorem T.g_serves (t : T K mg) : mg "serves" = some (.ref (He.ga K "serves")) := t.glo 34 rfl
theorem T.g_stops_hold (t : T K mg) : mg "stops_hold" = some (.ref (He.ga K "stops_hold")) := t.glo 35 rfl
theorem T.g_is_plan (t : T K mg) : mg "is_plan" = some (.ref (He.ga K "is_plan")) := t.glo 36 rfl
theorem T.g_code_at (t : T K mg) : mg "code_at" = some (.ref (He.ga K "code_at")) := t.glo 37 rfl
theorem T.g_is_from (t : T K mg) : mg "is_from" = some (.ref (He.ga K "is_from")) := t.glo 38 rfl
theorem T.g_is_name (t : T K mg) : mg "is_name" = some (.ref (He.ga K "is_name")) := t.glo 39 rfl
theorem T.g_is_part (t : T K mg) : mg "is_part" = some (.ref (He.ga K "is_part")) := t.glo 40 rfl
theorem T.g_is_rule (t : T K mg) : mg "is_rule" = some (.ref (He.ga K "is_rule")) := t.glo 41 rfl
theorem T.g_names_in (t : T K mg) : mg "names_in" = some (.ref (He.ga K "names_in")) := t.glo 42 rfl
theorem T.g_in_order (t : T K mg) : mg "in_order" = some (.ref (He.ga K "in_order")) := t.glo 43 rfl
theorem T.g_names_below (t : T K mg) : mg "names_below" = some (.ref (He.ga K "names_below")) := t.glo 44 rfl
theorem T.g_check_rules (t : T K mg) : mg "check_rules" = some (.ref (He.ga K "check_rules")) := t.glo 45 rfl
theorem T.g_name_of (t : T K mg) : mg "name_of" = some (.ref (He.ga K "name_of")) := t.glo 46 rfl
theorem T.g_check_stretch (t : T K mg) : mg "check_stretch" = some (.ref (He.ga K "check_stretch")) := t.glo 47 rfl
theorem T.g_cut_out (t : T K mg) : mg "cut_out" = some (.ref (He.ga K "cut_out")) := t.glo 48 rfl
theorem T.g_counts_added (t : T K mg) : mg "counts_added" = some (.ref (He.ga K "counts_added")) := t.glo 49 rfl
theorem T.g_check_tallies (t : T K mg) : mg "check_tallies" = some (.ref (He.ga K "check_tallies")) := t.glo 50 rfl
theorem T.g_common (t : T K mg) : mg "common" = some (.ref (He.ga K "common")) := t.glo 51 rfl
theorem T.g_with_steps (t : T K mg) : mg "with_steps" = some (.ref (He.ga K "with_steps")) := t.glo 52 rfl
theorem T.g_lasts (t : T K mg) : mg "lasts" = some (.ref (He.ga K "lasts")) := t.glo 53 rfl
theorem T.g_law_pen (t : T K mg) : mg "_law_pen" = some (.ref (He.ga K "_law_pen")) := t.glo 54 rfl
theorem T.g_law_draw (t : T K mg) : mg "_law_draw" = some (.ref (He.ga K "_law_draw")) := t.glo 55 rfl
theorem T.g_law_rules (t : T K mg) : mg "_law_rules" = some (.ref (He.ga K "_law_rules")) := t.glo 56 rfl
theorem T.g_law_text (t : T K mg) : mg "_law_text" = some (.ref (He.ga K "_law_text")) := t.glo 57 rfl
theorem T.g_law (t : T K mg) : mg "law" = some (.ref (He.ga K "law")) := t.glo 58 rfl
theorem T.g_Code (t : T K mg) : mg "Code" = some (.ref (He.ga K "Code")) := t.glo 59 rfl
theorem T.c_Code (t : T K mg) : Cls K (He.ga K "Code") := He.cls_ok (t.fact 60 rfl)
theorem T.m_Code (t : T K mg) : Mk K (He.ga K "Code") (He.ma K (He.ga K "Code") "__init__") := He.mkr_ok (t.fact 61 rfl)
theorem T.n_Code_lengths (t : T K mg) : NoAttr K (He.ga K "Code") "lengths" := He.noat_ok (t.fact 62 rfl)
theorem T.n_Code_words (t : T K mg) : NoAttr K (He.ga K "Code") "words" := He.noat_ok (t.fact 63 rfl)
theorem T.n_Code_size (t : T K mg) : NoAttr K (He.ga K "Code") "size" := He.noat_ok (t.fact 64 rfl)
theorem T.n_Code_longest (t : T K mg) : NoAttr K (He.ga K "Code") "longest" := He.noat_ok (t.fact 65 rfl)
theorem T.g_Stretch (t : T K mg) : mg "Stretch" = some (.ref (He.ga K "Stretch")) := t.glo 66 rfl
theorem T.c_Stretch (t : T K mg) : Cls K (He.ga K "Stretch") := He.cls_ok (t.fact 67 rfl)
theorem T.m_Stretch (t : T K mg) : Mk K (He.ga K "Stretch") (He.ma K (He.ga K "Stretch") "__init__") := He.mkr_ok (t.fact 68 rfl)
theorem T.n_Stretch_groups (t : T K mg) : NoAttr K (He.ga K "Stretch") "groups" := He.noat_ok (t.fact 69 rfl)
theorem T.n_Stretch_depths (t : T K mg) : NoAttr K (He.ga K "Stretch") "depths" := He.noat_ok (t.fact 70 rfl)
theorem T.n_Stretch_total (t : T K mg) : NoAttr K (He.ga K "Stretch") "total" := He.noat_ok (t.fact 71 rfl)
theorem T.n_Stretch_least (t : T K mg) : NoAttr K (He.ga K "Stretch") "least" := He.noat_ok (t.fact 72 rfl)
theorem T.n_Stretch_last (t : T K mg) : NoAttr K (He.ga K "Stretch") "last" := He.noat_ok (t.fact 73 rfl)
theorem T.g_CodePlan (t : T K mg) : mg "CodePlan" = some (.ref (He.ga K "CodePlan")) := t.glo 74 rfl
theorem T.c_CodePlan (t : T K mg) : Cls K (He.ga K "CodePlan") := He.cls_ok (t.fact 75 rfl)
theorem T.m_CodePlan (t : T K mg) : Mk K (He.ga K "CodePlan") (He.ma K (He.ga K "CodePlan") "__init__") := He.mkr_ok (t.fact 76 rfl)
theorem T.n_CodePlan_history (t : T K mg) : NoAttr K (He.ga K "CodePlan") "history" := He.noat_ok (t.fact 77 rfl)
theorem T.n_CodePlan_codes (t : T K mg) : NoAttr K (He.ga K "CodePlan") "codes" := He.noat_ok (t.fact 78 rfl)
theorem T.n_CodePlan_stops (t : T K mg) : NoAttr K (He.ga K "CodePlan") "stops" := He.noat_ok (t.fact 79 rfl)
theorem T.g_Text (t : T K mg) : mg "Text" = some (.ref (He.ga K "Text")) := t.glo 80 rfl
theorem T.c_Text (t : T K mg) : Cls K (He.ga K "Text") := He.cls_ok (t.fact 81 rfl)
theorem T.m_Text (t : T K mg) : Mk K (He.ga K "Text") (He.ma K (He.ga K "Text") "__init__") := He.mkr_ok (t.fact 82 rfl)
theorem T.n_Text_own_order (t : T K mg) : NoAttr K (He.ga K "Text") "own_order" := He.noat_ok (t.fact 83 rfl)
theorem T.n_Text_signs (t : T K mg) : NoAttr K (He.ga K "Text") "signs" := He.noat_ok (t.fact 84 rfl)
theorem T.n_Text_own_rules (t : T K mg) : NoAttr K (He.ga K "Text") "own_rules" := He.noat_ok (t.fact 85 rfl)
theorem T.n_Text_root (t : T K mg) : NoAttr K (He.ga K "Text") "root" := He.noat_ok (t.fact 86 rfl)
theorem T.n_Text_own_sizes (t : T K mg) : NoAttr K (He.ga K "Text") "own_sizes" := He.noat_ok (t.fact 87 rfl)
theorem T.n_Text_size (t : T K mg) : NoAttr K (He.ga K "Text") "size" := He.noat_ok (t.fact 88 rfl)
theorem T.n_Text_depth (t : T K mg) : NoAttr K (He.ga K "Text") "depth" := He.noat_ok (t.fact 89 rfl)
theorem T.g_Maker (t : T K mg) : mg "Maker" = some (.ref (He.ga K "Maker")) := t.glo 90 rfl
theorem T.c_Maker (t : T K mg) : Cls K (He.ga K "Maker") := He.cls_ok (t.fact 91 rfl)
theorem T.m_Maker (t : T K mg) : Mk K (He.ga K "Maker") (He.ma K (He.ga K "Maker") "__init__") := He.mkr_ok (t.fact 92 rfl)
theorem T.n_Maker_signs (t : T K mg) : NoAttr K (He.ga K "Maker") "signs" := He.noat_ok (t.fact 93 rfl)
theorem T.n_Maker_own_rules (t : T K mg) : NoAttr K (He.ga K "Maker") "own_rules" := He.noat_ok (t.fact 94 rfl)
theorem T.g_Coded (t : T K mg) : mg "Coded" = some (.ref (He.ga K "Coded")) := t.glo 95 rfl
theorem T.c_Coded (t : T K mg) : Cls K (He.ga K "Coded") := He.cls_ok (t.fact 96 rfl)
theorem T.m_Coded (t : T K mg) : Mk K (He.ga K "Coded") (He.ma K (He.ga K "Coded") "__init__") := He.mkr_ok (t.fact 97 rfl)
theorem T.n_Coded_code (t : T K mg) : NoAttr K (He.ga K "Coded") "code" := He.noat_ok (t.fact 98 rfl)
theorem T.n_Coded_text (t : T K mg) : NoAttr K (He.ga K "Coded") "text" := He.noat_ok (t.fact 99 rfl)
theorem T.n_Coded_own_bits (t : T K mg) : NoAttr K (He.ga K "Coded") "own_bits" := He.noat_ok (t.fact 100 rfl)
theorem T.n_Coded_size (t : T K mg) : NoAttr K (He.ga K "Coded") "size" := He.noat_ok (t.fact 101 rfl)
theorem T.g_Common (t : T K mg) : mg "Common" = some (.ref (He.ga K "Common")) := t.glo 102 rfl
theorem T.c_Common (t : T K mg) : Cls K (He.ga K "Common") := He.cls_ok (t.fact 103 rfl)
theorem T.m_Common (t : T K mg) : Mk K (He.ga K "Common") (He.ma K (He.ga K "Common") "__init__") := He.mkr_ok (t.fact 104 rfl)
theorem T.n_Common_rows (t : T K mg) : NoAttr K (He.ga K "Common") "rows" := He.noat_ok (t.fact 105 rfl)
theorem T.n_Common_code (t : T K mg) : NoAttr K (He.ga K "Common") "code" := He.noat_ok (t.fact 106 rfl)
theorem T.g_Apart (t : T K mg) : mg "Apart" = some (.ref (He.ga K "Apart")) := t.glo 107 rfl
theorem T.c_Apart (t : T K mg) : Cls K (He.ga K "Apart") := He.cls_ok (t.fact 108 rfl)
theorem T.m_Apart (t : T K mg) : Mk K (He.ga K "Apart") (He.ma K (He.ga K "Apart") "__init__") := He.mkr_ok (t.fact 109 rfl)
theorem T.n_Apart_rows (t : T K mg) : NoAttr K (He.ga K "Apart") "rows" := He.noat_ok (t.fact 110 rfl)
theorem T.n_Apart_whole (t : T K mg) : NoAttr K (He.ga K "Apart") "whole" := He.noat_ok (t.fact 111 rfl)
theorem T.n_Apart_parts (t : T K mg) : NoAttr K (He.ga K "Apart") "parts" := He.noat_ok (t.fact 112 rfl)
theorem T.h_Code_eq (t : T K mg) : Meth K (He.ga K "Code") "__eq__" (He.ma K (He.ga K "Code") "__eq__") := He.meth_ok (t.fact 113 rfl)
theorem T.h_Stretch_takes (t : T K mg) : Meth K (He.ga K "Stretch") "takes" (He.ma K (He.ga K "Stretch") "takes") := He.meth_ok (t.fact 114 rfl)
theorem T.h_Stretch_code_for (t : T K mg) : Meth K (He.ga K "Stretch") "code_for" (He.ma K (He.ga K "Stretch") "code_for") := He.meth_ok (t.fact 115 rfl)
theorem T.h_Text_size_of (t : T K mg) : Meth K (He.ga K "Text") "size_of" (He.ma K (He.ga K "Text") "size_of") := He.meth_ok (t.fact 116 rfl)
theorem T.h_Text_items_of (t : T K mg) : Meth K (He.ga K "Text") "items_of" (He.ma K (He.ga K "Text") "items_of") := He.meth_ok (t.fact 117 rfl)
theorem T.h_Text_counted (t : T K mg) : Meth K (He.ga K "Text") "counted" (He.ma K (He.ga K "Text") "counted") := He.meth_ok (t.fact 118 rfl)
theorem T.h_Text_tally (t : T K mg) : Meth K (He.ga K "Text") "tally" (He.ma K (He.ga K "Text") "tally") := He.meth_ok (t.fact 119 rfl)
theorem T.h_Text_ahead (t : T K mg) : Meth K (He.ga K "Text") "ahead" (He.ma K (He.ga K "Text") "ahead") := He.meth_ok (t.fact 120 rfl)
theorem T.h_Maker_add_rule (t : T K mg) : Meth K (He.ga K "Maker") "add_rule" (He.ma K (He.ga K "Maker") "add_rule") := He.meth_ok (t.fact 121 rfl)
theorem T.h_Maker_add_text (t : T K mg) : Meth K (He.ga K "Maker") "add_text" (He.ma K (He.ga K "Maker") "add_text") := He.meth_ok (t.fact 122 rfl)
theorem T.h_Maker_text_of (t : T K mg) : Meth K (He.ga K "Maker") "text_of" (He.ma K (He.ga K "Maker") "text_of") := He.meth_ok (t.fact 123 rfl)
theorem T.h_Coded_bits_in (t : T K mg) : Meth K (He.ga K "Coded") "bits_in" (He.ma K (He.ga K "Coded") "bits_in") := He.meth_ok (t.fact 124 rfl)
theorem T.b_isinstance (t : T K mg) : mg "isinstance" = none := t.free 125 rfl
theorem T.b_int (t : T K mg) : mg "int" = none := t.free 126 rfl
theorem T.b_bool (t : T K mg) : mg "bool" = none := t.free 127 rfl
theorem T.b_str (t : T K mg) : mg "str" = none := t.free 128 rfl
theorem T.b_list (t : T K mg) : mg "list" = none := t.free 129 rfl
theorem T.b_tuple (t : T K mg) : mg "tuple" = none := t.free 130 rfl
theorem T.b_len (t : T K mg) : mg "len" = none := t.free 131 rfl
theorem T.b_range (t : T K mg) : mg "range" = none := t.free 132 rfl
theorem T.b_enumerate (t : T K mg) : mg "enumerate" = none := t.free 133 rfl
theorem T.b_zip (t : T K mg) : mg "zip" = none := t.free 134 rfl
theorem T.b_sorted (t : T K mg) : mg "sorted" = none := t.free 135 rfl
theorem T.b_sum (t : T K mg) : mg "sum" = none := t.free 136 rfl
theorem T.b_max (t : T K mg) : mg "max" = none := t.free 137 rfl
theorem T.b_min (t : T K mg) : mg "min" = none := t.free 138 rfl
theorem T.b_abs (t : T K mg) : mg "abs" = none := t.free 139 rfl
theorem T.b_all (t : T K mg) : mg "all" = none := t.free 140 rfl
theorem T.b_any (t : T K mg) : mg "any" = none := t.free 141 rfl
theorem T.i_MOST_SIGNS (t : T K mg) : ∃ u, mg "MOST_SIGNS" = some u ∧ RelV (.int 2000) u := t.intv 142 rfl
theorem T.i_MOST_LENGTH (t : T K mg) : ∃ u, mg "MOST_LENGTH" = some u ∧ RelV (.int 1999) u := t.intv 143 rfl
theorem T.i_MOST_PAIRS (t : T K mg) : ∃ u, mg "MOST_PAIRS" = some u ∧ RelV (.int 400) u := t.intv 144 rfl
theorem T.i_CAPITALS (t : T K mg) : ∃ u, mg "CAPITALS" = some u ∧ RelV (.str "ABCDEFGHIJKLMNOPQRSTUVWXYZ") u := t.strv 145 rfl
theorem T.i_MOST_TEXT_SIGNS (t : T K mg) : ∃ u, mg "MOST_TEXT_SIGNS" = some u ∧ RelV (.int 2000) u := t.intv 146 rfl
theorem T.i_MOST_RULES (t : T K mg) : ∃ u, mg "MOST_RULES" = some u ∧ RelV (.int 2000) u := t.intv 147 rfl
theorem T.i_MOST_ITEMS (t : T K mg) : ∃ u, mg "MOST_ITEMS" = some u ∧ RelV (.int 40) u := t.intv 148 rfl
theorem T.i_MOST_COUNT (t : T K mg) : ∃ u, mg "MOST_COUNT" = some u ∧ RelV (.int 1000000000000000000000000000000) u := t.intv 149 rfl
theorem T.i_MOST_PART (t : T K mg) : ∃ u, mg "MOST_PART" = some u ∧ RelV (.int 2000) u := t.intv 150 rfl
theorem T.i_MOST_TALLIES (t : T K mg) : ∃ u, mg "MOST_TALLIES" = some u ∧ RelV (.int 2000) u := t.intv 151 rfl
theorem T.x0 (t : T K mg) : PySem.W.specialIn K (.builtin "object.__class__") "__get__" = some (some (.builtin "getset_descriptor.__get__")) := of_decide_eq_true (He.ba (He.ba t.says.ext).1).1
theorem T.x1 (t : T K mg) : PySem.W.takesIn K (.builtin "object.__class__") = some true := of_decide_eq_true (He.ba (He.ba t.says.ext).1).2
theorem T.xC (t : T K mg) : isiC K "Code" = true := (He.ba (He.ba (He.ba t.says.ext).2).1).1
theorem T.xM (t : T K mg) : isiC K "Common" = true := (He.ba (He.ba (He.ba (He.ba t.says.ext).2).1).2).1
theorem T.xA (t : T K mg) : isiC K "Apart" = true := (He.ba (He.ba (He.ba (He.ba t.says.ext).2).1).2).2
theorem T.xAM (t : T K mg) : PySem.W.kitOne K (.ref (He.ga K "Apart")) (.ref (He.ga K "Common")) = some false := of_decide_eq_true (He.ba (He.ba (He.ba t.says.ext).2).2).1
theorem T.xCL (t : T K mg) : PySem.W.kitAny K (.ref (He.ga K "Code")) [.type "list", .type "tuple"] = some false := of_decide_eq_true (He.ba (He.ba (He.ba t.says.ext).2).2).2
theorem T.tyOf (t : T K mg) {H : Hp} {x : Str} (h : isiC K x = true) (cl : Cls K (He.ga K x)) {a dx : Addr} {fs : List (Str × V)} (e : H a = some (.ins (He.ga K x) dx fs)) : TyX K H (.ref a) (.ref (He.ga K x)) :=
  .base (.ins e cl (of_decide_eq_true (He.ba h).1) t.x0 t.x1 (of_decide_eq_true (He.ba h).2))
end
theorem bt_isinstance : bootBuiltins "isinstance" = some (.builtin "isinstance") := by decide +kernel
theorem bt_int : bootBuiltins "int" = some (.type "int") := by decide +kernel
theorem bt_bool : bootBuiltins "bool" = some (.type "bool") := by decide +kernel
theorem bt_str : bootBuiltins "str" = some (.type "str") := by decide +kernel
theorem bt_list : bootBuiltins "list" = some (.type "list") := by decide +kernel
theorem bt_tuple : bootBuiltins "tuple" = some (.type "tuple") := by decide +kernel
theorem bt_len : bootBuiltins "len" = some (.builtin "len") := by decide +kernel
theorem bt_range : bootBuiltins "range" = some (.type "range") := by decide +kernel
theorem bt_enumerate : bootBuiltins "enumerate" = some (.type "enumerate") := by decide +kernel
theorem bt_zip : bootBuiltins "zip" = some (.type "zip") := by decide +kernel
theorem bt_sorted : bootBuiltins "sorted" = some (.builtin "sorted") := by decide +kernel
theorem bt_sum : bootBuiltins "sum" = some (.builtin "sum") := by decide +kernel
theorem bt_max : bootBuiltins "max" = some (.builtin "max") := by decide +kernel
theorem bt_min : bootBuiltins "min" = some (.builtin "min") := by decide +kernel
theorem bt_abs : bootBuiltins "abs" = some (.builtin "abs") := by decide +kernel
theorem bt_all : bootBuiltins "all" = some (.builtin "all") := by decide +kernel
theorem bt_any : bootBuiltins "any" = some (.builtin "any") := by decide +kernel
end WV
end
section
set_option maxRecDepth 100000
set_option maxHeartbeats 4000000
namespace WV
open PySem PySem.Spec PyProof.Rows L2
/-! ### promises of the program's defs -/
structure Okf (P : Program) (w : World) (K : PySem.W.Frag) (mg : Str → Option Value) (base : Heap) (k : Nat) (x : Str × Option Str) (ps : List Str) (dvs : List V) (sp : Sp) : Prop where
  ex : ∃ fd ds, FnOk P w K mg base CX0 k (He.fAd K x) fd ps sp ∧ Binds K fd ps ds ∧ Vals dvs ds
  kp : PySem.W.keepIn K (.ref (He.fAd K x)) = true
theorem Okf.up {P : Program} {w : World} {K : PySem.W.Frag} {mg : Str → Option Value} {base : Heap} {j k : Nat} {x : Str × Option Str} {ps : List Str} {dvs : List V} {sp : Sp} (O : Okf P w K mg base j x ps dvs sp) (h : j ≤ k) : Okf P w K mg base k x ps dvs sp := by
  obtain ⟨⟨fd, ds, F, b, v⟩, kp⟩ := O
  exact ⟨⟨fd, ds, F.mono h, b, v⟩, kp⟩
section
variable {P : Program} {w : World} {K : PySem.W.Frag} {mg : Str → Option Value} {base : Heap}
/-- a def without defaults, by its place among fn -/
theorem okf {d : He.DefD} {N ps : List Str} {k : Nat} {sp : Sp} (t : T K mg) (i : Nat) (hi : fn[i]? = some d) (hd : d.dfl = []) (S : FnScope N ps d.scope)
    (hb : ∀ (kV doc pm : Value) (an : Option Addr) (cdv ct : Value) (us : List Value), us.length = ps.length → bindArgs (PySem.W.fnOf d.name d.qual d.params d.body d.scope .none kV doc pm an cdv ct) ⟨us, []⟩ = pure (ps.zip us))
    (len : ∀ vs H Q E, sp vs H Q E → vs.length = ps.length)
    (body : ∀ (cdv : Value) (A : Around) (outer : List Env) (s : Shared) (H : Hp) (vs : List V) (Q : VK) (E : XK), Room k (A.deeper (envOfC d.qual d.scope s.heap.objs.size (He.fAd K d.at_) cdv)) → sp vs H Q E →
      ∃ t, PSs (cxOf CX0 P w K mg base N d.qual d.scope (He.fAd K d.at_) cdv A outer s H E).nox d.body t ∧ t { nx := fun _ H' => Q .non H', rt := Q } (start N vs) H) :
    Okf P w K mg base (k + 1) d.at_ ps [] sp := by
  obtain ⟨fd, F⟩ := t.says.def_ i hi
  have ed : d.dvs K = [] := by
    unfold He.DefD.dvs
    rw [hd]
    rfl
  rw [ed] at F
  refine ⟨⟨fd, [], F.ok S len fun cdv A outer s H vs Q E hr hsp => ?_, F.bindsN hb, .nil⟩, F.kp⟩
  obtain ⟨tt, h, q⟩ := body cdv A outer s H vs Q E hr hsp
  exact ⟨tt, h.nox, q⟩
end
section
variable {X : Cx} {k : Nat} {x c m : Str} {ps : List Str} {dvs : List V} {sp : Sp} {e o : Expr} {es : List Expr} {ta : TE} {t : TA} {p pos apos : Pos}
/-- f(e, ..) -/
theorem pe_f (O : Okf X.prog X.w X.K X.mg X.base k (x, none) ps dvs sp) (hr : Room k X.A) (hm : X.mg x = some (.ref (He.ga X.K x))) (ha : PA X (e :: es) t) (hg : Gl X x := by rfl) (hdb : (x == ("__debug__" : Str)) = false := by decide)
    (he : starEach (e :: es) X.env = (false, eval e X.env) :: starEach es X.env := by rfl) (hpl : (backTo pos (starEach es X.env)).any (·.1) = false := by rfl) : PE X (.Call (.Name x p) (e :: es) [] pos) (tCall sp dvs E0 t) := by
  obtain ⟨⟨fd, ds, F, b, v⟩, kp⟩ := O
  exact pe_call F hr hg hm kp b v pass0 ha hdb he hpl
/-- C(e, ..), C a class of the program -/
theorem pe_mkf (O : Okf X.prog X.w X.K X.mg X.base k (c, some "__init__") ps dvs sp) (M : Mk X.K (He.ga X.K c) (He.ma X.K (He.ga X.K c) "__init__")) (hr : Room (k + 1) X.A) (hm : X.mg c = some (.ref (He.ga X.K c))) (ha : PA X (e :: es) t) (hg : Gl X c := by rfl)
    (hdb : (c == ("__debug__" : Str)) = false := by decide) (he : starEach (e :: es) X.env = (false, eval e X.env) :: starEach es X.env := by rfl) (hpl : (backTo pos (starEach es X.env)).any (·.1) = false := by rfl) :
    PE X (.Call (.Name c p) (e :: es) [] pos) (tMake (He.ga X.K c) sp dvs E0 t) := by
  obtain ⟨⟨fd, ds, F, b, v⟩, kp⟩ := O
  exact pe_make M F hr hg hm b v pass0 ha hdb he hpl
/-- o.m(e, ..), o.m() -/
theorem pe_mf {pl : Sem Bool} (O : Okf X.prog X.w X.K X.mg X.base k (c, some m) ps dvs sp) (hr : Room k X.A) (he : PE X o ta) (cl : Cls X.K (He.ga X.K c)) (hm : Meth X.K (He.ga X.K c) m (He.ma X.K (He.ga X.K c) m)) (ha : PA X (e :: es) t)
    (hst : starEach (e :: es) X.env = (false, eval e X.env) :: starEach es X.env := by rfl) (hpl : (backTo pos (starEach es X.env)).any (·.1) = false := by rfl)
    (ht : eval (.Call (.Attribute o m apos) (e :: es) [] pos) X.env = (do
      let ov ← eval o X.env
      standAt apos.atName
      let (f, first) ← holding [ov] (getMethod ov m pl)
      callWith pos f first (backTo pos (starEach (e :: es) X.env)) (backToKw pos (keywordEach [] X.env))) := by rfl) :
    PE X (.Call (.Attribute o m apos) (e :: es) [] pos) (tMeth (He.ga X.K c) m sp dvs E0 ta t) := by
  obtain ⟨⟨fd, ds, F, b, v⟩, kp⟩ := O
  exact pe_meth he cl hm F hr b v pass0 ha hst hpl ht
theorem pe_mf0 {pl : Sem Bool} (O : Okf X.prog X.w X.K X.mg X.base k (c, some m) ps dvs sp) (hr : Room k X.A) (he : PE X o ta) (cl : Cls X.K (He.ga X.K c)) (hm : Meth X.K (He.ga X.K c) m (He.ma X.K (He.ga X.K c) m))
    (ht : eval (.Call (.Attribute o m apos) [] [] pos) X.env = (do
      let ov ← eval o X.env
      standAt apos.atName
      let (f, first) ← holding [ov] (getMethod ov m pl)
      callWith pos f first (backTo pos (starEach [] X.env)) (backToKw pos (keywordEach [] X.env))) := by rfl) :
    PE X (.Call (.Attribute o m apos) [] [] pos) (tMeth (He.ga X.K c) m sp dvs E0 ta tNil) := by
  obtain ⟨⟨fd, ds, F, b, v⟩, kp⟩ := O
  exact pe_meth0 he cl hm F hr b v pass0 ht
/-- a constant of the module -/
theorem pe_k {v : V} (h : ∃ u, X.mg x = some u ∧ RelV v u) (hg : Gl X x := by rfl) (hd : (x == ("__debug__" : Str)) = false := by decide) : PE X (.Name x pos) (tC v) := by
  obtain ⟨u, hm, r⟩ := h
  exact pe_glob hg hm r hd
/-- a built-in class as a value -/
theorem pe_bt {n : String} (hm : X.mg x = none) (hv : bootBuiltins x = some (.type n)) (hg : Gl X x := by rfl) (hn : x ≠ "__name__" := by decide) (hd : (x == ("__debug__" : Str)) = false := by decide) : PE X (.Name x pos) (tC (.ty n)) :=
  pe_bltn hg hm hv rfl hn hd
/-- the class c of the program as a value -/
theorem pe_cls (hm : X.mg c = some (.ref (He.ga X.K c))) (hg : Gl X c := by rfl) (hd : (c == ("__debug__" : Str)) = false := by decide) : PE X (.Name c pos) (tC (.ref (He.ga X.K c))) := pe_glob hg hm rfl hd
end
/-! ### heaps that grow -/
theorem _root_.L2.Same.tup {K : PySem.W.Frag} {H H' : Hp} {a : Addr} {xs : List V} (e : Same H H') (h : SqT K H a xs) : SqT K H' a xs := by
  rcases h with (h | ⟨o, h⟩) | h
  · exact .inl (.inl (e _ _ h))
  · exact .inl (.inr ⟨o, e _ _ h⟩)
  · exact .inr h
theorem _root_.L2.Same.new {H : Hp} {p : Addr} {o : HO} (h : H p = none) : Same H (upd H p o) := fun b x e => by
  rw [upd_ne (ne_of_none e h)]
  exact e
/-- what H does not know may change -/
theorem _root_.L2.Same.mut {H H' : Hp} {p : Addr} {o : HO} (e : Same H H') (h : H p = none) : Same H (upd H' p o) := fun b x q => by
  rw [upd_ne (ne_of_none q h)]
  exact e b x q
/-! ### data -/
inductive Dat where
  | v (x : V) | L (xs : List Dat) | T (xs : List Dat)
mutual
inductive Rp (K : PySem.W.Frag) (H : Hp) : V → Dat → Prop
  | v (x : V) : Rp K H x (.v x)
  | L {a : Addr} {xs : List V} {ds : List Dat} : SqL K H a xs → RpA K H xs ds → Rp K H (.ref a) (.L ds)
  | T {a : Addr} {xs : List V} {ds : List Dat} : SqT K H a xs → RpA K H xs ds → Rp K H (.ref a) (.T ds)
inductive RpA (K : PySem.W.Frag) (H : Hp) : List V → List Dat → Prop
  | nil : RpA K H [] []
  | cons {v : V} {vs : List V} {d : Dat} {ds : List Dat} : Rp K H v d → RpA K H vs ds → RpA K H (v :: vs) (d :: ds)
end
section
variable {K : PySem.W.Frag} {H H' : Hp}
mutual
theorem Rp.mono (e : Same H H') : ∀ {v : V} {d : Dat}, Rp K H v d → Rp K H' v d
  | _, .v _, .v _ => .v _
  | _, .L _, .L h r => .L (e.seq h) (RpA.mono e r)
  | _, .T _, .T h r => .T (e.tup h) (RpA.mono e r)
theorem RpA.mono (e : Same H H') : ∀ {vs : List V} {ds : List Dat}, RpA K H vs ds → RpA K H' vs ds
  | _, [], .nil => .nil
  | _, _ :: _, .cons h r => .cons (Rp.mono e h) (RpA.mono e r)
end
theorem RpA.len : ∀ {vs : List V} {ds : List Dat}, RpA K H vs ds → vs.length = ds.length
  | _, _, .nil => rfl
  | _, _, .cons _ r => congrArg Nat.succ r.len
theorem RpA.get : ∀ {vs : List V} {ds : List Dat} {i : Nat} {d : Dat}, RpA K H vs ds → ds[i]? = some d → ∃ v, vs[i]? = some v ∧ Rp K H v d
  | _, _, _, _, .nil, e => by simp at e
  | _, _, 0, _, .cons h _, e => by
    simp at e
    subst e
    exact ⟨_, rfl, h⟩
  | _, _, i + 1, _, .cons _ r, e => by
    obtain ⟨v, h1, h2⟩ := RpA.get (i := i) r (by simpa using e)
    exact ⟨v, by simpa using h1, h2⟩
theorem RpA.of_get : ∀ {vs : List V} {ds : List Dat}, vs.length = ds.length → (∀ (i : Nat) (v : V) (d : Dat), vs[i]? = some v → ds[i]? = some d → Rp K H v d) → RpA K H vs ds
  | [], [], _, _ => .nil
  | v :: vs, d :: ds, hl, h => .cons (h 0 v d rfl rfl) (RpA.of_get (by simpa using hl) fun i v' d' e1 e2 => h (i + 1) v' d' (by simpa using e1) (by simpa using e2))
  | [], _ :: _, hl, _ => by simp at hl
  | _ :: _, [], hl, _ => by simp at hl
theorem RpA.snoc : ∀ {vs : List V} {ds : List Dat} {v : V} {d : Dat}, RpA K H vs ds → Rp K H v d → RpA K H (vs ++ [v]) (ds ++ [d])
  | _, _, _, _, .nil, h => .cons h .nil
  | _, _, _, _, .cons q r, h => .cons q (r.snoc h)
theorem RpA.append : ∀ {vs ws : List V} {ds es : List Dat}, RpA K H vs ds → RpA K H ws es → RpA K H (vs ++ ws) (ds ++ es)
  | _, _, _, _, .nil, h => h
  | _, _, _, _, .cons q r, h => .cons q (r.append h)
/-- flat ones -/
def fD (xs : List V) : List Dat := xs.map Dat.v
def iD (ns : List Int) : List Dat := ns.map fun n => Dat.v (.int n)
def sD (ss : List Str) : List Dat := ss.map fun s => Dat.v (.str s)
theorem iD_eq (ns : List Int) : iD ns = fD (ns.map V.int) := by
  unfold iD fD
  rw [List.map_map]
  rfl
theorem sD_eq (ns : List Str) : sD ns = fD (ns.map V.str) := by
  unfold sD fD
  rw [List.map_map]
  rfl
theorem RpA.flat : ∀ xs : List V, RpA K H xs (fD xs)
  | [] => .nil
  | x :: xs => .cons (.v x) (RpA.flat xs)
theorem RpA.unflat : ∀ {vs xs : List V}, RpA K H vs (fD xs) → vs = xs
  | _, [], .nil => rfl
  | _, _ :: _, .cons (.v _) r => congrArg (List.cons _) (RpA.unflat r)
theorem RpA.ints (ns : List Int) : RpA K H (ns.map V.int) (iD ns) := by
  rw [iD_eq]
  exact RpA.flat _
theorem RpA.strs (ns : List Str) : RpA K H (ns.map V.str) (sD ns) := by
  rw [sD_eq]
  exact RpA.flat _
theorem RpA.unints {vs : List V} {ns : List Int} (h : RpA K H vs (iD ns)) : vs = ns.map V.int := by
  rw [iD_eq] at h
  exact RpA.unflat h
theorem RpA.unstrs {vs : List V} {ns : List Str} (h : RpA K H vs (sD ns)) : vs = ns.map V.str := by
  rw [sD_eq] at h
  exact RpA.unflat h
theorem Rp.unL {v : V} {ds : List Dat} (h : Rp K H v (.L ds)) : ∃ a xs, v = .ref a ∧ SqL K H a xs ∧ RpA K H xs ds := by
  cases h with
  | L h r => exact ⟨_, _, rfl, h, r⟩
theorem Rp.unT {v : V} {ds : List Dat} (h : Rp K H v (.T ds)) : ∃ a xs, v = .ref a ∧ SqT K H a xs ∧ RpA K H xs ds := by
  cases h with
  | T h r => exact ⟨_, _, rfl, h, r⟩
theorem Rp.unv {v x : V} (h : Rp K H v (.v x)) : v = x := by
  cases h
  rfl
theorem Rp.unLi {v : V} {ns : List Int} (h : Rp K H v (.L (iD ns))) : ∃ a, v = .ref a ∧ SqL K H a (ns.map V.int) := by
  obtain ⟨a, xs, rfl, h, r⟩ := h.unL
  rw [r.unints] at h
  exact ⟨a, rfl, h⟩
theorem Rp.unTi {v : V} {ns : List Int} (h : Rp K H v (.T (iD ns))) : ∃ a, v = .ref a ∧ SqT K H a (ns.map V.int) := by
  obtain ⟨a, xs, rfl, h, r⟩ := h.unT
  rw [r.unints] at h
  exact ⟨a, rfl, h⟩
theorem Rp.Li {a : Addr} {ns : List Int} (h : SqL K H a (ns.map V.int)) : Rp K H (.ref a) (.L (iD ns)) := .L h (.ints ns)
theorem Rp.Ti {a : Addr} {ns : List Int} (h : SqT K H a (ns.map V.int)) : Rp K H (.ref a) (.T (iD ns)) := .T h (.ints ns)
/-- a list or a tuple -/
def SqA (K : PySem.W.Frag) (H : Hp) (a : Addr) (xs : List V) : Prop := SqL K H a xs ∨ SqT K H a xs
theorem _root_.L2.Same.sqa {a : Addr} {xs : List V} (e : Same H H') (h : SqA K H a xs) : SqA K H' a xs := h.elim (fun h => .inl (e.seq h)) fun h => .inr (e.tup h)
end
end WV
end
section
set_option maxRecDepth 100000
set_option maxHeartbeats 4000000
namespace WV
open PySem PySem.Spec PyProof.Rows L2
/-! ### lists and tuples alike, walked by enumerate and zip -/
def SeqK (k : Bool) (K : PySem.W.Frag) (H : Hp) (a : Addr) (xs : List V) : Prop := if k = true then SqL K H a xs else SqT K H a xs
def ItK (k : Bool) (h : Heap) (it a : Addr) (i : Nat) : Prop := if k = true then h.IsListIter it a i else h.IsTupleIter it a i
def ObK (k : Bool) (h : Heap) (a : Addr) (its : Array Value) : Prop := if k = true then h.IsList a its else h.IsTuple a its
theorem SeqK.same {k : Bool} {K : PySem.W.Frag} {H H' : Hp} {a : Addr} {xs : List V} (e : Same H H') (h : SeqK k K H a xs) : SeqK k K H' a xs := by
  cases k with
  | true => exact e.seq h
  | false => exact e.tup h
theorem sqa_k {K : PySem.W.Frag} {H : Hp} {a : Addr} {xs : List V} (h : SqA K H a xs) : ∃ k, SeqK k K H a xs := by
  rcases h with h | h
  · exact ⟨true, h⟩
  · exact ⟨false, h⟩
theorem inv_k {X : Cx} {pins : List (Addr × Obj)} {σ : L2.St} {H : Hp} {s : Shared} {k : Bool} {a : Addr} {xs : List V} (I : Inv X pins σ H s) (h : SeqK k X.K H a xs) : ∃ its : List Value, Vals xs its ∧ ObK k s.heap a its.toArray ∧ xs.length ≤ sizeLine := by
  cases k with
  | true =>
    obtain ⟨its, r, p, z⟩ := I.list h
    exact ⟨its, r, p.isList, z⟩
  | false =>
    obtain ⟨its, r, p, z⟩ := I.tuple h
    exact ⟨its, r, p, z⟩
theorem inv_k_inj {X : Cx} {pins : List (Addr × Obj)} {σ : L2.St} {H : Hp} {s : Shared} {k : Bool} {a : Addr} {xs ys : List V} (I : Inv X pins σ H s) (h : SeqK k X.K H a xs) (h' : SeqK k X.K H a ys) : xs = ys := by
  cases k with
  | true => exact I.list_inj h h'
  | false => exact I.tuple_inj h h'
theorem ObK.lt {k : Bool} {h : Heap} {a : Addr} {its : Array Value} (x : ObK k h a its) : a < h.objs.size := by
  cases k with
  | true =>
    obtain ⟨o, e, _⟩ := x
    exact Heap.lt_size e
  | false =>
    obtain ⟨o, e, _⟩ := x
    exact Heap.lt_size e
theorem ItK.live {k : Bool} {h : Heap} {it a : Addr} {i : Nat} (x : ItK k h it a i) : ∃ o, h.get? it = some o ∧ ∀ v, o.data ≠ .cell v := by
  cases k with
  | true =>
    obtain ⟨o, e, _, d⟩ := x
    exact ⟨o, e, fun v q => by rw [d] at q; cases q⟩
  | false =>
    obtain ⟨o, e, _, d⟩ := x
    exact ⟨o, e, fun v q => by rw [d] at q; cases q⟩
theorem ItK.keep {k : Bool} {h h' : Heap} {it a : Addr} {i : Nat} (x : ItK k h it a i) (kp : ∀ o, h.get? it = some o → h'.get? it = some o) : ItK k h' it a i := by
  cases k with
  | true =>
    obtain ⟨o, e, c, d⟩ := x
    exact ⟨o, kp o e, c, d⟩
  | false =>
    obtain ⟨o, e, c, d⟩ := x
    exact ⟨o, kp o e, c, d⟩
def objK (k : Bool) (a : Addr) : Obj := { cls := .type (if k = true then "list_iterator" else "tuple_iterator"), data := .fields #[.ref a, .int 0 0] }
theorem begins_k (k : Bool) (a : Addr) (its : Array Value) : Begins (.ref a) (objK k a) fun h => ObK k h a its := by
  cases k with
  | true => exact begins_list a its
  | false => exact begins_tuple a its
theorem ItK.start {k : Bool} {h : Heap} {it a : Addr} (e : h.get? it = some (objK k a)) : ItK k h it a 0 := by
  cases k with
  | true => exact ⟨_, e, rfl, rfl⟩
  | false => exact ⟨_, e, rfl, rfl⟩
theorem draws_k {P : Program} {w : World} {A : Around} (hh : A.handled = none) (k : Bool) {it a : Addr} (hne : a ≠ it) (its : Array Value) :
    Draws P w A it [it, a] its.size (fun i v => its[i]? = some v) (fun i h => ItK k h it a i ∧ ObK k h a its) := by
  cases k with
  | true => exact Draws.list hh it a hne its
  | false => exact Draws.tuple hh it a hne its
/-- a walk over an iterator that gives new tuples -/
theorem turn_ofT {P : Program} {w : World} {K : PySem.W.Frag} {elts : List Expr} {kk : Nat} {tpos : Pos} {J : It} {cells wr : List Addr} {z : Addr} {tn : Nat → Heap → Prop} (hz : z ∈ cells) (hw : ∀ b ∈ wr, b ∈ cells)
    (obj : ∀ i h, tn i h → ∀ b ∈ cells, ∃ o, h.get? b = some o ∧ ∀ v, o.data ≠ .cell v)
    (keep : ∀ i h h', tn i h → (∀ b ∈ cells, ∀ o, h.get? b = some o → h'.get? b = some o) → tn i h')
    (self : ∀ (A : Around) (i : Nat) (s : Shared) (Q : Value → Shared → Prop) (E : Value → Shared → Prop), tn i s.heap → Q (.ref z) s → wpAny (model P w) A (pyIter (.ref z)) Q E s)
    (fam : ∀ (X : Cx), X.prog = P → X.w = w → X.K = K → X.calm = true → ∀ (i : Nat) (pins : List (Addr × Obj)) (s : Shared) (σ : L2.St) (H : Hp), Inv X pins σ H s → tn i s.heap → (J.go i H ∨ J.stop i H) →
      ∃ n fp Pt Sa Mid, WalksT P w X.A z fp wr n Pt Sa Mid ∧ Sa i s.heap ∧ (∀ h, Sa (i + 1) h → tn (i + 1) h) ∧ (J.stop i H → i = n) ∧
        (J.go i H → i < n ∧ ∀ vals, Pt i vals → ∃ xs, Vals xs vals.toList ∧ xs.length ≤ sizeLine ∧ ∀ T, H T = none → J.yld i H (.ref T) (upd H T (.tup xs)))) :
    Turn P w K (.Tuple elts kk tpos) J cells z tn where
  mem := hz
  obj := obj
  keep := keep
  self := self
  item := by
    intro X hP hW hK hc i pins s σ H E I hf st hg
    obtain ⟨n, fp, Pt, Sa, Mid, W, sa, nxt, _, hgo⟩ := fam X hP hW hK hc i pins s σ H I st (.inl hg)
    obtain ⟨hi, give⟩ := hgo hg
    subst hP hW hK
    refine W.item i s _ E hi sa fun T vals h' tk hPt hle hT hMid hk => ⟨.ref T, rfl, ?_⟩
    refine W.go elts kk tpos i T { s with heap := h', toks := tk } _ E hMid fun h'' sa' hk' => ?_
    obtain ⟨xs, rv, hl, yl⟩ := give vals hPt
    have nT : T ∉ wr := W.apart i T h' hMid
    have hT2 : h''.IsTuple T vals := by
      obtain ⟨o, e, r⟩ := hT
      exact ⟨o, hk' T o nT e, r⟩
    have fT : H T = none := I.hok.fresh hle
    have hfw : ∀ b ∈ wr, FpOk X pins H b := fun b hb => hf b (hw b hb)
    have I1 : Inv X pins σ (upd H T (.tup xs)) { s with heap := h'', toks := tk } :=
      I.turnedNew (ch := wr) (fun b o hb q => hk' b o hb (hk b o hb q)) hfw hle ⟨hl, vals.toList, rv, hT2⟩
    refine ⟨.ref T, upd H T (.tup xs), I1, rfl, yl T fT, nxt _ sa', fun b hb => ?_⟩
    obtain ⟨o, e, _⟩ := obj i s.heap st b hb
    rw [upd_ne (Nat.ne_of_lt (Nat.lt_of_lt_of_le (Heap.lt_size e) hle))]
    exact (hf b hb).1
  done := by
    intro X hP hW hK hc i pins s σ H E I hf st hg
    obtain ⟨n, fp, Pt, Sa, Mid, W, sa, _, hst, _⟩ := fam X hP hW hK hc i pins s σ H I st (.inr hg)
    have e := hst hg
    subst hP hW hK e
    exact W.done s _ E sa fun h' tk hk => ⟨rfl, I.turnedL (ch := wr) hk fun b hb => hf b (hw b hb)⟩
/-! ### enumerate -/
def ItE (k : Bool) (K : PySem.W.Frag) (a : Addr) : It :=
  ⟨fun i H => ∃ (xs : List V) (x : V), SeqK k K H a xs ∧ xs[i]? = some x,
    fun i H v H' => ∃ T x, v = .ref T ∧ H T = none ∧ H' = upd H T (.tup [.int (i : Nat), x]) ∧ ∀ xs, SeqK k K H a xs → xs[i]? = some x,
    fun i H => ∃ xs : List V, SeqK k K H a xs ∧ i = xs.length⟩
theorem turn_enumA {P : Program} {w : World} {K : PySem.W.Frag} {elts : List Expr} {kk : Nat} {tpos : Pos} {k : Bool} {a e it : Addr} (h1 : e ≠ it) (h2 : a ≠ it) (h3 : e ≠ a) :
    Turn P w K (.Tuple elts kk tpos) (ItE k K a) [e, it] e (fun i h => (∃ old, IsEnum h e it ((i : Nat) : Int) old) ∧ ItK k h it a i) := by
  refine turn_ofT (wr := [e, it]) (by simp) (fun b hb => hb) (fun i h st b hb => ?_) (fun i h h' st kp => ?_) (fun A i s Q E st h => ?_) (fun X hP hW hK hc i pins s σ H I st hg => ?_)
  · obtain ⟨⟨old, he⟩, hi⟩ := st
    have e' : b = e ∨ b = it := by simpa using hb
    rcases e' with z | z
    · rw [z]
      exact ⟨_, he, fun v q => nomatch q⟩
    · rw [z]
      exact hi.live
  · obtain ⟨⟨old, he⟩, hi⟩ := st
    exact ⟨⟨old, kp e (by simp) _ he⟩, hi.keep fun o q => kp it (by simp) o q⟩
  · obtain ⟨⟨old, he⟩, _⟩ := st
    exact wpAny_pyIter_enum he h
  · subst hP hW hK
    obtain ⟨he, hi⟩ := st
    have hq : ∃ xs, SeqK k X.K H a xs := by
      rcases hg with ⟨xs, _, q, _⟩ | ⟨xs, q, _⟩
      · exact ⟨xs, q⟩
      · exact ⟨xs, q⟩
    obtain ⟨xs, hq⟩ := hq
    obtain ⟨its, rv, ob, hl⟩ := inv_k I hq
    have hh : X.A.in1.handled = none := I.ok.hd hc
    have hln := rv.length
    refine ⟨_, _, _, _, _, WalksT.enumerateD (draws_k hh k h2 its.toArray) e h1 (by simp [h1, h3]) (by simp), ⟨he, hi, ob⟩, fun h st => ⟨st.1, st.2.1⟩, fun hs => ?_, fun hgo => ⟨?_, fun vals hv => ?_⟩⟩
    · obtain ⟨ys, hy, ei⟩ := hs
      rw [inv_k_inj I hy hq] at ei
      rw [ei]
      simpa using hln
    · obtain ⟨ys, x, hy, hx⟩ := hgo
      rw [inv_k_inj I hy hq] at hx
      have := (List.getElem?_eq_some_iff.mp hx).1
      simp only [List.size_toArray]
      omega
    · obtain ⟨tk, u, hu, rfl⟩ := hv
      obtain ⟨ys, x, hy, hx⟩ := hgo
      rw [inv_k_inj I hy hq] at hx
      obtain ⟨u', hu', ru⟩ := rv.get hx
      have e2 : u' = u := Option.some.inj (hu'.symm.trans (by simpa using hu))
      rw [e2] at ru
      exact ⟨[.int (i : Nat), x], .cons ⟨tk, rfl⟩ (.cons ru .nil), by show 2 ≤ sizeLine; decide, fun T hT => ⟨T, x, rfl, hT, rfl, fun zs hz => by rw [inv_k_inj I hz hq]; exact hx⟩⟩
/-- enumerate(v) begins, v told by how its iterator begins -/
theorem meets_enum1 {v : Value} {o : Obj} {H : Heap → Prop} (B : Begins v o H) :
    Meets (Builtin.«enumerate.__new__» ⟨[.type "enumerate", v], []⟩) (fun _ R s => H s.heap ∧
      R (.ok (.ret (.ref (s.heap.push o).objs.size))) { s with heap := (s.heap.push o).push { cls := .type "enumerate", data := .fields #[.none, .bool false, .ref s.heap.objs.size, rawInt 0, .none, .none] } }) := by
  refine .of_wp fun P w A R s h => ?_
  obtain ⟨h1, h2⟩ := h
  obtain ⟨hp, ge, dr, to, os⟩ := s
  have fsub := sub_enumerate
  have it1 : ∀ {A' : Around} {E : Value → Shared → Prop} {Q : Value → Shared → Prop}, Q (.ref hp.objs.size) ⟨hp.push o, ge, dr, to, os⟩ → wpAny (model P w) A' (pyIter v) Q E ⟨hp, ge, dr, to, os⟩ := fun q => B.iter P w _ _ ⟨hp, ge, dr, to, os⟩ _ h1 q
  wp_walk using it1
  refine wpAny_stack_any fun st => wpAny_pure ?_
  split
  · rename_i c _ _ _ _ _
    cases (c == Value.type "enumerate") <;> (wp_walk using it1; exact ⟨_, rfl, h2⟩)
  · wp_walk using it1
    exact ⟨_, rfl, h2⟩
theorem call_enum1 {P : Program} {w : World} {A : Around} {E : Value → Shared → Prop} {s : Shared} {v : Value} {o : Obj} {H : Heap → Prop} {Q : Value → Shared → Prop} (B : Begins v o H) (h1 : H s.heap)
    (h : ∀ h', IsEnum h' (s.heap.objs.size + 1) s.heap.objs.size 0 .none → h'.get? s.heap.objs.size = some o → (∀ b x, s.heap.get? b = some x → h'.get? b = some x) → Q (.ref (s.heap.objs.size + 1)) { s with heap := h' }) :
    wpAny (model P w) A (call (.type "enumerate") [v]) Q E s := by
  refine callType_new F.called_enumerate (by decide) (F.typeCall_enumerate_1 _) (F.newCall_enumerate_1 _) (fun ob => F.args_object_init_2 ob _) F.entry_enumerate_new (meets_enum1 B) ⟨h1, ?_⟩
  have hz : (s.heap.push o).objs.size = s.heap.objs.size + 1 := Heap.size_push ..
  show _ ∧ _
  rw [hz]
  have he : IsEnum ((s.heap.push o).push { cls := .type "enumerate", data := .fields #[.none, .bool false, .ref s.heap.objs.size, rawInt 0, .none, .none] }) (s.heap.objs.size + 1) s.heap.objs.size 0 .none := by
    have q := Heap.get?_push_size (s.heap.push o) (o := { cls := .type "enumerate", data := .fields #[.none, .bool false, .ref s.heap.objs.size, rawInt 0, .none, .none] }) rfl
    rw [hz] at q
    exact q
  exact ⟨⟨_, he, rfl⟩, h _ he (Heap.get?_push_of_some _ (Heap.get?_push_size _ B.free)) fun b x e => Heap.get?_push_of_some _ (Heap.get?_push_of_some _ e)⟩
def iEnA (K : PySem.W.Frag) (ta : TA) : TI := fun σ H R => ta σ H fun vs H1 => ∃ a xs k, vs = [.ref a] ∧ SeqK k K H1 a xs ∧ R (ItE k K a) H1
theorem pi_enumA {X : Cx} {e : Expr} {ta : TA} {p pos tpos : Pos} {elts : List Expr} {kk : Nat} (hg : Gl X "enumerate") (hm : X.mg "enumerate" = none) (ha : PA X [e] ta) (hs : starEach [e] X.env = [(false, eval e X.env)] := by rfl) :
    PI X (.Tuple elts kk tpos) (.Call (.Name "enumerate" p) [e] [] pos) (iEnA X.K ta) := by
  refine ⟨fun pins s σ H R I h => Call_ (ld_blt I hg hm bt_enumerate (PyProof.Rows.callWith_type1 (thn (ha.run pos pins s σ H _ I h) fun us s1 ⟨vs, H1, I1, r1, q1⟩ => ?_) hs rfl))⟩
  obtain ⟨a, xs, k, rfl, hq, q⟩ := q1
  obtain ⟨u, rfl, ru⟩ := vals1 r1
  cases ru
  obtain ⟨its, rv, ob, _⟩ := inv_k I1 hq
  have alt := ob.lt
  refine call_enum1 (begins_k k a its.toArray) ob fun h' he hi hk => wpAny_pyIter_enum he ?_
  have ne1 : s1.heap.objs.size + 1 ≠ a := Nat.ne_of_gt (Nat.lt_succ_of_lt alt)
  refine ⟨s1.heap.objs.size + 1, [s1.heap.objs.size + 1, s1.heap.objs.size], _, _, H1, rfl, I1.kept (t' := s1.toks) hk, turn_enumA (Nat.succ_ne_self _) (Nat.ne_of_lt alt) ne1, ⟨⟨.none, he⟩, ItK.start hi⟩, fun b hb => ?_, q⟩
  have hle : s1.heap.objs.size ≤ b := by
    have e' : b = s1.heap.objs.size + 1 ∨ b = s1.heap.objs.size := by simpa using hb
    rcases e' with z | z
    · rw [z]
      exact Nat.le_succ _
    · rw [z]
      exact Nat.le_refl _
  exact I1.fpOk hle (I1.hok.fresh hle)
/-! ### zip of two, of three -/
def ItZ2 (k k2 : Bool) (K : PySem.W.Frag) (a b : Addr) : It :=
  ⟨fun i H => ∃ (xs ys : List V) (x y : V), SeqK k K H a xs ∧ SeqK k2 K H b ys ∧ xs[i]? = some x ∧ ys[i]? = some y,
    fun i H v H' => ∃ T x y, v = .ref T ∧ H T = none ∧ H' = upd H T (.tup [x, y]) ∧ (∀ xs, SeqK k K H a xs → xs[i]? = some x) ∧ ∀ ys, SeqK k2 K H b ys → ys[i]? = some y,
    fun i H => ∃ xs ys : List V, SeqK k K H a xs ∧ SeqK k2 K H b ys ∧ i = min xs.length ys.length⟩
theorem turn_zip2A {P : Program} {w : World} {K : PySem.W.Frag} {elts : List Expr} {kk : Nat} {tpos : Pos} {k k2 : Bool} {a b z TI TO i1 i2 : Addr} (D : ZipSep2 z TI TO i1 i2 [i1, a] [i2, b]) :
    Turn P w K (.Tuple elts kk tpos) (ItZ2 k k2 K a b) [z, TI, TO, i1, i2] z (fun i h => IsZip h z TI TO .none ∧ IsTupOf2 h TI (.ref i1) (.ref i2) ∧ (∃ a1 a2, IsTupOf2 h TO a1 a2) ∧ ItK k h i1 a i ∧ ItK k2 h i2 b i) := by
  refine turn_ofT (wr := [z, TO, i1, i2]) (by simp) (fun c hc => ?_) (fun i h st c hc => ?_) (fun i h h' st kp => ?_) (fun A i s Q E st h => wpAny_pyIter_zip st.1 h) (fun X hP hW hK hc i pins s σ H I st hg => ?_)
  · have e' : c = z ∨ c = TO ∨ c = i1 ∨ c = i2 := by simpa using hc
    rcases e' with q | q | q | q <;> simp [q]
  · obtain ⟨hz, hT, ⟨a1, a2, hO⟩, h1, h2⟩ := st
    have e' : c = z ∨ c = TI ∨ c = TO ∨ c = i1 ∨ c = i2 := by simpa using hc
    rcases e' with q | q | q | q | q
    · rw [q]
      exact ⟨_, hz, fun v q => nomatch q⟩
    · rw [q]
      exact ⟨_, hT, fun v q => nomatch q⟩
    · rw [q]
      exact ⟨_, hO, fun v q => nomatch q⟩
    · rw [q]
      exact h1.live
    · rw [q]
      exact h2.live
  · obtain ⟨hz, hT, ⟨a1, a2, hO⟩, h1, h2⟩ := st
    exact ⟨kp z (by simp) _ hz, kp TI (by simp) _ hT, ⟨a1, a2, kp TO (by simp) _ hO⟩, h1.keep fun o q => kp i1 (by simp) o q, h2.keep fun o q => kp i2 (by simp) o q⟩
  · subst hP hW hK
    obtain ⟨hz, hT, hO, h1, h2⟩ := st
    have hq : ∃ xs ys, SeqK k X.K H a xs ∧ SeqK k2 X.K H b ys := by
      rcases hg with ⟨xs, ys, _, _, q, q2, _⟩ | ⟨xs, ys, q, q2, _⟩ <;> exact ⟨xs, ys, q, q2⟩
    obtain ⟨xs, ys, hx, hy⟩ := hq
    obtain ⟨its, rv, ob, _⟩ := inv_k I hx
    obtain ⟨its2, rv2, ob2, _⟩ := inv_k I hy
    have hh : X.A.in1.handled = none := I.ok.hd hc
    have l1 := rv.length
    have l2 := rv2.length
    have ne1 : a ≠ i1 := fun e => by
      have p := D.sep1_2
      have m := D.mem1
      obtain ⟨o, e1, _⟩ := h1.live
      cases k with
      | true =>
        obtain ⟨o1, q1, c1, _⟩ := ob
        obtain ⟨o2, q2, c2, _⟩ := h1
        rw [e, q2] at q1
        cases q1
        rw [c1] at c2
        exact absurd c2 (by decide)
      | false =>
        obtain ⟨o1, q1, c1, _⟩ := ob
        obtain ⟨o2, q2, c2, _⟩ := h1
        rw [e, q2] at q1
        cases q1
        rw [c1] at c2
        exact absurd c2 (by decide)
    have ne2 : b ≠ i2 := fun e => by
      cases k2 with
      | true =>
        obtain ⟨o1, q1, c1, _⟩ := ob2
        obtain ⟨o2, q2, c2, _⟩ := h2
        rw [e, q2] at q1
        cases q1
        rw [c1] at c2
        exact absurd c2 (by decide)
      | false =>
        obtain ⟨o1, q1, c1, _⟩ := ob2
        obtain ⟨o2, q2, c2, _⟩ := h2
        rw [e, q2] at q1
        cases q1
        rw [c1] at c2
        exact absurd c2 (by decide)
    refine ⟨_, _, _, _, _, WalksT.zipD2 D (draws_k hh k ne1 its.toArray) (draws_k hh k2 ne2 its2.toArray), ⟨hz, hT, hO, ⟨h1, ob⟩, ⟨h2, ob2⟩⟩, fun h st => ⟨st.1, st.2.1, st.2.2.1, st.2.2.2.1.1, st.2.2.2.2.1⟩, fun hs => ?_, fun hgo => ⟨?_, fun vals hv => ?_⟩⟩
    · obtain ⟨xs', ys', q, q2, e⟩ := hs
      rw [inv_k_inj I q hx, inv_k_inj I q2 hy] at e
      simp only [List.size_toArray]
      rw [e, l1, l2]
    · obtain ⟨xs', ys', x, y, q, q2, e, e2⟩ := hgo
      rw [inv_k_inj I q hx] at e
      rw [inv_k_inj I q2 hy] at e2
      have := (List.getElem?_eq_some_iff.mp e).1
      have := (List.getElem?_eq_some_iff.mp e2).1
      simp only [List.size_toArray]
      omega
    · obtain ⟨u, u2, hu, hu2, rfl⟩ := hv
      obtain ⟨xs', ys', x, y, q, q2, e, e2⟩ := hgo
      rw [inv_k_inj I q hx] at e
      rw [inv_k_inj I q2 hy] at e2
      obtain ⟨u', w1, ru⟩ := rv.get e
      obtain ⟨u2', w2, ru2⟩ := rv2.get e2
      have z1 : u' = u := Option.some.inj (w1.symm.trans (by simpa using hu))
      have z2 : u2' = u2 := Option.some.inj (w2.symm.trans (by simpa using hu2))
      rw [z1] at ru
      rw [z2] at ru2
      exact ⟨[x, y], .cons ru (.cons ru2 .nil), by show 2 ≤ sizeLine; decide, fun T hT => ⟨T, x, y, rfl, hT, rfl, fun zs hz => by rw [inv_k_inj I hz hx]; exact e, fun zs hz => by rw [inv_k_inj I hz hy]; exact e2⟩⟩
def iZ2 (K : PySem.W.Frag) (ta : TA) : TI := fun σ H R => ta σ H fun vs H1 => ∃ a b xs ys k k2, vs = [.ref a, .ref b] ∧ SeqK k K H1 a xs ∧ SeqK k2 K H1 b ys ∧ R (ItZ2 k k2 K a b) H1
theorem pi_zip2A {X : Cx} {e e2 : Expr} {ta : TA} {p pos tpos : Pos} {elts : List Expr} {kk : Nat} (hg : Gl X "zip") (hm : X.mg "zip" = none) (ha : PA X [e, e2] ta)
    (hs : starEach [e, e2] X.env = (false, eval e X.env) :: starEach [e2] X.env := by rfl) (hpl : (backTo pos (starEach [e2] X.env)).any (·.1) = false := by rfl) :
    PI X (.Tuple elts kk tpos) (.Call (.Name "zip" p) [e, e2] [] pos) (iZ2 X.K ta) := by
  refine ⟨fun pins s σ H R I h => Call_ (ld_blt I hg hm bt_zip (PyProof.Rows.callWith_type1 (thn (ha.run pos pins s σ H _ I h) fun us s1 ⟨vs, H1, I1, r1, q1⟩ => ?_) hs hpl))⟩
  obtain ⟨a, b, xs, ys, k, k2, rfl, hq, hq2, q⟩ := q1
  obtain ⟨u, u2, rfl, ru, ru2⟩ := vals2 r1
  cases ru
  cases ru2
  obtain ⟨its, rv, ob, _⟩ := inv_k I1 hq
  obtain ⟨its2, rv2, ob2, _⟩ := inv_k I1 hq2
  have D := zip_sep2 (N := s1.heap.objs.size) (fp1 := [a]) (fp2 := [b]) (by simpa using ob.lt) (by simpa using ob2.lt)
  refine zip_begins2 (begins_k k a its.toArray) (begins_k k2 b its2.toArray) ob ob2 fun h' hz hT hO g1 g2 _ hk => wpAny_pyIter_zip hz ?_
  refine ⟨s1.heap.objs.size + 4, [s1.heap.objs.size + 4, s1.heap.objs.size + 2, s1.heap.objs.size + 3, s1.heap.objs.size, s1.heap.objs.size + 1], _, _, H1, rfl, I1.kept (t' := s1.toks) hk, turn_zip2A D, ⟨hz, hT, ⟨_, _, hO⟩, ItK.start g1, ItK.start g2⟩, fun c hc => ?_, q⟩
  have hle : s1.heap.objs.size ≤ c := by
    have e' : c = s1.heap.objs.size + 4 ∨ c = s1.heap.objs.size + 2 ∨ c = s1.heap.objs.size + 3 ∨ c = s1.heap.objs.size ∨ c = s1.heap.objs.size + 1 := by simpa using hc
    rcases e' with z | z | z | z | z <;> rw [z] <;> first | exact Nat.le_add_right _ _ | exact Nat.le_refl _
  exact I1.fpOk hle (I1.hok.fresh hle)
end WV
end
section
set_option maxRecDepth 100000
set_option maxHeartbeats 4000000
namespace WV
open PySem PySem.Spec PyProof.Rows L2
/-! ### what tuples want besides -/
section
variable {P : Program} {w : World} {A : Around} {E : Value → Shared → Prop} {s : Shared}
theorem adj_back (n : Nat) : Builtin.Slice.sliceAdjust none none (-1) (n : Int) = ((n : Int) - 1, -1) := by
  unfold Builtin.Slice.sliceAdjust
  rfl
theorem places_back (n : Nat) : Builtin.Slice.slicePlaces ((n : Int) - 1) (-1) (-1) = n := by
  unfold Builtin.Slice.slicePlaces
  have h1 : ¬ ((-1 : Int) > 0) := by decide
  simp only [h1, if_false]
  split
  · have e : (n : Int) - 1 - -1 - -1 - 1 = (n : Int) := by omega
    first
      | (rw [show (- -1 : Int) = 1 by decide, Int.ediv_one]; omega)
      | omega
  · omega
theorem applied_back {sl : Addr} {vs : Value} {n : Nat} {Q : Int × Int × Nat → Shared → Prop} (hs : s.heap.IsSliceOf sl .none .none vs) (ps : IsPart vs (some (-1))) (h : Q ((n : Int) - 1, -1, n) s) :
    wpAny (model P w) A (Builtin.Slice.sliceApplied (.ref sl) (pure (n : Int))) Q E s := by
  obtain ⟨os, hos, hcs, hds⟩ := id hs
  unfold Builtin.Slice.sliceApplied Builtin.Slice.sliceFields
  refine wpAny_bind (wpAny_bind (wpAny_field hos hds (x := .none) rfl (wpAny_bind (wpAny_field hos hds (x := .none) rfl (wpAny_bind (wpAny_field hos hds (x := vs) rfl (wpAny_pure ?_)))))))
  refine wpAny_bind (HT.slicePart_ ps ?_)
  show wpAny _ _ (if ((-1 : Int) == 0) = true then _ else _) _ _ s
  rw [if_neg (by decide)]
  refine wpAny_bind (HT.slicePart_ .none (wpAny_bind (HT.slicePart_ .none (wpAny_bind (wpAny_pure ?_)))))
  show wpAny _ _ (match Builtin.Slice.sliceAdjust none none (-1) (n : Int) with | (lo, hi) => pure (lo, (-1 : Int), Builtin.Slice.slicePlaces lo hi (-1))) _ _ s
  rw [adj_back]
  show wpAny _ _ (pure ((n : Int) - 1, (-1 : Int), Builtin.Slice.slicePlaces ((n : Int) - 1) (-1) (-1))) _ _ s
  rw [places_back]
  exact wpAny_pure h
theorem pick_back (xs : Array Value) : ((List.range xs.size).filterMap fun (k : Nat) => xs[((xs.size : Int) - 1 + (k : Int) * -1).toNat]?).toArray = xs.toList.reverse.toArray := by
  have e : (List.range xs.size).filterMap (fun (k : Nat) => xs[((xs.size : Int) - 1 + (k : Int) * -1).toNat]?) = ((List.range xs.size).map fun k => xs.size - 1 - k).filterMap (xs[·]?) := by
    rw [List.filterMap_map]
    have all : ∀ l : List Nat, (∀ k ∈ l, k < xs.size) → l.filterMap (fun (k : Nat) => xs[((xs.size : Int) - 1 + (k : Int) * -1).toNat]?) = l.filterMap ((fun x => xs[x]?) ∘ fun k => xs.size - 1 - k) := by
      intro l
      induction l with
      | nil => intro _; rfl
      | cons k r ih =>
        intro hl
        have hk := hl k List.mem_cons_self
        have e2 : ((xs.size : Int) - 1 + (k : Int) * -1).toNat = xs.size - 1 - k := by omega
        rw [List.filterMap_cons, List.filterMap_cons, ih fun j hj => hl j (List.mem_cons_of_mem _ hj)]
        rw [e2]
        rfl
    exact all _ fun k hk => List.mem_range.mp hk
  rw [e, PySem.W.krv_range, List.filterMap_reverse, PySem.W.krv_all]
theorem getItem_tuple_back {t sl : Addr} {items : Array Value} {vs : Value} {Q : Value → Shared → Prop} (ht : IsTup s.heap t items) (hs : s.heap.IsSliceOf sl .none .none vs) (ps : IsPart vs (some (-1))) (hz : items.size ≤ sizeLine)
    (h : Q (.ref s.heap.objs.size) { s with heap := s.heap.push { cls := .type "tuple", data := .seq items.toList.reverse.toArray } }) : wpAny (model P w) A (getItem (.ref t) (.ref sl)) Q E s := by
  have fit : sizeOk (.seq items.toList.reverse.toArray) := by
    show items.toList.reverse.toArray.size ≤ sizeLine
    rw [List.size_toArray, List.length_reverse, Array.length_toList]
    exact hz
  obtain ⟨os, hos, hcs, hds⟩ := id hs
  have tys : s.TypeIs (.ref sl) "slice" := ⟨os, hos, hcs⟩
  unfold getItem
  try with_reducible refine wpAny_holding ?_
  first | refine wpAny_bind (wpAny_pure ?_) | skip
  refine wpAny_bind (wpAny_sequenceKey ht.typeIs (by decide) ?_)
  refine wpAny_bind (wpAny_callSpecial?_slot (name := Str.ofString "__getitem__") ht.typeIs slot_tuple_getitem (wpAny_call_entry slot_tuple_getitem ht.typeIs entry_tuple_getitem ?_ (args_tuple_getitem _ _)))
  show wpAny _ _ (Builtin.Tuple.tupleItemsOf (.ref t) >>= _) _ _ s
  refine wpAny_bind (tupleItemsOf_ ht (wpAny_bind (wpAny_typeOf tys ?_)))
  rw [if_pos (by decide)]
  refine wpAny_bind (applied_back hs ps ?_)
  have no : ¬ (((items.size : Int) - 1 == 0 && (-1 : Int) == 1 && items.size == items.size) = true) := by
    rw [show ((-1 : Int) == 1) = false by decide]
    simp
  show wpAny _ _ (if ((items.size : Int) - 1 == 0 && (-1 : Int) == 1 && items.size == items.size) = true then _ else _) _ _ s
  rw [if_neg no, pick_back items]
  first
    | exact wpAny_bind (m := Builtin.Tuple.tupleExact _) (wpAny_newObj_type (wpAny_pure ⟨_, rfl, wpAny_pure h⟩) fit)
    | exact wpAny_bind (wpAny_bind (m := Builtin.Tuple.tupleExact _) (wpAny_newObj_type (wpAny_pure (wpAny_pure ⟨_, rfl, wpAny_pure h⟩)) fit))
    | exact wpAny_bind (m := Builtin.Tuple.tupleExact _) (wpAny_newObj_type (wpAny_bind (wpAny_pure (wpAny_pure ⟨_, rfl, wpAny_pure h⟩))) fit)
end
def tRevT (K : PySem.W.Frag) (te : TE) : TE := fun σ H Q => te σ H fun x H1 => ∃ a xs, x = .ref a ∧ SqT K H1 a xs ∧ ∀ p, H1 p = none → Q (.ref p) (upd H1 p (.tup xs.reverse))
theorem pe_revT {X : Cx} {e : Expr} {te : TE} {k : Nat} {p1 p2 p3 pos : Pos} (he : PE X e te) : PE X (.Subscript e (.Slice none none (some (.UnaryOp .USub (.Constant (.int 1) k p1) p2)) p3) pos) (tRevT X.K te) := by
  refine ⟨fun pins s σ H Q I h => Subscript_ (thn (he.run pins s σ H _ I h) fun v s1 ⟨x, H1, I1, r1, q1⟩ => ?_)⟩
  obtain ⟨a, xs, rfl, hx, q⟩ := q1
  cases r1
  have one : PO X (some (.UnaryOp .USub (.Constant (.int 1) k p1) p2)) (tPart (tUn (rU fun i => .int (-i)) (tC (.int 1)))) := po_some (pe_un un_neg pe_int)
  refine wpAny_Slice (thn (po_none.run pins s1 σ H1 (fun o H2 => o = none ∧ H2 = H1) I1 ⟨rfl, rfl⟩) fun vl s2 ⟨l, H2, I2, pl, el, e2⟩ => ?_)
  subst el e2
  refine thn (po_none.run pins s2 σ H2 (fun o H3 => o = none ∧ H3 = H2) I2 ⟨rfl, rfl⟩) fun vu s3 ⟨u, H3, I3, pu, eu, e3⟩ => ?_
  subst eu e3
  refine thn (one.run pins s3 σ H3 (fun o H4 => o = some (-1) ∧ H4 = H3) I3 ⟨1, rfl, -1, rfl, rfl, rfl⟩) fun vs s4 ⟨o, H4, I4, ps, eo, e4⟩ => ?_
  subst eo e4
  cases pl
  cases pu
  have I5 : Inv X pins σ H4 { s4 with heap := s4.heap.push { cls := .type "slice", data := .fields #[.none, .none, vs] } } := I4.kept (t' := s4.toks) fun b ob q => Heap.get?_push_of_some _ q
  obtain ⟨its, r, ht, hz⟩ := I5.tuple hx
  have hlen := r.length
  show wpAny (model X.prog X.w) X.A (subscriptTail e (.Slice none none (some (.UnaryOp .USub (.Constant (.int 1) k p1) p2)) p3) (.ref a) (.ref s4.heap.objs.size)) (EP X pins σ Q) X.xe { s4 with heap := s4.heap.push { cls := .type "slice", data := .fields #[.none, .none, vs] } }
  refine tail_any (ops := [.ref a, .ref s4.heap.objs.size]) ht.typeIs (PyProof.Rows.slot_tuple_getitem.lookup) ?_ (by with_unfolding_all rfl)
  refine getItem_tuple_back ht (Heap.IsSliceOf.new _ .none .none vs) ps (by rw [List.size_toArray]; omega) ?_
  have hn := I5.hok.fresh (Nat.le_refl _)
  refine ⟨.ref _, _, I5.laid (t' := s4.toks) (o := .tup xs.reverse) (fun b ob q => Heap.get?_push_of_some _ q) (Nat.le_refl _) ?_, rfl, q _ hn⟩
  exact ⟨by rw [List.length_reverse]; exact hz, its.reverse, r.reverse, ⟨_, Heap.get?_push_size _ rfl, rfl, 0, rfl⟩⟩
/-! ### xs.extend(a list or a tuple) -/
theorem extend_tup (l b : Addr) (xs ys : Array Value) (n n2 : Nat) (od : Option Addr) (osl : Array (Option Value)) (h0 : ¬ (!xs.isEmpty && Builtin.List.listTooLong (xs.size + ys.size)) = true) (h1 : xs.size ≤ sizeLine) (h2 : (xs ++ ys).size ≤ sizeLine + 1) :
    Meets (Builtin.«list.extend» ⟨[.ref l, .ref b], []⟩) (fun _ R s => (s.heap.get? l = some { cls := .type "list", data := .seq xs n } ∧ s.heap.get? b = some { cls := .type "tuple", dict := od, data := .seq ys n2, slots := osl }) ∧
      R (.ok (.ret Value.none)) { s with heap := s.heap.update l (Obj.mapSeq fun x => x ++ ys) }) := by
  refine .of_wp fun P w A R s h => ?_
  obtain ⟨⟨e1, e2⟩, h⟩ := h
  obtain ⟨hp, ge, dr, to, os⟩ := s
  have fa1 := AutoSeq1.sub_tuple_tuple
  have fa2 := AutoSeq1.sub_tuple_list
  have fa3 := AutoSeq1.sub_list_list
  wp_walk using (wpAny_updateSeq e1 rfl (hz := h1) (_hz' := h2)), AutoSeq1.wpAny_loadPart' e1, AutoSeq1.wpAny_loadPart' e2
  exact ⟨_, rfl, h⟩
def rExtA (K : PySem.W.Frag) : V → List V → Hp → VK → Prop := fun x vs H Q => ∃ l b xs zs, x = .ref l ∧ vs = [.ref b] ∧ H l = some (.lst xs) ∧ (H b = some (.lst zs) ∨ SqT K H b zs) ∧ xs.length + zs.length ≤ sizeLine ∧ Q .non (upd H l (.lst (xs ++ zs)))
theorem mt_extendA {X : Cx} : MtM X "list.extend" (rExtA X.K) := by
  intro pins s σ H x vs v us Q I rx rv h
  obtain ⟨l, b, xs, zs, rfl, rfl, hH, hB, hz, q⟩ := h
  rcases hB with hB | hB
  · exact mt_extend pins s σ H _ _ v us Q I rx rv ⟨l, b, xs, zs, rfl, rfl, hH, hB, hz, q⟩
  · cases rx
    obtain ⟨u, rfl, ru⟩ := rv.one
    cases ru
    obtain ⟨z, its, n, r, hl, e⟩ := I.lstM hH
    obtain ⟨its2, r2, ⟨⟨oc, od, dt, osl⟩, e2, c2, n2, d2⟩, hl2⟩ := I.tuple hB
    simp only at c2 d2
    subst c2 d2
    have len2 := r2.length
    have hsz : its.toArray.size + its2.toArray.size ≤ sizeLine := by
      rw [List.size_toArray, List.size_toArray]
      omega
    have notlong : ¬ (!its.toArray.isEmpty && Builtin.List.listTooLong (its.toArray.size + its2.toArray.size)) = true := by
      rw [notLongL hsz, Bool.and_false]
      exact Bool.false_ne_true
    refine call_meets F.slot_list_extend ⟨_, e, rfl⟩ F.entry_list_extend (F.args_list_extend_2 _ _) (extend_tup l b its.toArray its2.toArray n n2 od osl notlong (by rw [List.size_toArray]; omega) (by rw [Array.size_append]; omega)) ⟨⟨e, e2⟩, ?_⟩
    refine ⟨.non, _, I.lset (its' := its ++ its2) hH e (by simp) (r.append r2) ?_, rfl, q⟩
    rw [List.length_append]
    omega
end WV
end
section
set_option maxRecDepth 100000
set_option maxHeartbeats 4000000
namespace WV
open PySem PySem.Spec PyProof.Rows L2
/-! ### sum, min of a tuple of ints; max(.., default=0) -/
section
variable {P : Program} {w : World} {A : Around} {E : Value → Shared → Prop} {s : Shared} {l : Addr} {xs : Array (Int × Tok)}
theorem iter_tupI {Q : Value → Shared → Prop} (hl : s.heap.IsTuple l (intItems xs))
    (h : ∀ s2 : Shared, s2 = { s with heap := s.heap.push { cls := .type "tuple_iterator", data := .fields #[.ref l, .int 0 0] } } →
      (s2.heap.IsTupleIter s.heap.objs.size l 0 ∧ s2.heap.IsTuple l (intItems xs)) → (∀ b ∈ [s.heap.objs.size, l], b < s2.heap.objs.size) → l ≠ s.heap.objs.size → Q (.ref s.heap.objs.size) s2) :
    wpAny (model P w) A (pyIter (.ref l)) Q E s := by
  have hlt : l < s.heap.objs.size := by
    obtain ⟨_, e, _⟩ := hl
    exact Heap.lt_size e
  refine wpAny_pyIter_tuple hl (h _ rfl ⟨⟨_, Heap.get?_push_size _ rfl, rfl, rfl⟩, hl.push _⟩ (fun b hb => ?_) (Nat.ne_of_lt hlt))
  show b < (s.heap.push _).objs.size
  rw [Heap.size_push]
  have e' : b = s.heap.objs.size ∨ b = l := by simpa using hb
  rcases e' with z | z
  · rw [z]
    exact Nat.lt_succ_self _
  · rw [z]
    exact Nat.lt_succ_of_lt hlt
theorem kept_tupI {h' : Heap} (hk : ∀ b o, b ∉ [s.heap.objs.size] → (s.heap.push { cls := .type "tuple_iterator", data := .fields #[.ref l, .int 0 0] }).get? b = some o → h'.get? b = some o) : ∀ b o, s.heap.get? b = some o → h'.get? b = some o := fun b o e => by
  refine hk b o (fun hm => ?_) (Heap.get?_push_of_some _ e)
  have z : b = s.heap.objs.size := by simpa using hm
  rw [z] at e
  exact absurd (Heap.lt_size e) (Nat.lt_irrefl _)
theorem min_tupI {Q : Value → Shared → Prop} (hh : A.handled = none) (hl : s.heap.IsTuple l (intItems xs)) (hne : 0 < xs.size)
    (h : ∀ v h' tk, (intItems xs)[argBest (fun i j => decide (numAt xs i < numAt xs j)) (xs.size - 1)]? = some v → (∀ b o, s.heap.get? b = some o → h'.get? b = some o) → Q v { s with heap := h', toks := tk }) :
    wpAny (model P w) A (call (.builtin "min") [.ref l]) Q E s := by
  refine call_min_walk (iter_tupI hl fun s2 e st hfp hlI => ?_)
  subst e
  refine ⟨_, _, _, _, _, _, _, rfl, Walks.tuple (A := A.in1) hh _ l hlI (intItems xs), st, hfp, by simpa [intItems] using hne, CmpOf.ints_lt (numAt xs) (fun _ _ => intItems_at), fun v h' tk hP hk => ?_⟩
  exact h v h' tk (by simpa [intItems] using hP) (kept_tupI hk)
theorem sum_tupI {Q : Value → Shared → Prop} (hh : A.handled = none) (hl : s.heap.IsTuple l (intItems xs))
    (h : ∀ h' tk t', (∀ b o, s.heap.get? b = some o → h'.get? b = some o) → Q (.int (preSum (numAt xs) xs.size) t') { s with heap := h', toks := tk }) :
    wpAny (model P w) A (call (.builtin "sum") [.ref l]) Q E s := by
  refine call_sum_walkG (iter_tupI hl fun s2 e st hfp hlI => ?_)
  subst e
  refine ⟨_, _, _, _, _, _, numAt xs, rfl, Walks.tuple (A := A.in1) hh _ l hlI (intItems xs), st, hfp, (fun _ _ => intItems_at), fun h' tk t' hk => ?_⟩
  have q := h h' tk t' (kept_tupI hk)
  simpa [intItems] using q
end
section
variable {X : Cx}
def rMinT (K : PySem.W.Frag) : List V → Hp → VK → Prop := fun vs H Q => ∃ (a : Addr) (ns : List Int), vs = [V.ref a] ∧ SqT K H a (ns.map V.int) ∧ 0 < ns.length ∧ ∀ m, m ∈ ns → (∀ y, y ∈ ns → m ≤ y) → Q (.int m) H
theorem cr_minT (hc : X.calm = true) : CallR X (.builtin "min") (rMinT X.K) := by
  intro pins s σ H vs us Q I r h
  obtain ⟨a, ns, rfl, hs, hne, q⟩ := h
  obtain ⟨its, rv, hl, _⟩ := I.tuple hs
  rw [Vals.ref1 r]
  have hi := rv.ints
  obtain ⟨xs, e⟩ := hi.allInts.items
  have hn : numsOf (intItems xs).toList = ns := by
    rw [← e]
    exact hi.numsOf
  rw [nums_intItems] at hn
  subst hn
  rw [e] at hl
  have hsz : 0 < xs.size := by simpa using hne
  refine min_tupI (I.ok.hd hc) hl hsz fun v h' tk hv hk => ?_
  obtain ⟨t, rfl⟩ := intItems_at hv
  obtain ⟨h1, h2⟩ := argBest_lt (numAt xs) (xs.size - 1)
  refine ⟨.int _, H, I.kept hk, ⟨_, rfl⟩, q _ ?_ fun y hy => ?_⟩
  · rw [numAt_eq]
    exact PySem.getD_mem (by rw [List.length_map, Array.length_toList]; omega)
  · obtain ⟨j, hj, rfl⟩ := mem_getD hy
    rw [List.length_map, Array.length_toList] at hj
    rw [← numAt_eq]
    exact h2 j (by omega)
def rSumT (K : PySem.W.Frag) : List V → Hp → VK → Prop := fun vs H Q => ∃ (a : Addr) (ns : List Int), vs = [V.ref a] ∧ SqT K H a (ns.map V.int) ∧ Q (.int ns.sum) H
theorem cr_sumT (hc : X.calm = true) : CallR X (.builtin "sum") (rSumT X.K) := by
  intro pins s σ H vs us Q I r h
  obtain ⟨a, ns, rfl, hs, q⟩ := h
  obtain ⟨its, rv, hl, _⟩ := I.tuple hs
  rw [Vals.ref1 r]
  have hi := rv.ints
  obtain ⟨xs, e⟩ := hi.allInts.items
  have hn : numsOf (intItems xs).toList = ns := by
    rw [← e]
    exact hi.numsOf
  rw [nums_intItems] at hn
  rw [e] at hl
  refine sum_tupI (I.ok.hd hc) hl fun h' tk t' hk => ⟨.int ns.sum, H, I.kept hk, ⟨t', ?_⟩, q⟩
  rw [preSum_eq, List.take_of_length_le (by simp), hn]
/-- xs[i], by values, for xs[i] += e -/
def getL (K : PySem.W.Frag) : V → V → Hp → VK → Prop := fun o i H Q => ∃ a xs j v, o = .ref a ∧ i = .int (j : Nat) ∧ SqL K H a xs ∧ xs[j]? = some v ∧ Q v H
theorem get_list : PGet X (getL X.K) := by
  intro pins s σ H o i ov iv Q I ro ri h
  obtain ⟨a, xs, j, v, rfl, rfl, hs, hv, q⟩ := h
  cases ro
  obtain ⟨t, rfl⟩ := ri
  obtain ⟨its, rv, hl, _⟩ := I.list hs
  obtain ⟨u, hu, ru⟩ := rv.get hv
  have hj := (List.getElem?_eq_some_iff.mp hv).1
  have hz : xs.length ≤ sizeLine := (I.list hs).choose_spec.2.2
  rw [sizeLine_eq] at hz
  exact getItem_listL hl.isList (Int.natCast_nonneg _) (by omega) (by simpa using hu) ⟨v, H, I, ru, q⟩
/-- max(xs, default=d): some int -/
def rMaxD (K : PySem.W.Frag) : List V → List V → Hp → VK → Prop := fun vs zs H Q => ∃ (a : Addr) (ns : List Int) (d : Int), vs = [V.ref a] ∧ zs = [.int d] ∧ SqL K H a (ns.map V.int) ∧ ∀ m : Int, Q (.int m) H
theorem cr_maxD (hc : X.calm = true) : CallRK X (.builtin "max") ["default"] (rMaxD X.K) := by
  intro pins s σ H vs zs us ws Q I r rz h
  obtain ⟨a, ns, d, rfl, rfl, hs, q⟩ := h
  obtain ⟨its, rv, hl, _⟩ := I.list hs
  obtain ⟨w0, rfl, rw0⟩ := vals1 rz
  obtain ⟨td, rfl⟩ := rw0
  rw [Vals.ref1 r]
  obtain ⟨xs, e⟩ := rv.ints.allInts.items
  rw [e] at hl
  refine call_max_walkD (iter_intList hl.isList fun s2 e2 st hfp hlI => ?_)
  subst e2
  have W := (Walks.list (prog := X.prog) (w := X.w) (A := X.A.in1) (I.ok.hd hc) _ a hlI (intItems xs)).toS
  have fin : ∀ (m : Int) (t : Tok) (s' : Shared), Moved [s.heap.objs.size] (fun x y => y = x) { s with heap := s.heap.push { cls := .type "list_iterator", data := .fields #[.ref a, .int 0 0] } } s' → EP X pins σ Q (.int m t) s' := fun m t s' hm => by
    obtain ⟨m1, m2, m3, m4, m5⟩ := hm
    obtain ⟨hp, ge, dr, to, os⟩ := s'
    simp only at m1 m2 m3 m4 m5
    subst m2 m3 m4
    exact ⟨.int m, H, I.kept (old_kept m1), ⟨t, rfl⟩, q m⟩
  refine ⟨_, _, _, _, _, _, _, s.heap, fun i j => decide (numAt xs i > numAt xs j), rfl, W, st, hfp, fun b o eb hb => ?_, fun b o eb => Heap.get?_push_of_some _ eb, fun _ s' hm => fin d td s' hm, fun hn => ⟨fun i j vi vj s3 Q3 E3 _ hi hj hq => ?_, fun v s' hP hm => ?_⟩⟩
  · have z : b = s.heap.objs.size := by simpa using hb
    rw [z] at eb
    exact absurd (Heap.lt_size eb) (Nat.lt_irrefl _)
  · exact CmpOf.ints_gt (numAt xs) (fun _ _ => intItems_at) i j vi vj s3 Q3 E3 hi hj hq
  · obtain ⟨t, rfl⟩ := intItems_at hP
    exact fin _ t s' hm
end
end WV
end
section
set_option maxRecDepth 100000
set_option maxHeartbeats 4000000
namespace WV
open PySem PySem.Spec PyProof.Rows L2
/-! ### d.update(d2), d = {k: v for ..} with d a plain local, t == () -/
def rDUpd : V → List V → Hp → VK → Prop := fun x vs H Q => ∃ d o kvs more, x = .ref d ∧ vs = [.ref o] ∧ d ≠ o ∧ H d = some (.dK kvs) ∧ H o = some (.dK more) ∧ kvs.length + more.length ≤ sizeLine ∧ Q .non (upd H d (.dK (mergeK kvs more)))
theorem mergeK_len : ∀ (more kvs : List (Key × V)), (mergeK kvs more).length ≤ kvs.length + more.length
  | [], kvs => Nat.le_refl _
  | p :: more, kvs => by
    have h := mergeK_len more (putK kvs p.1 p.2)
    have h2 := length_putK kvs p.1 p.2
    show (mergeK (putK kvs p.1 p.2) more).length ≤ kvs.length + (p :: more).length
    rw [List.length_cons]
    omega
theorem mt_dupdate {X : Cx} : MtM X "dict.update" rDUpd := by
  intro pins s σ H x vs v us Q I rx rv h
  obtain ⟨d, o, kvs, more, rfl, rfl, hne, hd, ho, hz, q⟩ := h
  cases rx
  obtain ⟨u, rfl, ru⟩ := rv.one
  cases ru
  obtain ⟨z1, nd, ws, rel, dd⟩ := dk_of I.hok hd
  obtain ⟨z2, no, ws2, rel2, do2⟩ := dk_of I.hok ho
  refine call_meetsIn PySem.F.slot_dict_update dd.typeIs PySem.F.entry_dict_update (PySem.F.args_dict_update_2 _ _) (meets_dict_update (mixKind X.prog X.w) d o hne no) ⟨ws, ws2, dd, do2, by rw [← rel.length, ← rel2.length]; exact hz, fun h' dd' _ hs => ?_⟩
  have he : ∃ q, h'.get? d = some q := let ⟨q, _, _, hq, _⟩ := dd'; ⟨q, hq⟩
  exact ⟨.non, _, d_write I (by rw [hd]; exact True.intro) hs he (dk_new (Nat.le_trans (mergeK_len more kvs) hz) nd (KV.merge rel2 rel) dd'), rfl, q⟩
section
variable {X : Cx}
theorem ps_setDc {i : Nat} {y : Str} {py : Pos} {kx vx tg iter : Expr} {ifs : List Expr} {scope : Scope} {own : List (Str × Nat)} {pos spos : Pos} {wi : TI} {g : TG} {tt : TT} {tk tv : TE} (hc : X.calm = true) (hN : X.N.Nodup) (hy : X.N[i]? = some y) (hyl : X.env.scope.names.lookup y = some .local)
    (hsw : swapsWith (.DictComp kx vx [⟨tg, iter, ifs, 0⟩] scope pos) (some (.Name y py)) spos.line X.env = pure true) (hi : PI X tg iter wi) (ok : BlkOk X.N X.env.scope scope own)
    (hg : ∀ (s : Shared) (H : Hp) (C : Addr) (cl : List (Str × Addr)) (fp : List Addr), PG (X.blk s H scope (compEnvC scope cl C X.env) fp) tg g) (ht : ∀ (s : Shared) (H : Hp) (C : Addr) (cl : List (Str × Addr)) (fp : List Addr), PTs (X.blk s H scope (compEnvC scope cl C X.env) fp) ifs tt)
    (hk : ∀ (s : Shared) (H : Hp) (C : Addr) (cl : List (Str × Addr)) (fp : List Addr), PE (X.blk s H scope (compEnvC scope cl C X.env) fp) kx tk)
    (he : ∀ (s : Shared) (H : Hp) (C : Addr) (cl : List (Str × Addr)) (fp : List Addr), PE (X.blk s H scope (compEnvC scope cl C X.env) fp) vx tv) (hs : ∀ x, foldedSetIterable iter X.env x = pure x := by intro _; rfl) :
    PS X (.Assign [.Name y py] (.DictComp kx vx [⟨tg, iter, ifs, 0⟩] scope pos) spos) (tAsg (tDc wi g tt tk tv (own.map (·.2))) (gName i)) := by
  refine ⟨fun pins s σ H D I h => ?_⟩
  rw [exec_Assign_Name_used _ _ _ _ hsw]
  refine wpAny_bind (wpAny_standAt (wpAny_bind ?_))
  show wpAny _ X.A (do let _ ← comprehension (.DictComp kx vx [⟨tg, iter, ifs, 0⟩] scope pos) scope X.env (firstIterPos [⟨tg, iter, ifs, 0⟩] pos) newDict false (eval iter X.env) (some (assign (.Name y py) X.env))) _ _ s
  have hh : tDc wi g tt tk tv (own.map (·.2)) σ H (fun x H1 => gName i x σ H1 D.nx) := h
  refine wpAny_bind (thn (dc_core (Qf := fun _ s' => SP X pins D .next s') hc hN I hi ok hg ht hk he hs hh fun L C s' m H' I' q hn f => ?_) fun _ s' hq => wpAny_pure (wpAny_pure hq))
  show wpAny _ _ (assign (.Name y py) X.env (.ref L)) _ _ _
  refine wpAny_assign_Name (store_ok2 (v := V.ref L) I' hN hy (.inl hyl) rfl (fun s2 I2 ⟨a, sb, ha⟩ => ?_) (.inr hyl))
  obtain ⟨f0, f1, f2, f3, f4, f5⟩ := f
  have apart : C ≠ a := by
    rcases ha with z | z
    · rw [z]
      exact f1
    · exact fun e => f4 y a z e.symm
  exact ⟨m, hn.sameBut sb apart, fun h3 sb3 => ⟨_, H', I2.turned (t' := s2.toks) (fun b o hb e => (sb3.2 b hb).trans e) f0 f1 f3 f4 f5, q⟩⟩
theorem swd_true {kx vx : Expr} {gs : List Comprehension} {scope : Scope} {pos py : Pos} {y : Str} {l : Nat} {env : Env} (hk : env.scope.kind = .function) (hy : env.scope.names.lookup y = some .local) (hl : (py.line == pos.line) = true)
    (ha : (scope.names.any fun (n, k) => n == y && (k == .local || k == .cell)) = false) : swapsWith (.DictComp kx vx gs scope pos) (some (.Name y py)) l env = pure true := by
  have k1 : env.kindOf y = some .local := hy
  have k2 : env.blockKind = .function := by
    unfold Env.blockKind
    rw [hk]
    rfl
  unfold swapsWith
  simp only [k2, k1, ha, Expr.pos, hl]
  rfl
/-- t == (): a tuple that has items against an empty one -/
def rEqE (K : PySem.W.Frag) : R2 := fun x y H Q => ∃ a b xs, x = .ref a ∧ y = .ref b ∧ SqT K H a xs ∧ SqT K H b [] ∧ Q (.bl xs.isEmpty) H
theorem op_eqE (hu : X.A.units < cLine) : OpR X (compareOp .Eq) (rEqE X.K) := by
  intro pins s σ H x y v u Q I rx ry h
  obtain ⟨a, b, xs, rfl, rfl, ha, hb, q⟩ := h
  cases rx
  cases ry
  obtain ⟨its, rv, p, _⟩ := I.tuple ha
  obtain ⟨its2, rv2, p2, _⟩ := I.tuple hb
  cases rv2
  have p' : s.heap.IsTuple a its.toArray := p
  have p2' : s.heap.IsTuple b ([] : List Value).toArray := p2
  refine SeqAt.RcAt.tuples (e := fun _ => true) p' p2' hu (fun j h1 h2 => absurd h2 (by simp)) X.prog X.w X.xe _ ?_
  have e : ((List.range (min its.toArray.size ([] : List Value).toArray.size)).all (fun _ => true) && its.toArray.size == ([] : List Value).toArray.size) = xs.isEmpty := by
    have hl := rv.length
    cases xs with
    | nil =>
      have : its = [] := List.length_eq_zero_iff.mp hl.symm
      subst this
      rfl
    | cons z zs =>
      have : its.toArray.size ≠ 0 := by
        rw [List.size_toArray]
        simp at hl
        omega
      simp [this]
      intro z0
      rw [z0] at hl
      simp at hl
  rw [e]
  exact ⟨.bl xs.isEmpty, H, I, rfl, q⟩
end
/-! ### dict comprehensions over anything that is walked -/
theorem dc_it {J : It} {n : Nat} {G : Hp → Prop} {Y : Nat → Hp → V → Hp → Prop} (w : Walk J n G Y) {g : TG} {tt : TT} {tk tv : TE} {vs : List Nat} {σ : L2.St} {H1 : Hp} {D : Addr} {Qd : Hp → Prop} (Pv : Nat → Hp → Prop) (h0 : Pv 0 (upd H1 D (.dK []))) (hG : ∀ i H, i ≤ n → Pv i H → G H)
    (hs : ∀ i x H H', i < n → Pv i H → Y i H x H' → g x (wipe σ vs) H' fun σ2 H2 => wipe σ2 vs = wipe σ vs ∧ tt σ2 H2 fun b H3 =>
      if b = true then tk σ2 H3 fun y H4 => tv σ2 H4 fun z H5 => ∃ kvs k, y = kV k ∧ H5 D = some (.dK kvs) ∧ kvs.length < sizeLine ∧ Pv (i + 1) (upd H5 D (.dK (putK kvs k z))) else Pv (i + 1) H3) (hd : ∀ H, Pv n H → Qd H) :
    ∃ W : Nat → Nat → Hp → Prop, (∃ m, W 0 m (upd H1 D (.dK []))) ∧ ∀ i m H, W i m H →
      (J.stop i H ∧ Qd H) ∨ (J.go i H ∧ ∃ Nx : Hp → Prop, (∀ H', Nx H' → ∃ m', m' < m ∧ W (i + 1) m' H') ∧ ∀ x H', J.yld i H x H' → g x (wipe σ vs) H' fun σ2 H2 => wipe σ2 vs = wipe σ vs ∧ tt σ2 H2 fun b H3 =>
        if b = true then tk σ2 H3 fun y H4 => tv σ2 H4 fun z H5 => ∃ kvs k, y = kV k ∧ H5 D = some (.dK kvs) ∧ kvs.length < sizeLine ∧ Nx (upd H5 D (.dK (putK kvs k z))) else Nx H3) := by
  refine ⟨fun i m H => m = n - i ∧ i ≤ n ∧ Pv i H, ⟨n, by simp, Nat.zero_le _, h0⟩, ?_⟩
  rintro i m H ⟨rfl, hi, p⟩
  have q := hG i H hi p
  by_cases hlt : i < n
  · exact .inr ⟨w.goes i H hlt q, Pv (i + 1), fun H' p' => ⟨n - (i + 1), by omega, rfl, hlt, p'⟩, fun x H' y => hs i x H H' hlt p (w.yields i H x H' hlt q y)⟩
  · have e : i = n := by omega
    subst e
    exact .inl ⟨w.stops H q, hd H p⟩
/-! ### the walks of mine as Walk -/
section
variable {K : PySem.W.Frag} {a b : Addr} {xs ys : List V} {k k2 : Bool}
theorem _root_.L2.Same.seqk {K : PySem.W.Frag} {H H' : Hp} {k : Bool} {a : Addr} {xs : List V} (e : Same H H') (h : SeqK k K H a xs) : SeqK k K H' a xs := SeqK.same e h
theorem walk_enumA : Walk (ItE k K a) xs.length (fun H => SeqK k K H a xs) (YPair (fun i => some (.int (i : Nat))) (fun i => xs[i]?)) := by
  refine ⟨fun i _ hi q => ⟨xs, xs[i], q, by simp [hi]⟩, fun _ q => ⟨xs, q, rfl⟩, fun i H v H' _ q y => ?_⟩
  obtain ⟨T, x, h1, h2, h3, h4⟩ := y
  exact ⟨T, .int (i : Nat), x, h1, h2, h3, rfl, h4 xs q⟩
theorem walk_zip2A {n : Nat} (hn : n = min xs.length ys.length) : Walk (ItZ2 k k2 K a b) n (fun H => SeqK k K H a xs ∧ SeqK k2 K H b ys) (YPair (fun i => xs[i]?) (fun i => ys[i]?)) := by
  subst hn
  refine ⟨fun i _ hi q => ?_, fun _ q => ⟨xs, ys, q.1, q.2, rfl⟩, fun i H v H' _ q y => ?_⟩
  · have h1 : i < xs.length := by omega
    have h2 : i < ys.length := by omega
    exact ⟨xs, ys, xs[i], ys[i], q.1, q.2, by simp [h1], by simp [h2]⟩
  · obtain ⟨T, x, z, h1, h2, h3, h4, h5⟩ := y
    exact ⟨T, x, z, h1, h2, h3, h4 xs q.1, h5 ys q.2⟩
end
end WV
end
section
set_option maxRecDepth 100000
set_option maxHeartbeats 4000000
namespace WV
open PySem PySem.Spec PyProof.Rows L2
/-! ### data without lists stand where a list grows -/
mutual
def noL : Dat → Bool
  | .v _ => true
  | .L _ => false
  | .T xs => noLs xs
def noLs : List Dat → Bool
  | [] => true
  | d :: ds => noL d && noLs ds
end
section
variable {K : PySem.W.Frag} {H H' : Hp}
theorem SqT.updL {a D : Addr} {xs acc : List V} {o : HO} (hD : H D = some (.lst acc)) (h : SqT K H a xs) : SqT K (upd H D o) a xs := by
  rcases h with (h | ⟨u, h⟩) | h
  · refine .inl (.inl ?_)
    rw [upd_ne (ne_of h hD (by intro z; cases z))]
    exact h
  · refine .inl (.inr ⟨u, ?_⟩)
    rw [upd_ne (ne_of h hD (by intro z; cases z))]
    exact h
  · exact .inr h
theorem SqT.updD {a D : Addr} {xs : List V} {kvs : List (Key × V)} {o : HO} (hD : H D = some (.dK kvs)) (h : SqT K H a xs) : SqT K (upd H D o) a xs := by
  rcases h with (h | ⟨u, h⟩) | h
  · refine .inl (.inl ?_)
    rw [upd_ne (ne_of h hD (by intro z; cases z))]
    exact h
  · refine .inl (.inr ⟨u, ?_⟩)
    rw [upd_ne (ne_of h hD (by intro z; cases z))]
    exact h
  · exact .inr h
mutual
theorem Rp.updL {D : Addr} {acc : List V} {o : HO} (hD : H D = some (.lst acc)) : ∀ {v : V} {d : Dat}, noL d = true → Rp K H v d → Rp K (upd H D o) v d
  | _, .v _, _, .v _ => .v _
  | _, .L _, h, _ => by cases h
  | _, .T _, h, .T q r => .T (SqT.updL hD q) (RpA.updL hD h r)
theorem RpA.updL {D : Addr} {acc : List V} {o : HO} (hD : H D = some (.lst acc)) : ∀ {vs : List V} {ds : List Dat}, noLs ds = true → RpA K H vs ds → RpA K (upd H D o) vs ds
  | _, [], _, .nil => .nil
  | _, d :: ds, h, .cons q r => by
    have h2 : (noL d && noLs ds) = true := h
    rw [Bool.and_eq_true] at h2
    exact .cons (Rp.updL hD h2.1 q) (RpA.updL hD h2.2 r)
end
mutual
theorem Rp.updD {D : Addr} {kvs : List (Key × V)} {o : HO} (hD : H D = some (.dK kvs)) : ∀ {v : V} {d : Dat}, noL d = true → Rp K H v d → Rp K (upd H D o) v d
  | _, .v _, _, .v _ => .v _
  | _, .L _, h, _ => by cases h
  | _, .T _, h, .T q r => .T (SqT.updD hD q) (RpA.updD hD h r)
theorem RpA.updD {D : Addr} {kvs : List (Key × V)} {o : HO} (hD : H D = some (.dK kvs)) : ∀ {vs : List V} {ds : List Dat}, noLs ds = true → RpA K H vs ds → RpA K (upd H D o) vs ds
  | _, [], _, .nil => .nil
  | _, d :: ds, h, .cons q r => by
    have h2 : (noL d && noLs ds) = true := h
    rw [Bool.and_eq_true] at h2
    exact .cons (Rp.updD hD h2.1 q) (RpA.updD hD h2.2 r)
end
theorem noLs_of : ∀ {ds : List Dat}, (∀ d ∈ ds, noL d = true) → noLs ds = true
  | [], _ => rfl
  | d :: ds, h => by
    show (noL d && noLs ds) = true
    rw [h d List.mem_cons_self, noLs_of fun e he => h e (List.mem_cons_of_mem _ he)]
    rfl
end
/-! ### comprehensions that give data -/
theorem lc_dat {K : PySem.W.Frag} {J : It} {n : Nat} {G : Hp → Prop} {Y : Nat → Hp → V → Hp → Prop} (w : Walk J n G Y) {g : TG} {tt : TT} {te : TE} {vs : List Nat} {σ : L2.St} {H1 : Hp} {D : Addr} {Qd : Hp → Prop}
    (hD : H1 D = none) (hn : n ≤ 100000) (hG : ∀ H, Same H1 H → G H) (keep : Nat → Bool) (R : Nat → Dat) (hR : ∀ i, noL (R i) = true)
    (turn : ∀ i x H H', i < n → Same H1 H → Y i H x H' → ∀ Qk : Option V → Hp → Prop, (∀ H2, Same H H2 → keep i = false → Qk none H2) → (∀ y H2, Same H H2 → keep i = true → Rp K H2 y (R i) → Qk (some y) H2) →
      g x (wipe σ vs) H' fun σ2 H2 => wipe σ2 vs = wipe σ vs ∧ tt σ2 H2 fun b H3 => if b = true then te σ2 H3 fun y H4 => Qk (some y) H4 else Qk none H3)
    (hd : ∀ H ys, Same H1 H → H D = some (.lst ys) → RpA K H ys (((List.range n).filter keep).map R) → Qd H) :
    ∃ W : Nat → Nat → Hp → Prop, (∃ m, W 0 m (upd H1 D (.lst []))) ∧ ∀ i m H, W i m H →
      (J.stop i H ∧ Qd H) ∨ (J.go i H ∧ ∃ Nx : Hp → Prop, (∀ H', Nx H' → ∃ m', m' < m ∧ W (i + 1) m' H') ∧ ∀ x H', J.yld i H x H' → g x (wipe σ vs) H' fun σ2 H2 => wipe σ2 vs = wipe σ vs ∧ tt σ2 H2 fun b H3 =>
        if b = true then te σ2 H3 fun y H4 => ∃ acc, H4 D = some (.lst acc) ∧ acc.length < sizeLine ∧ Nx (upd H4 D (.lst (acc ++ [y]))) else Nx H3) := by
  refine lc_it w (fun i H => Same H1 H ∧ ∃ ys, H D = some (.lst ys) ∧ RpA K H ys (((List.range i).filter keep).map R)) ⟨(Same.refl _).mut hD, [], upd_same, .nil⟩ (fun i H _ p => hG H p.1) (fun i x H H' hi p y => ?_) (fun H p => ?_)
  · obtain ⟨s1, ys, e, r⟩ := p
    have hl : ys.length ≤ i := by
      rw [r.len, List.length_map]
      exact Nat.le_trans (List.length_filter_le _ _) (Nat.le_of_eq List.length_range)
    have nl : noLs (((List.range i).filter keep).map R) = true := noLs_of fun d hd => by
      obtain ⟨j, _, rfl⟩ := List.mem_map.mp hd
      exact hR j
    refine turn i x H H' hi s1 y (fun o H2 => match o with
      | none => Same H1 H2 ∧ ∃ zs, H2 D = some (.lst zs) ∧ RpA K H2 zs (((List.range (i + 1)).filter keep).map R)
      | some y => ∃ acc, H2 D = some (.lst acc) ∧ acc.length < sizeLine ∧ Same H1 (upd H2 D (.lst (acc ++ [y]))) ∧ ∃ zs, (upd H2 D (.lst (acc ++ [y]))) D = some (.lst zs) ∧ RpA K (upd H2 D (.lst (acc ++ [y]))) zs (((List.range (i + 1)).filter keep).map R))
      (fun H2 s2 hk => ?_) (fun z H2 s2 hk hz => ?_)
    · refine ⟨s1.trans s2, ys, s2 _ _ e, ?_⟩
      rw [List.range_succ, List.filter_append, List.filter_cons, hk, if_neg Bool.false_ne_true]
      show RpA K H2 ys (((List.range i).filter keep ++ []).map R)
      rw [List.append_nil]
      exact r.mono s2
    · have e2 := s2 _ _ e
      refine ⟨ys, e2, Nat.lt_of_le_of_lt hl (by rw [sizeLine_eq]; omega), (s1.trans s2).mut hD, _, upd_same, ?_⟩
      rw [List.range_succ, List.filter_append, List.filter_cons, hk, if_pos rfl, List.map_append]
      exact (RpA.updL e2 nl (r.mono s2)).snoc (Rp.updL e2 (hR i) hz)
  · obtain ⟨s1, ys, e, r⟩ := p
    exact hd H ys s1 e r
/-- the same without tests -/
theorem lc_all {K : PySem.W.Frag} {J : It} {n : Nat} {G : Hp → Prop} {Y : Nat → Hp → V → Hp → Prop} (w : Walk J n G Y) {g : TG} {te : TE} {vs : List Nat} {σ : L2.St} {H1 : Hp} {D : Addr} {Qd : Hp → Prop}
    (hD : H1 D = none) (hn : n ≤ 100000) (hG : ∀ H, Same H1 H → G H) (R : Nat → Dat) (hR : ∀ i, noL (R i) = true)
    (turn : ∀ i x H H', i < n → Same H1 H → Y i H x H' → ∀ Qk : V → Hp → Prop, (∀ y H2, Same H H2 → Rp K H2 y (R i) → Qk y H2) → g x (wipe σ vs) H' fun σ2 H2 => wipe σ2 vs = wipe σ vs ∧ te σ2 H2 Qk)
    (hd : ∀ H ys, Same H1 H → H D = some (.lst ys) → RpA K H ys ((List.range n).map R) → Qd H) :
    ∃ W : Nat → Nat → Hp → Prop, (∃ m, W 0 m (upd H1 D (.lst []))) ∧ ∀ i m H, W i m H →
      (J.stop i H ∧ Qd H) ∨ (J.go i H ∧ ∃ Nx : Hp → Prop, (∀ H', Nx H' → ∃ m', m' < m ∧ W (i + 1) m' H') ∧ ∀ x H', J.yld i H x H' → g x (wipe σ vs) H' fun σ2 H2 => wipe σ2 vs = wipe σ vs ∧ tYes σ2 H2 fun b H3 =>
        if b = true then te σ2 H3 fun y H4 => ∃ acc, H4 D = some (.lst acc) ∧ acc.length < sizeLine ∧ Nx (upd H4 D (.lst (acc ++ [y]))) else Nx H3) := by
  refine lc_dat (K := K) w hD hn hG (fun _ => true) R hR (fun i x H H' hi s1 y Qk _ kq => ?_) (fun H ys s1 e r => hd H ys s1 e (by
    rw [List.filter_eq_self.mpr fun _ _ => rfl] at r
    exact r))
  have q := turn i x H H' hi s1 y (fun y H2 => Qk (some y) H2) fun y H2 s2 r => kq y H2 s2 rfl r
  have e : (fun (σ2 : L2.St) (H2 : Hp) => wipe σ2 vs = wipe σ vs ∧ tYes σ2 H2 fun b H3 => if b = true then te σ2 H3 fun y H4 => Qk (some y) H4 else Qk none H3) = fun σ2 H2 => wipe σ2 vs = wipe σ vs ∧ te σ2 H2 fun y H2 => Qk (some y) H2 := by
    funext σ2 H2
    show (wipe σ2 vs = wipe σ vs ∧ (if true = true then te σ2 H2 (fun y H4 => Qk (some y) H4) else Qk none H2)) = _
    rw [if_pos rfl]
  rw [e]
  exact q
theorem filt_all (n : Nat) : (List.range n).filter (fun _ => true) = List.range n := List.filter_eq_self.mpr fun _ _ => rfl
theorem range_get {α : Type} {xs : List α} (f : Nat → α) (h : ∀ (i : Nat) x, xs[i]? = some x → f i = x) : (List.range xs.length).map f = xs := by
  refine List.ext_getElem? fun i => ?_
  rw [List.getElem?_map]
  by_cases hi : i < xs.length
  · rw [List.getElem?_range hi, List.getElem?_eq_getElem hi]
    show some (f i) = some xs[i]
    rw [h i xs[i] (List.getElem?_eq_getElem hi)]
  · rw [List.getElem?_eq_none (by rw [List.length_range]; omega), List.getElem?_eq_none (by omega)]
    rfl
/-! ### targets of two, of three names -/
section
variable {K : PySem.W.Frag} {H : Hp} {σ : L2.St} {Q : L2.St → Hp → Prop} {x y z : V} {T : Addr} {i j l : Nat}
theorem g_two (h : SqT K H T [x, y]) (k : Q ((σ.set i (some x)).set j (some y)) H) : gTup K 2 (gCons (gName i) (gCons (gName j) gNil)) (.ref T) σ H Q := ⟨T, [x, y], rfl, h, rfl, x, [y], rfl, y, [], rfl, rfl, k⟩
theorem g_three (h : SqT K H T [x, y, z]) (k : Q (((σ.set i (some x)).set j (some y)).set l (some z)) H) : gTup K 3 (gCons (gName i) (gCons (gName j) (gCons (gName l) gNil))) (.ref T) σ H Q :=
  ⟨T, [x, y, z], rfl, h, rfl, x, [y, z], rfl, y, [z], rfl, z, [], rfl, rfl, k⟩
end
theorem ints_at {ns : List Int} {i : Nat} {y : V} (h : (ns.map V.int)[i]? = some y) : ∃ n, ns[i]? = some n ∧ y = .int n := by
  rw [List.getElem?_map] at h
  obtain ⟨n, h1, h2⟩ := Option.map_eq_some_iff.mp h
  exact ⟨n, h1, h2.symm⟩
theorem strs_at {ns : List Str} {i : Nat} {y : V} (h : (ns.map V.str)[i]? = some y) : ∃ n, ns[i]? = some n ∧ y = .str n := by
  rw [List.getElem?_map] at h
  obtain ⟨n, h1, h2⟩ := Option.map_eq_some_iff.mp h
  exact ⟨n, h1, h2.symm⟩
theorem at_ints {ns : List Int} {i : Nat} {n : Int} (h : ns[i]? = some n) : (ns.map V.int)[i]? = some (.int n) := by
  rw [List.getElem?_map, h]
  rfl
theorem at_strs {ns : List Str} {i : Nat} {n : Str} (h : ns[i]? = some n) : (ns.map V.str)[i]? = some (.str n) := by
  rw [List.getElem?_map, h]
  rfl
theorem getD_at {α : Type} {xs : List α} {i : Nat} {x d : α} (h : xs[i]? = some x) : xs.getD i d = x := by
  rw [List.getD_eq_getElem?_getD, h]
  rfl
end WV
end
section
set_option maxRecDepth 100000
set_option maxHeartbeats 4000000
namespace WV
open PySem PySem.Spec PyProof.Rows L2
section
variable {P : Program} {w : World} {K : PySem.W.Frag} {mg : Str → Option Value} {base : Heap}
theorem sc_is_count : FnScope ["value"] ["value"] (defScope s_is_count) := ⟨rfl, rfl, rfl, by decide +kernel, rfl, by decide +kernel, by decide +kernel⟩
def sp_is_count : Sp := fun vs H Q _ => ∃ n : Int, vs = [.int n] ∧ Q (.bl (decide (0 ≤ n))) H
theorem ok_is_count (t : T K mg) : Okf P w K mg base 1 ("is_count", none) ["value"] [] sp_is_count := by
  refine okf (d := d_is_count) t 0 rfl rfl sc_is_count (fun _ _ _ _ _ _ us hl => match us, hl with | [_], _ => rfl) (fun vs H Q E h => ?_) (fun cdv A outer s H vs Q E hr h => ?_)
  · obtain ⟨n, rfl, _⟩ := h
    rfl
  · obtain ⟨n, rfl, q⟩ := h
    refine ⟨_, (pss_one (ps_ret (pe_and (pe_callB call_isi (by rfl) t.b_isinstance bt_isinstance (pa_cons (pv 0) (pa_cons (pe_bt t.b_int bt_int) pa_nil))) (pe_and (pe_not (pe_callB call_isi (by rfl) t.b_isinstance bt_isinstance (pa_cons (pv 0) (pa_cons (pe_bt t.b_bool bt_bool) pa_nil)))) (pe_one (pe_cmpR op_ge (pv 0) pe_int (nomark _))))))), ?_⟩
    refine ⟨.int n, rfl, _, _, _, _, true, rfl, .ty _, .base (.int n), kit_ty (by decide +kernel), true, rfl, ?_⟩
    refine ⟨.int n, rfl, _, _, _, _, false, rfl, .ty _, .base (.int n), kit_ty (by decide +kernel), false, rfl, true, rfl, ?_⟩
    exact ⟨.int n, rfl, n, 0, rfl, rfl, q⟩
theorem sc_check_signs : FnScope ["many"] ["many"] (defScope s_check_signs) := ⟨rfl, rfl, rfl, by decide +kernel, rfl, by decide +kernel, by decide +kernel⟩
def sp_check_signs : Sp := fun vs H Q _ => ∃ n : Int, vs = [.int n] ∧ (2 ≤ n ∧ n ≤ 2000) ∧ Q .non H
theorem ok_check_signs (t : T K mg) : Okf P w K mg base 1 ("check_signs", none) ["many"] [] sp_check_signs := by
  refine okf (d := d_check_signs) t 2 rfl rfl sc_check_signs (fun _ _ _ _ _ _ us hl => match us, hl with | [_], _ => rfl) (fun vs H Q E h => ?_) (fun cdv A outer s H vs Q E hr h => ?_)
  · obtain ⟨n, rfl, _⟩ := h
    rfl
  · obtain ⟨n, rfl, ⟨h1, h2⟩, q⟩ := h
    refine ⟨_, (pss_one (ps_if (pt_not (pt_chain op_le op_le pe_int (pv 0) (pe_k t.i_MOST_SIGNS)))
        (pss_one ps_never)
        pss_nil)), ?_⟩
    exact ⟨.int n, rfl, 2, n, rfl, rfl, true, congrArg V.bl (decide_eq_true h1), iteT ⟨n, 2000, rfl, rfl, true, congrArg V.bl (decide_eq_true h2), q⟩⟩
end
end WV
end
section
set_option maxRecDepth 100000
set_option maxHeartbeats 4000000
namespace WV
open PySem PySem.Spec PyProof.Rows L2
/-! ### a Code as it stands -/
def codeF (tl tw : Addr) (n m : Int) : List (Str × V) := [("lengths", .ref tl), ("words", .ref tw), ("size", .int n), ("longest", .int m)]
structure CodeAt (K : PySem.W.Frag) (H : Hp) (v : V) (ls : List Int) (ws : List Str) : Prop where
  ex : ∃ a dx tl tw m, v = .ref a ∧ H a = some (.ins (He.ga K "Code") dx (codeF tl tw ls.length m)) ∧ SqT K H tl (ls.map V.int) ∧ SqT K H tw (ws.map V.str)
theorem CodeAt.mono {K : PySem.W.Frag} {H H' : Hp} {v : V} {ls : List Int} {ws : List Str} (e : Same H H') (h : CodeAt K H v ls ws) : CodeAt K H' v ls ws := by
  obtain ⟨a, dx, tl, tw, m, rfl, h1, h2, h3⟩ := h.ex
  exact ⟨a, dx, tl, tw, m, rfl, e _ _ h1, e.tup h2, e.tup h3⟩
theorem codeF_l {tl tw : Addr} {n m : Int} : (codeF tl tw n m).lookup ("lengths" : Str) = some (.ref tl) := by with_unfolding_all rfl
theorem codeF_w {tl tw : Addr} {n m : Int} : (codeF tl tw n m).lookup ("words" : Str) = some (.ref tw) := by with_unfolding_all rfl
theorem codeF_s {tl tw : Addr} {n m : Int} : (codeF tl tw n m).lookup ("size" : Str) = some (.int n) := by with_unfolding_all rfl
def dot (a b : List Int) : Int := (List.zipWith (· * ·) a b).sum
section
variable {P : Program} {w : World} {K : PySem.W.Frag} {mg : Str → Option Value} {base : Heap}
theorem sc_check_counts : FnScope ["counts", "index", "count"] ["counts"] (defScope s_check_counts) := ⟨rfl, rfl, rfl, by decide +kernel, rfl, by decide +kernel, by decide +kernel⟩
def sp_check_counts (K : PySem.W.Frag) : Sp := fun vs H Q _ => ∃ (a : Addr) (ns : List Int), vs = [.ref a] ∧ SqA K H a (ns.map V.int) ∧ (2 ≤ ns.length ∧ ns.length ≤ 2000) ∧ (∀ n ∈ ns, 0 ≤ n) ∧ ∀ H', Same H H' → Q .non H'
theorem ok_check_counts (t : T K mg) : Okf P w K mg base 2 ("check_counts", none) ["counts"] [] (sp_check_counts K) := by
  have O_check_signs := ok_check_signs (P := P) (w := w) (base := base) t
  have O_is_count := ok_is_count (P := P) (w := w) (base := base) t
  refine okf (d := d_check_counts) t 3 rfl rfl sc_check_counts (fun _ _ _ _ _ _ us hl => match us, hl with | [_], _ => rfl) (fun vs H Q E h => ?_) (fun cdv A outer s H vs Q E hr h => ?_)
  · obtain ⟨a, n, rfl, _⟩ := h
    rfl
  · obtain ⟨a, ns, rfl, hs, hl, hn, q⟩ := h
    refine ⟨_, (pss_cons (ps_expr (pe_f O_check_signs (hr.mono (by decide)) t.g_check_signs (pa_cons (pe_callB call_len_seq (by rfl) t.b_len bt_len (pa_cons (pv 0) pa_nil)) pa_nil)))
      (pss_one (ps_for PassesOwn.never rfl (pi_enumA (by rfl) t.b_enumerate (pa_cons (pv 0) pa_nil)) (pg_tup rfl (pgs_cons (pg_name (i := 1) sc_check_counts.nd rfl (.inl rfl)) (pgs_cons (pg_name (i := 2) sc_check_counts.nd rfl (.inl rfl)) pgs_nil)))
        (pss_one (ps_if (pt_not (pt_val (pe_f O_is_count (hr.mono (by decide)) t.g_is_count (pa_cons (pv 2) pa_nil))))
          (pss_one ps_never)
          pss_nil))))), ?_⟩
    obtain ⟨k, hk⟩ := sqa_k hs
    refine ⟨.ref a, rfl, a, _, rfl, hs, ns.length, by rw [List.length_map]; rfl, by omega, ?_⟩
    refine ⟨.ref a, rfl, a, ns.map V.int, k, rfl, hk, for_it (walk_enumA (xs := ns.map V.int)) (fun i σ H' => Same H H' ∧ ∃ x y, σ = [some (.ref a), x, y]) ⟨Same.refl H, _, _, rfl⟩ (fun i σ H' _ p => p.1.seqk hk) (fun i x σ H1 H2 hi p y => ?_) (fun σ H' p => q H' p.1)⟩
    obtain ⟨s1, x1, x2, rfl⟩ := p
    obtain ⟨T, x', y', rfl, hT, rfl, e1, e2⟩ := y
    cases e1
    obtain ⟨n, hn1, rfl⟩ := ints_at e2
    refine g_two (SqT.of upd_same) ⟨_, rfl, n, rfl, decide (0 ≤ n), rfl, ?_⟩
    rw [decide_eq_true (hn n (List.mem_of_getElem? hn1))]
    exact ⟨s1.trans (Same.new hT), _, _, rfl⟩
theorem sc_cost_by : FnScope ["code", "counts", "count", "length"] ["code", "counts"] (defScope s_cost_by) := ⟨rfl, rfl, rfl, by decide +kernel, rfl, by decide +kernel, by decide +kernel⟩
def sp_cost_by (K : PySem.W.Frag) : Sp := fun vs H Q _ => ∃ (c : V) (a : Addr) (ls : List Int) (ws : List Str) (ns : List Int), vs = [c, .ref a] ∧ CodeAt K H c ls ws ∧ SqA K H a (ns.map V.int) ∧ (ls.length ≤ 100 ∧ ns.length = ls.length ∧ ∀ l ∈ ls, 0 ≤ l ∧ l ≤ 1000) ∧ ∀ H', Same H H' → Q (.int (dot ns ls)) H'
theorem ok_cost_by (t : T K mg) : Okf P w K mg base 1 ("cost_by", none) ["code", "counts"] [] (sp_cost_by K) := by
  refine okf (d := d_cost_by) t 12 rfl rfl sc_cost_by (fun _ _ _ _ _ _ us hl => match us, hl with | [_, _], _ => rfl) (fun vs H Q E h => ?_) (fun cdv A outer s H vs Q E hr h => ?_)
  · obtain ⟨c, a, ls, ws, ns, rfl, _⟩ := h
    rfl
  · obtain ⟨c, a, ls, ws, ns, rfl, hc, hs, ⟨h1, h2, h3⟩, q⟩ := h
    obtain ⟨ca, dx, tl, tw, m, rfl, ho, hl, hw⟩ := hc.ex
    obtain ⟨k, hk⟩ := sqa_k hs
    refine ⟨_, (pss_one (ps_ret (pe_callB (cr_sum rfl) (by rfl) t.b_sum bt_sum (pa_cons (pe_lc (own := [("count", 2), ("length", 3)]) (g := gTup K 2 (gCons (gName 2) (gCons (gName 3) gNil))) (tt := tYes) rfl sc_cost_by.nd (pi_zip2A (by rfl) t.b_zip (pa_cons (pv 1) (pa_cons (pe_fld (pv 0) rfl) pa_nil))) (blkOk_by (own := [("count", 2), ("length", 3)]) (N := ["code", "counts", "count", "length"]) (sc := defScope s_cost_by) (by decide +kernel)) (fun _ _ _ _ _ => (pg_tup rfl (pgs_cons (pg_name (i := 2) sc_cost_by.nd rfl (.inl rfl)) (pgs_cons (pg_name (i := 3) sc_cost_by.nd rfl (.inl rfl)) pgs_nil)))) (fun _ _ _ _ _ => pts_nil) (fun _ _ _ _ _ => (pe_op op_mul (pv 2) (pv 3)))) pa_nil)))), ?_⟩
    refine ⟨.ref a, rfl, .ref ca, rfl, ca, He.ga K "Code", dx, _, _, rfl, ho, t.c_Code, t.n_Code_lengths, codeF_l, a, tl, ns.map V.int, ls.map V.int, k, false, rfl, hk, hl, fun D hD => ?_⟩
    have hn : ls.length = min (ns.map V.int).length (ls.map V.int).length := by simp [h2]
    refine lc_all (K := K) (walk_zip2A hn) hD (by omega) (fun H' s1 => ⟨s1.seqk hk, s1.tup hl⟩) (fun i => .v (.int (ns.getD i 0 * ls.getD i 0))) (fun i => rfl) (fun i x H1 H2 hi s1 y Qk kq => ?_) (fun H' ys s1 e r => ?_)
    · obtain ⟨T, x', y', rfl, hT, rfl, e1, e2⟩ := y
      obtain ⟨n, hn1, rfl⟩ := ints_at e1
      obtain ⟨l, hl1, rfl⟩ := ints_at e2
      have hlm := h3 l (List.mem_of_getElem? hl1)
      refine g_two (SqT.of upd_same) ⟨rfl, _, rfl, _, rfl, n, l, rfl, rfl, .inr ⟨by omega, by omega⟩, kq _ _ (Same.new hT) ?_⟩
      rw [getD_at hn1, getD_at hl1]
      exact .v _
    · have e3 : (List.range ls.length).map (fun i => Dat.v (.int (ns.getD i 0 * ls.getD i 0))) = iD (List.zipWith (· * ·) ns ls) := by
        unfold iD
        have e4 := range_get (xs := List.zipWith (· * ·) ns ls) (fun i => ns.getD i 0 * ls.getD i 0) fun i x hx => by
          obtain ⟨u, v, hu, hv, rfl⟩ := List.getElem?_zipWith_eq_some.mp hx
          rw [getD_at hu, getD_at hv]
        rw [← e4, List.map_map, List.length_zipWith, h2, Nat.min_self]
        rfl
      rw [e3] at r
      rw [r.unints] at e
      exact ⟨D, _, rfl, SqL.of e, q H' s1⟩
end
end WV
end
section
set_option maxRecDepth 100000
set_option maxHeartbeats 4000000
namespace WV
open PySem PySem.Spec PyProof.Rows L2
/-! ### words of bits -/
def bitsF : Nat → Nat → List Nat
  | _, 0 => []
  | n, s + 1 => bitsF (n / 2) s ++ [if n % 2 = 1 then 49 else 48]
theorem bitsF_len : ∀ s n, (bitsF n s).length = s
  | 0, _ => rfl
  | s + 1, n => by
    show (bitsF (n / 2) s ++ [_]).length = s + 1
    rw [List.length_append, bitsF_len s, List.length_singleton]
theorem join_ones : ∀ l : List Nat, Txt.join (SX.S []) (l.map fun c => SX.S [c]) = SX.S l := fun l => by
  have e : (l.map fun c => SX.S [c]) = (l.map fun c => [c]).map SX.S := by
    rw [List.map_map]
    rfl
  rw [e, SX.join_S]
  refine congrArg SX.S ?_
  induction l with
  | nil => rfl
  | cons c r ih => 
    cases r with
    | nil => rfl
    | cons d r =>
      show [c] ++ [] ++ TL.joinL [] ((d :: r).map fun c => [c]) = c :: d :: r
      rw [ih (by rw [List.map_map]; rfl)]
      rfl
theorem toNat_div {n m : Int} (h : 0 ≤ n) (hm : m = 2) : (n / m).toNat = n.toNat / 2 := by
  subst hm
  omega
section
variable {P : Program} {w : World} {K : PySem.W.Frag} {mg : Str → Option Value} {base : Heap}
theorem sc_two_power : FnScope ["many", "found", "base"] ["many"] (defScope s_two_power) := ⟨rfl, rfl, rfl, by decide +kernel, rfl, by decide +kernel, by decide +kernel⟩
def sp_two_power : Sp := fun vs H Q _ => ∃ n : Nat, vs = [.int n] ∧ n ≤ 15 ∧ ∀ H', Same H H' → Q (.int ((2 ^ n : Nat) : Int)) H'
theorem ok_two_power (t : T K mg) : Okf P w K mg base 1 ("two_power", none) ["many"] [] sp_two_power := by
  refine okf (d := d_two_power) t 1 rfl rfl sc_two_power (fun _ _ _ _ _ _ us hl => match us, hl with | [_], _ => rfl) (fun vs H Q E h => ?_) (fun cdv A outer s H vs Q E hr h => ?_)
  · obtain ⟨n, rfl, _⟩ := h
    rfl
  · obtain ⟨n, rfl, hn, q⟩ := h
    refine ⟨_, (pss_cons (ps_asg (pe_tup (pa_cons pe_int (pa_cons pe_int pa_nil))) (pg_tup rfl (pgs_cons (pg_name (i := 1) sc_two_power.nd rfl (.inl rfl)) (pgs_cons (pg_name (i := 2) sc_two_power.nd rfl (.inl rfl)) pgs_nil))))
      (pss_cons (ps_while PassesOwn.never (pt_cmpR op_gt (pv 0) pe_int (nomark _))
        (pss_cons (ps_if (pt_cmpR op_eq (pe_op op_mod (pv 0) pe_int) pe_int (nomark _))
          (pss_one (ps_set (i := 1) sc_two_power.nd rfl (.inl rfl) (pe_op op_mul (pv 1) (pv 2))))
          pss_nil)
        (pss_cons (ps_set (i := 2) sc_two_power.nd rfl (.inl rfl) (pe_op op_mul (pv 2) (pv 2)))
        (pss_one (ps_set (i := 0) sc_two_power.nd rfl (.inl rfl) (pe_op op_fdiv (pv 0) pe_int))))))
      (pss_one (ps_ret (pv 1))))), ?_⟩
    refine ⟨by decide, fun p hp => ⟨p, _, rfl, SqT.of upd_same, rfl, _, _, rfl, _, _, rfl, rfl, ?_⟩⟩
    refine ⟨fun m σ H' => Same H H' ∧ ∃ f b : Nat, σ = [some (.int (m : Nat)), some (.int (f : Nat)), some (.int (b : Nat))] ∧ 0 < f ∧ 0 < b ∧ f * b ^ m = 2 ^ n, ⟨n, Same.new hp, 1, 2, rfl, by decide, by decide, Nat.one_mul _⟩, ?_⟩
    rintro m σ H' ⟨s1, f, b, rfl, hf, hb, e⟩
    refine ⟨_, rfl, _, _, rfl, rfl, decide (0 < m), by simp, ?_⟩
    rcases Nat.eq_zero_or_pos m with h0 | h0
    · subst h0
      rw [show decide ((0:Nat) < 0) = false from rfl]
      refine iteF ?_
      rw [Nat.pow_zero, Nat.mul_one] at e
      rw [← e] at q
      exact ⟨_, rfl, q _ s1⟩
    · rw [decide_eq_true h0]
      have hN : (2 : Nat) ^ n ≤ 2 ^ 15 := Nat.pow_le_pow_right (by decide) hn
      have hb1 : b ≤ b ^ m := Nat.le_self_pow (by omega) b
      have hb2 : b ^ m ≤ f * b ^ m := Nat.le_mul_of_pos_left _ hf
      have hb3 : f ≤ f * b ^ m := Nat.le_mul_of_pos_right _ (Nat.pow_pos hb)
      rw [e] at hb2 hb3
      have lb : b ≤ 32768 := Nat.le_trans hb1 (Nat.le_trans hb2 hN)
      have lf : f ≤ 32768 := Nat.le_trans hb3 hN
      refine iteT ⟨fun σ' H'' => ∃ m', m' < m ∧ (Same H H'' ∧ ∃ f b : Nat, σ' = [some (.int (m' : Nat)), some (.int (f : Nat)), some (.int (b : Nat))] ∧ 0 < f ∧ 0 < b ∧ f * b ^ m' = 2 ^ n), fun _ _ h => h, ?_⟩
      have em : (m / 2 : Nat) < m := by omega
      have ec : ((m : Int) % 2) = ((m % 2 : Nat) : Int) := by omega
      repeat (first | refine ⟨_, rfl, ?_⟩ | refine ⟨_, _, rfl, rfl, ?_⟩ | refine ⟨rfl, ?_⟩ | refine ⟨⟨by decide, by decide⟩, ?_⟩ | refine ⟨(by decide : (0 : Int) < 2), ?_⟩ | refine ⟨.inr ⟨by decide, by decide⟩, ?_⟩)
      have ed : decide (V.int ((m : Int) % 2) = V.int 1) = decide (m % 2 = 1) := by
        by_cases c : m % 2 = 1
        · rw [decide_eq_true c, decide_eq_true (by rw [ec, c]; rfl)]
        · rw [decide_eq_false c, decide_eq_false (fun h => c (by injection h with h; omega))]
      rw [ed]
      have hh : b ^ m = (b * b) ^ (m / 2) * b ^ (m % 2) := by
        rw [← Nat.pow_two, ← Nat.pow_mul, ← Nat.pow_add]
        congr 1
        omega
      have e2 : ((m : Int) / 2) = ((m / 2 : Nat) : Int) := by omega
      have cb : CMul (b : Int) b := .inr ⟨by omega, by omega⟩
      rcases Nat.mod_two_eq_zero_or_one m with c | c
      · rw [c, show decide (0 = 1) = false from rfl]
        rw [c, Nat.pow_zero, Nat.mul_one] at hh
        refine iteF ?_
        refine ⟨_, rfl, _, rfl, _, _, rfl, rfl, cb, ⟨_, rfl, _, _, rfl, rfl, ⟨by decide, by decide⟩, ⟨m / 2, em, s1, f, b * b, ?_, hf, Nat.mul_pos hb hb, by rw [← hh]; exact e⟩⟩⟩
        rfl
      · rw [c, show decide (1 = 1) = true from rfl]
        rw [c, Nat.pow_one] at hh
        refine iteT ?_
        refine ⟨_, rfl, _, rfl, _, _, rfl, rfl, .inr ⟨by omega, by omega⟩, ?_⟩
        refine ⟨_, rfl, _, rfl, _, _, rfl, rfl, cb, ⟨_, rfl, _, _, rfl, rfl, ⟨by decide, by decide⟩, ⟨m / 2, em, s1, f * b, b * b, ?_, Nat.mul_pos hf hb, Nat.mul_pos hb hb, by rw [← e, hh, Nat.mul_assoc, Nat.mul_comm b]⟩⟩⟩
        rfl
theorem sc_bits_of : FnScope ["number", "size", "found", "turn"] ["number", "size"] (defScope s_bits_of) := ⟨rfl, rfl, rfl, by decide +kernel, rfl, by decide +kernel, by decide +kernel⟩
def sp_bits_of : Sp := fun vs H Q _ => ∃ n m : Nat, vs = [.int n, .int m] ∧ m ≤ 100 ∧ ∀ H', Same H H' → Q (.str (SX.S (bitsF n m))) H'
theorem ok_bits_of (t : T K mg) : Okf P w K mg base 1 ("bits_of", none) ["number", "size"] [] sp_bits_of := by
  refine okf (d := d_bits_of) t 4 rfl rfl sc_bits_of (fun _ _ _ _ _ _ us hl => match us, hl with | [_, _], _ => rfl) (fun vs H Q E h => ?_) (fun cdv A outer s H vs Q E hr h => ?_)
  · obtain ⟨n, m, rfl, _⟩ := h
    rfl
  · obtain ⟨n, m, rfl, hn, q⟩ := h
    refine ⟨_, (pss_cons (ps_set (i := 2) sc_bits_of.nd rfl (.inl rfl) (pe_lst pa_nil))
      (pss_cons (ps_for PassesOwn.never rfl (pi_range1 (by rfl) t.b_range (pa_cons (pv 1) pa_nil)) (pg_name (i := 3) sc_bits_of.nd rfl (.inl rfl))
        (pss_cons (ps_expr (pe_bm PySem.F.plainAttrs_list PySem.F.slot_list_append PySem.F.type_list_append mt_append (pv 2) (pa_cons (pe_ifExp (pt_cmpR op_eq (pe_op op_mod (pv 0) pe_int) pe_int (nomark _)) pe_str pe_str) pa_nil)))
        (pss_one (ps_set (i := 0) sc_bits_of.nd rfl (.inl rfl) (pe_op op_fdiv (pv 0) pe_int)))))
      (pss_one (ps_ret (pe_bm PySem.F.plainAttrs_str PySem.F.slot_str_join PySem.F.type_str_join mt_join pe_str (pa_cons (pe_revL (pv 2)) pa_nil)))))), ?_⟩
    refine ⟨by decide, fun D hD => ?_⟩
    refine ⟨_, rfl, _, rfl, by omega, by omega, ?_⟩
    rw [show ((m : Int)).toNat = m by omega]
    refine for_it walk_range (fun i σ H' => Same H H' ∧ ∃ (u : Option V) (k : Nat) (l : List Nat), σ = [some (.int k), some (.int m), some (.ref D), u] ∧ H' D = some (.lst (l.map fun c => .str (SX.S [c]))) ∧ l.length = i ∧ bitsF k (m - i) ++ l.reverse = bitsF n m) ⟨Same.new hD, none, n, [], rfl, upd_same, rfl, by simp⟩ (fun _ _ _ _ _ => trivial) (fun i x σ H1 H2 hi p y => ?_) (fun σ H' p => ?_)
    · obtain ⟨s1, u, k, l, rfl, hl, hl2, e⟩ := p
      obtain ⟨rfl, rfl⟩ := y
      have ed : decide (V.int ((k : Int) % 2) = V.int 1) = decide (k % 2 = 1) := by
        by_cases c : k % 2 = 1
        · rw [decide_eq_true c, decide_eq_true (by congr 1; omega)]
        · rw [decide_eq_false c, decide_eq_false (fun h => c (by injection h with h; omega))]
      have em : m - i = (m - (i + 1)) + 1 := by omega
      rw [em] at e
      have e0 : bitsF (k / 2) (m - (i + 1)) ++ [if k % 2 = 1 then 49 else 48] ++ l.reverse = bitsF n m := e
      rw [List.append_assoc] at e0
      repeat (first | refine ⟨_, rfl, ?_⟩ | refine ⟨_, _, rfl, rfl, ?_⟩ | refine ⟨rfl, ?_⟩ | refine ⟨⟨by decide, by decide⟩, ?_⟩ | refine ⟨(by decide : (0 : Int) < 2), ?_⟩ | refine ⟨.inr ⟨by decide, by decide⟩, ?_⟩)
      refine ⟨.inl ⟨rfl, _, SqL.of hl⟩, ?_⟩
      repeat (first | refine ⟨_, rfl, ?_⟩ | refine ⟨_, _, rfl, rfl, ?_⟩ | refine ⟨rfl, ?_⟩ | refine ⟨⟨by decide, by decide⟩, ?_⟩ | refine ⟨(by decide : (0 : Int) < 2), ?_⟩ | refine ⟨.inr ⟨by decide, by decide⟩, ?_⟩)
      rw [ed]
      have fin : ∀ c : Nat, c = (if k % 2 = 1 then 49 else 48) → ∃ (u : Option V) (k' : Nat) (l' : List Nat), [some (V.int ((k : Int) / 2)), some (V.int m), some (V.ref D), some (V.int (0 + (i : Int)))] = [some (V.int k'), some (V.int m), some (V.ref D), u] ∧ (upd H2 D (.lst ((l.map fun c => V.str (SX.S [c])) ++ [V.str (SX.S [c])]))) D = some (.lst (l'.map fun c => .str (SX.S [c]))) ∧ l'.length = i + 1 ∧ bitsF k' (m - (i + 1)) ++ l'.reverse = bitsF n m := fun c hc => by
        refine ⟨_, k / 2, l ++ [c], rfl, ?_, by simp [hl2], ?_⟩
        · rw [upd_same, List.map_append]
          rfl
        · rw [List.reverse_append, hc]
          exact e0
      have hz : (l.map fun c => V.str (SX.S [c])).length < sizeLine := by
        rw [List.length_map, sizeLine_eq]
        omega
      by_cases c : k % 2 = 1
      · rw [decide_eq_true c]
        refine iteT ⟨D, _, _, rfl, rfl, hl, hz, ⟨_, rfl, _, _, rfl, rfl, ⟨by decide, by decide⟩, s1.mut hD, fin 49 (by rw [if_pos c])⟩⟩
      · rw [decide_eq_false c]
        refine iteF ⟨D, _, _, rfl, rfl, hl, hz, ⟨_, rfl, _, _, rfl, rfl, ⟨by decide, by decide⟩, s1.mut hD, fin 48 (by rw [if_neg c])⟩⟩
    · obtain ⟨s1, u, k, l, rfl, hl, hl2, e⟩ := p
      refine ⟨rfl, _, rfl, D, _, rfl, SqL.of hl, fun p hp => ⟨_, p, l.reverse.map fun c => SX.S [c], rfl, rfl, .inl (SqL.of ?_), ?_, ?_⟩⟩
      · rw [upd_same, List.map_map, ← List.map_reverse]
        rfl
      · rw [List.length_map, List.length_reverse, hl2]
        have e1 : ((l.reverse.map fun c => SX.S [c]).map fun x => x.length).sum = l.length := by
          rw [List.map_map]
          have : ((fun x : Str => x.length) ∘ fun c => SX.S [c]) = fun _ => 1 := rfl
          rw [this, ← List.length_reverse]
          induction l.reverse with
          | nil => rfl
          | cons a r ih => 
            rw [List.map_cons, List.sum_cons, ih, List.length_cons]
            omega
        have e2 : (Str.ofString "").length = 0 := by decide +kernel
        rw [e1, e2]
        omega
      · have e2 : Str.ofString "" = SX.S [] := by decide +kernel
        rw [e2, join_ones]
        rw [Nat.sub_self] at e
        rw [show l.reverse = bitsF n m from e]
        exact q _ ((s1.trans (Same.new hp)))
end
end WV
end
section
set_option maxRecDepth 100000
set_option maxHeartbeats 4000000
namespace WV
/-! ### pairs of ints, sorted -/
def ple (x y : Int × Int) : Bool := decide (x.1 < y.1) || (decide (x.1 = y.1) && decide (x.2 ≤ y.2))
theorem ple_iff {x y : Int × Int} : ple x y = true ↔ x.1 < y.1 ∨ x.1 = y.1 ∧ x.2 ≤ y.2 := by
  unfold ple
  simp
theorem ple_total (x y : Int × Int) : ple x y = true ∨ ple y x = true := by
  rw [ple_iff, ple_iff]
  omega
theorem ple_trans {x y z : Int × Int} (h1 : ple x y = true) (h2 : ple y z = true) : ple x z = true := by
  rw [ple_iff] at h1 h2 ⊢
  omega
theorem ple_anti {x y : Int × Int} (h1 : ple x y = true) (h2 : ple y x = true) : x = y := by
  rw [ple_iff] at h1 h2
  exact Prod.ext (by omega) (by omega)
def insP (x : Int × Int) : List (Int × Int) → List (Int × Int)
  | [] => [x]
  | y :: r => if ple x y = true then x :: y :: r else y :: insP x r
def isort : List (Int × Int) → List (Int × Int)
  | [] => []
  | x :: r => insP x (isort r)
theorem insP_perm (x : Int × Int) : ∀ l, (insP x l).Perm (x :: l)
  | [] => .refl _
  | y :: r => by
    unfold insP
    split
    · exact .refl _
    · exact ((insP_perm x r).cons y).trans (.swap x y r)
theorem isort_perm : ∀ l, (isort l).Perm l
  | [] => .refl _
  | x :: r => (insP_perm x (isort r)).trans ((isort_perm r).cons x)
theorem insP_srt (x : Int × Int) : ∀ {l : List (Int × Int)}, l.Pairwise (fun a b => ple a b = true) → (insP x l).Pairwise (fun a b => ple a b = true)
  | [], _ => List.pairwise_singleton _ _
  | y :: r, h => by
    obtain ⟨h1, h2⟩ := List.pairwise_cons.mp h
    unfold insP
    split
    · rename_i hx
      refine List.pairwise_cons.mpr ⟨fun z hz => ?_, h⟩
      rcases List.mem_cons.mp hz with rfl | hz
      · exact hx
      · exact ple_trans hx (h1 z hz)
    · rename_i hx
      refine List.pairwise_cons.mpr ⟨fun z hz => ?_, insP_srt x h2⟩
      rcases List.mem_cons.mp ((insP_perm x r).mem_iff.mp hz) with rfl | hz
      · exact (ple_total z y).resolve_left hx
      · exact h1 z hz
theorem isort_srt : ∀ l, (isort l).Pairwise (fun a b => ple a b = true)
  | [] => .nil
  | x :: r => insP_srt x (isort_srt r)
theorem srt_unique : ∀ {l m : List (Int × Int)}, l.Perm m → l.Pairwise (fun a b => ple a b = true) → m.Pairwise (fun a b => ple a b = true) → l = m
  | [], m, p, _, _ => (List.nil_perm.mp p).symm
  | x :: l, [], p, _, _ => absurd p.length_eq (by simp)
  | x :: l, y :: m, p, h1, h2 => by
    have e : x = y := by
      have hx : x ∈ y :: m := p.mem_iff.mp List.mem_cons_self
      have hy : y ∈ x :: l := p.mem_iff.mpr List.mem_cons_self
      rcases List.mem_cons.mp hx with e | hx
      · exact e
      · rcases List.mem_cons.mp hy with e | hy
        · exact e.symm
        · exact ple_anti ((List.pairwise_cons.mp h1).1 y hy) ((List.pairwise_cons.mp h2).1 x hx)
    subst e
    rw [srt_unique (List.Perm.cons_inv p) (List.pairwise_cons.mp h1).2 (List.pairwise_cons.mp h2).2]
theorem isort_of {l m : List (Int × Int)} (p : l.Perm m) (h : l.Pairwise (fun a b => ple a b = true)) : l = isort m := srt_unique (p.trans (isort_perm m).symm) h (isort_srt m)

/-! ### full lengths -/
def kr (L : Nat) (ls : List Nat) : Nat := (ls.map fun l => 2 ^ (L - l)).sum
def Full (ls : List Nat) : Prop := ∃ L, (∀ l ∈ ls, l ≤ L) ∧ kr L ls = 2 ^ L
theorem kr_perm {L : Nat} {a b : List Nat} (p : a.Perm b) : kr L a = kr L b := (p.map _).sum_nat
theorem Full.perm {a b : List Nat} (p : a.Perm b) (h : Full a) : Full b := by
  obtain ⟨L, h1, h2⟩ := h
  exact ⟨L, fun l hl => h1 l (p.mem_iff.mpr hl), by rw [← kr_perm p]; exact h2⟩
theorem kr_cons (L l : Nat) (ls : List Nat) : kr L (l :: ls) = 2 ^ (L - l) + kr L ls := by
  unfold kr
  rw [List.map_cons, List.sum_cons]
theorem kr_up {L k : Nat} : ∀ {ls : List Nat}, (∀ l ∈ ls, l ≤ L) → kr (L + k) ls = kr L ls * 2 ^ k
  | [], _ => by simp [kr]
  | l :: ls, h => by
    have hl := h l List.mem_cons_self
    rw [kr_cons, kr_cons, kr_up fun x hx => h x (List.mem_cons_of_mem _ hx), Nat.add_mul, ← Nat.pow_add]
    congr 2
    omega
theorem Full.at {ls : List Nat} (h : Full ls) {m : Nat} (hm : ∀ l ∈ ls, l ≤ m) : kr m ls = 2 ^ m := by
  obtain ⟨L, h1, h2⟩ := h
  rcases Nat.le_total L m with e | e
  · obtain ⟨k, rfl⟩ := Nat.exists_eq_add_of_le e
    rw [kr_up h1, h2, ← Nat.pow_add]
  · obtain ⟨k, rfl⟩ := Nat.exists_eq_add_of_le e
    rw [kr_up hm, Nat.pow_add] at h2
    exact Nat.eq_of_mul_eq_mul_right (Nat.pos_of_ne_zero (by exact Nat.pos_iff_ne_zero.mp (Nat.two_pow_pos k))) h2
theorem kr_even {m : Nat} : ∀ {ls : List Nat}, (∀ l ∈ ls, l < m) → kr m ls % 2 = 0
  | [], _ => rfl
  | l :: ls, h => by
    have hl := h l List.mem_cons_self
    have ih := kr_even fun x hx => h x (List.mem_cons_of_mem _ hx)
    obtain ⟨d, hd⟩ : ∃ d, m - l = d + 1 := ⟨m - l - 1, by omega⟩
    rw [kr_cons, hd, Nat.pow_succ]
    omega
/-- of the greatest lengths there are two -/
theorem Full.two {m : Nat} {rest : List Nat} (h : Full (m :: rest)) (hr : ∀ l ∈ rest, l < m) (hne : rest ≠ []) : False := by
  have e := h.at (m := m) fun l hl => by
    rcases List.mem_cons.mp hl with rfl | hl
    · exact Nat.le_refl _
    · exact Nat.le_of_lt (hr l hl)
  rw [kr_cons, Nat.sub_self, Nat.pow_zero] at e
  have ev := kr_even hr
  cases rest with
  | nil => exact hne rfl
  | cons l r =>
    have hl := hr l List.mem_cons_self
    obtain ⟨d, rfl⟩ : ∃ d, m = d + 1 := ⟨m - 1, by omega⟩
    rw [Nat.pow_succ] at e
    omega
theorem Full.one {l : Nat} (h : Full [l]) : l = 0 := by
  have e := h.at (m := l) fun x hx => by rw [List.mem_singleton.mp hx]; exact Nat.le_refl _
  rw [kr_cons, Nat.sub_self] at e
  cases l with
  | zero => rfl
  | succ d =>
    have e2 : 1 + 0 = 2 ^ (d + 1) := e
    rw [Nat.pow_succ] at e2
    have := Nat.two_pow_pos d
    omega
theorem Full.zero {m : Nat} {ls : List Nat} (h : Full ls) (hm : ∀ l ∈ ls, l ≤ m) (h2 : 2 ≤ ls.length) : 1 ≤ m := by
  cases m with
  | succ d => omega
  | zero =>
    have e := h.at hm
    match ls, h2 with
    | a :: b :: r, _ =>
      rw [kr_cons, kr_cons] at e
      have e0 : (0 : Nat) - a = 0 := Nat.zero_sub a
      have e1 : (0 : Nat) - b = 0 := Nat.zero_sub b
      rw [e0, e1] at e
      have e2 : 1 + (1 + kr 0 r) = 1 := e
      omega
/-- two of the greatest become one less -/
theorem Full.join {m : Nat} {rest : List Nat} (h : Full (m :: m :: rest)) (hm : 1 ≤ m) (hr : ∀ l ∈ rest, l ≤ m) : Full ((m - 1) :: rest) := by
  have e := h.at (m := m) fun l hl => by
    rcases List.mem_cons.mp hl with rfl | hl
    · exact Nat.le_refl _
    · rcases List.mem_cons.mp hl with rfl | hl
      · exact Nat.le_refl _
      · exact hr l hl
  refine ⟨m, fun l hl => ?_, ?_⟩
  · rcases List.mem_cons.mp hl with rfl | hl
    · omega
    · exact hr l hl
  · rw [kr_cons, kr_cons, Nat.sub_self] at e
    rw [kr_cons, show m - (m - 1) = 1 by omega]
    have e2 : 1 + (1 + kr m rest) = 2 ^ m := e
    omega
/-- one is parted -/
theorem Full.part {l : Nat} {rest : List Nat} (h : Full (l :: rest)) : Full ((l + 1) :: (l + 1) :: rest) := by
  obtain ⟨L, h1, h2⟩ := h
  have hl := h1 l List.mem_cons_self
  refine ⟨L + 1, fun x hx => ?_, ?_⟩
  · rcases List.mem_cons.mp hx with rfl | hx
    · omega
    · rcases List.mem_cons.mp hx with rfl | hx
      · omega
      · have := h1 x (List.mem_cons_of_mem _ hx)
        omega
  · rw [kr_cons] at h2
    rw [kr_cons, kr_cons, kr_up fun x hx => h1 x (List.mem_cons_of_mem _ hx), show L + 1 - (l + 1) = L - l by omega, Nat.pow_one, Nat.pow_succ 2 L]
    omega

/-! ### costs -/
def cst (P : List (Int × Nat)) : Int := (P.map fun p => p.1 * (p.2 : Int)).sum
theorem cst_cons (p : Int × Nat) (P : List (Int × Nat)) : cst (p :: P) = p.1 * (p.2 : Int) + cst P := by
  unfold cst
  rw [List.map_cons, List.sum_cons]
theorem sum_perm {a b : List Int} (p : a.Perm b) : a.sum = b.sum := by
  induction p with
  | nil => rfl
  | cons x _ ih => rw [List.sum_cons, List.sum_cons, ih]
  | swap x y l =>
    rw [List.sum_cons, List.sum_cons, List.sum_cons, List.sum_cons]
    omega
  | trans _ _ h1 h2 => exact h1.trans h2
theorem cst_perm {a b : List (Int × Nat)} (p : a.Perm b) : cst a = cst b := sum_perm (p.map _)
theorem perm_take {α β : Type} [DecidableEq α] {f : α → β} {P : List α} {a : β} {l : List β} (p : (P.map f).Perm (a :: l)) : ∃ x Q, P.Perm (x :: Q) ∧ f x = a ∧ (Q.map f).Perm l := by
  have hm : a ∈ P.map f := p.mem_iff.mpr List.mem_cons_self
  obtain ⟨x, hx, e⟩ := List.mem_map.mp hm
  have q := List.perm_cons_erase hx
  refine ⟨x, P.erase x, q, e, ?_⟩
  have r := ((q.map f).symm.trans p)
  rw [List.map_cons, e] at r
  exact List.Perm.cons_inv r
theorem swap_le {a c : Int} {l m : Nat} (h : a ≤ c) (hl : l ≤ m) : a * (m : Int) + c * (l : Int) ≤ a * (l : Int) + c * (m : Int) := by
  obtain ⟨d, rfl⟩ : ∃ d : Nat, c = a + d := ⟨(c - a).toNat, by omega⟩
  obtain ⟨e, rfl⟩ := Nat.exists_eq_add_of_le hl
  have h0 : (0 : Int) ≤ (d : Int) * (e : Int) := Int.mul_nonneg (Int.natCast_nonneg _) (Int.natCast_nonneg _)
  push_cast
  rw [Int.mul_add, Int.add_mul, Int.add_mul, Int.mul_add, Int.mul_add]
  omega
theorem max_at : ∀ (l : List Nat), l ≠ [] → ∃ m ∈ l, ∀ x ∈ l, x ≤ m
  | [], h => absurd rfl h
  | [a], _ => ⟨a, by simp, fun x hx => by rw [List.mem_singleton.mp hx]; exact Nat.le_refl _⟩
  | a :: b :: r, _ => by
    obtain ⟨m, h1, h2⟩ := max_at (b :: r) (by simp)
    rcases Nat.le_total a m with h | h
    · exact ⟨m, List.mem_cons_of_mem _ h1, fun x hx => by
        rcases List.mem_cons.mp hx with rfl | hx
        · exact h
        · exact h2 x hx⟩
    · exact ⟨a, List.mem_cons_self, fun x hx => by
        rcases List.mem_cons.mp hx with rfl | hx
        · exact Nat.le_refl _
        · exact Nat.le_trans (h2 x hx) h⟩
/-- the two least get the greatest length, at no more cost -/
theorem two_top {a b : Int} {la lb m : Nat} {Q : List (Int × Nat)} (hab : a ≤ b) (hb : ∀ p ∈ Q, b ≤ p.1) (hf : Full (la :: lb :: Q.map (·.2))) (hm : m ∈ la :: lb :: Q.map (·.2)) (hx : ∀ x ∈ la :: lb :: Q.map (·.2), x ≤ m) :
    ∃ Q' : List (Int × Nat), (Q'.map (·.1)).Perm (Q.map (·.1)) ∧ (m :: m :: Q'.map (·.2)).Perm (la :: lb :: Q.map (·.2)) ∧ cst ((a, m) :: (b, m) :: Q') ≤ cst ((a, la) :: (b, lb) :: Q) := by
  have hla := hx la List.mem_cons_self
  have hlb := hx lb (List.mem_cons_of_mem _ List.mem_cons_self)
  have hq : ∀ x ∈ Q.map (·.2), x ≤ m := fun x h => hx x (List.mem_cons_of_mem _ (List.mem_cons_of_mem _ h))
  have pick : ∀ R : List (Int × Nat), m ∈ R.map (·.2) → ∃ c R1, R.Perm ((c, m) :: R1) := fun R h => by
    obtain ⟨p, hp, e⟩ := List.mem_map.mp h
    exact ⟨p.1, R.erase p, by
      have q := List.perm_cons_erase hp
      rw [show p = (p.1, m) from Prod.ext rfl e] at q ⊢
      exact q⟩
  by_cases ea : la = m
  · by_cases eb : lb = m
    · subst ea
      rw [eb]
      exact ⟨Q, .refl _, .refl _, Int.le_refl _⟩
    · -- lb < m
      have lt : lb < m := by omega
      by_cases hin : m ∈ Q.map (·.2)
      · obtain ⟨c, R, p⟩ := pick Q hin
        have hc : b ≤ c := hb (c, m) (p.mem_iff.mpr List.mem_cons_self)
        refine ⟨(c, lb) :: R, (by rw [List.map_cons]; exact (p.map (fun x : Int × Nat => x.1)).symm), ?_, ?_⟩
        · rw [ea, List.map_cons]
          refine List.Perm.cons m ?_
          exact (List.Perm.swap lb m _).trans (((p.map (fun x : Int × Nat => x.2)).symm).cons lb)
        · rw [cst_cons, cst_cons, cst_cons, cst_cons, cst_cons, cst_perm p, cst_cons, ea]
          have := swap_le hc (Nat.le_of_lt lt)
          simp only
          omega
      · exfalso
        rw [ea] at hf
        refine Full.two hf (fun l hl => ?_) (by simp)
        rcases List.mem_cons.mp hl with rfl | hl
        · exact lt
        · have h1 := hq l hl
          have h2 : l ≠ m := fun e => hin (e ▸ hl)
          omega
  · have lt : la < m := by omega
    by_cases eb : lb = m
    · by_cases hin : m ∈ Q.map (·.2)
      · obtain ⟨c, R, p⟩ := pick Q hin
        have hc : a ≤ c := Int.le_trans hab (hb (c, m) (p.mem_iff.mpr List.mem_cons_self))
        refine ⟨(c, la) :: R, (by rw [List.map_cons]; exact (p.map (fun x : Int × Nat => x.1)).symm), ?_, ?_⟩
        · rw [eb, List.map_cons]
          refine List.Perm.trans ?_ (List.Perm.swap la m _).symm.symm
          refine List.Perm.cons m ?_
          exact (List.Perm.swap la m _).trans (((p.map (fun x : Int × Nat => x.2)).symm).cons la)
        · rw [cst_cons, cst_cons, cst_cons, cst_cons, cst_cons, cst_perm p, cst_cons, eb]
          have := swap_le hc (Nat.le_of_lt lt)
          simp only
          omega
      · exfalso
        have hf2 : Full (m :: la :: Q.map (·.2)) := hf.perm (by rw [eb]; exact List.Perm.swap _ _ _)
        refine Full.two hf2 (fun l hl => ?_) (by simp)
        rcases List.mem_cons.mp hl with rfl | hl
        · exact lt
        · have h1 := hq l hl
          have h2 : l ≠ m := fun e => hin (e ▸ hl)
          omega
    · have ltb : lb < m := by omega
      have hin : m ∈ Q.map (·.2) := by
        rcases List.mem_cons.mp hm with e | h
        · omega
        · rcases List.mem_cons.mp h with e | h
          · omega
          · exact h
      obtain ⟨c, R, p⟩ := pick Q hin
      by_cases hin2 : m ∈ R.map (·.2)
      · obtain ⟨d, S, q⟩ := pick R hin2
        have hc : a ≤ c := Int.le_trans hab (hb (c, m) (p.mem_iff.mpr List.mem_cons_self))
        have hd : b ≤ d := hb (d, m) (p.mem_iff.mpr (List.mem_cons_of_mem _ (q.mem_iff.mpr List.mem_cons_self)))
        have pq : Q.Perm ((c, m) :: (d, m) :: S) := p.trans (q.cons _)
        refine ⟨(c, la) :: (d, lb) :: S, (by rw [List.map_cons, List.map_cons]; exact (pq.map (fun x : Int × Nat => x.1)).symm), ?_, ?_⟩
        · rw [List.map_cons, List.map_cons]
          have r : (la :: lb :: Q.map (·.2)).Perm (la :: lb :: m :: m :: S.map (·.2)) := ((pq.map (fun x : Int × Nat => x.2)).cons lb).cons la
          refine List.Perm.trans ?_ r.symm
          exact (List.perm_append_comm (l₁ := [m, m]) (l₂ := [la, lb])).append_right (S.map (fun x : Int × Nat => x.2))
        · rw [cst_cons, cst_cons, cst_cons, cst_cons, cst_cons, cst_cons, cst_perm pq, cst_cons, cst_cons]
          have h1 := swap_le hc (Nat.le_of_lt lt)
          have h2 := swap_le hd (Nat.le_of_lt ltb)
          simp only
          omega
      · exfalso
        have hf2 : Full (m :: la :: lb :: R.map (·.2)) := hf.perm (by
          have r : (la :: lb :: Q.map (·.2)).Perm (la :: lb :: m :: R.map (·.2)) := ((p.map (fun x : Int × Nat => x.2)).cons lb).cons la
          exact r.trans ((List.perm_append_comm (l₁ := [la, lb]) (l₂ := [m])).append_right (R.map (fun x : Int × Nat => x.2))))
        refine Full.two hf2 (fun l hl => ?_) (by simp)
        rcases List.mem_cons.mp hl with rfl | hl
        · exact lt
        · rcases List.mem_cons.mp hl with rfl | hl
          · exact ltb
          · have h1 : l ≤ m := hq l ((p.map (fun x : Int × Nat => x.2)).mem_iff.mpr (List.mem_cons_of_mem _ hl))
            have h2 : l ≠ m := fun e => hin2 (e ▸ hl)
            omega
theorem merge_step {a b : Int} {R : List Int} {P : List (Int × Nat)} (hp : (P.map (·.1)).Perm (a :: b :: R)) (hab : a ≤ b) (hb : ∀ r ∈ R, b ≤ r) (hf : Full (P.map (·.2))) :
    ∃ P' : List (Int × Nat), (P'.map (·.1)).Perm ((a + b) :: R) ∧ Full (P'.map (·.2)) ∧ a + b + cst P' ≤ cst P := by
  obtain ⟨⟨a', la⟩, P1, p1, e1, q1⟩ := perm_take hp
  obtain ⟨⟨b', lb⟩, Q, p2, e2, q2⟩ := perm_take q1
  simp only at e1 e2
  subst e1 e2
  have pp : P.Perm ((a', la) :: (b', lb) :: Q) := p1.trans (p2.cons _)
  have hf2 : Full (la :: lb :: Q.map (·.2)) := hf.perm (pp.map (fun x : Int × Nat => x.2))
  obtain ⟨m, hm, hx⟩ := max_at (la :: lb :: Q.map (·.2)) (by simp)
  have hbQ : ∀ p ∈ Q, b' ≤ p.1 := fun p h => hb p.1 (q2.mem_iff.mp (List.mem_map_of_mem h))
  obtain ⟨Q', r1, r2, r3⟩ := two_top hab hbQ hf2 hm hx
  have hm1 : 1 ≤ m := hf2.zero hx (by simp)
  refine ⟨(a' + b', m - 1) :: Q', ?_, ?_, ?_⟩
  · rw [List.map_cons]
    exact (r1.trans q2).cons _
  · rw [List.map_cons]
    refine Full.join (hf2.perm r2.symm) hm1 fun l hl => hx l (r2.mem_iff.mp (List.mem_cons_of_mem _ (List.mem_cons_of_mem _ hl)))
  · rw [cst_perm pp]
    refine Int.le_trans ?_ r3
    rw [cst_cons, cst_cons, cst_cons]
    simp only
    have e : ((m - 1 : Nat) : Int) = (m : Int) - 1 := by omega
    rw [e, Int.mul_sub, Int.add_mul, Int.mul_one]
    omega
end WV
end
section
set_option maxRecDepth 100000
set_option maxHeartbeats 4000000
namespace WV
/-! ### joining the two least, again and again -/
abbrev Stp := Int × Int × Int
inductive Run (n : Int) : Nat → List (Int × Int) → List Stp → Prop
  | done {k : Nat} (w r : Int) : Run n k [(w, r)] []
  | step {k : Nat} {pool R : List (Int × Int)} {a b x y : Int} {rest : List Stp} : pool.Perm ((a, x) :: (b, y) :: R) → a ≤ b → (∀ r ∈ R, b ≤ r.1) → Run n (k + 1) ((a + b, n + k) :: R) rest → Run n k pool ((x, y, a + b) :: rest)
def wsum (l : List Stp) : Int := (l.map fun s => s.2.2).sum
theorem wsum_cons (s : Stp) (l : List Stp) : wsum (s :: l) = s.2.2 + wsum l := by
  unfold wsum
  rw [List.map_cons, List.sum_cons]
/-- no full lengths cost less -/
theorem Run.low {n : Int} : ∀ {k : Nat} {pool : List (Int × Int)} {l : List Stp}, Run n k pool l → ∀ P : List (Int × Nat), (P.map (fun x : Int × Nat => x.1)).Perm (pool.map (fun x : Int × Int => x.1)) → Full (P.map (fun x : Int × Nat => x.2)) → wsum l ≤ cst P
  | _, _, _, .done w r, P, hp, hf => by
    have hl : P.length = 1 := by
      have := hp.length_eq
      simpa using this
    match P, hl with
    | [(c, x)], _ =>
      have e : x = 0 := hf.one
      subst e
      simp [wsum, cst]
  | _, _, _, .step (a := a) (b := b) (R := R) p hab hb h, P, hp, hf => by
    have p2 : (P.map (fun x : Int × Nat => x.1)).Perm (a :: b :: R.map (fun x : Int × Int => x.1)) := hp.trans (p.map (fun x : Int × Int => x.1))
    obtain ⟨P', q1, q2, q3⟩ := merge_step p2 hab (fun r hr => by
      obtain ⟨z, hz, rfl⟩ := List.mem_map.mp hr
      exact hb z hz) hf
    have := h.low P' q1 q2
    rw [wsum_cons]
    simp only
    omega
/-- heights of the nodes, told from the last step -/
def hts (n : Int) : Nat → List Stp → Int → Nat
  | _, [], _ => 0
  | k, s :: rest, z => if z = s.1 ∨ z = s.2.1 then hts n (k + 1) rest (n + k) + 1 else hts n (k + 1) rest z
theorem Run.up {n : Int} : ∀ {k : Nat} {pool : List (Int × Int)} {l : List Stp}, Run n k pool l → (pool.map (fun x : Int × Int => x.2)).Nodup → (∀ p ∈ pool, p.2 < n + k) →
    Full ((pool.map fun p => (p.1, hts n k l p.2)).map (fun x : Int × Nat => x.2)) ∧ cst (pool.map fun p => (p.1, hts n k l p.2)) = wsum l ∧ (∀ p ∈ pool, hts n k l p.2 ≤ l.length ∧ (l ≠ [] → 1 ≤ hts n k l p.2)) ∧ pool.length = l.length + 1
  | _, _, _, .done w r, _, _ => by
    refine ⟨⟨0, fun l hl => ?_, ?_⟩, ?_, fun p _ => ⟨Nat.le_refl _, fun h => absurd rfl h⟩, rfl⟩
    · have e : l = 0 := by simpa [hts] using hl
      omega
    · simp [hts, kr]
    · simp [hts, cst, wsum]
  | k, pool, _, .step (a := a) (b := b) (x := x) (y := y) (R := R) (rest := rest) p hab hb h, nd, lt => by
    have nd2 : (x :: y :: R.map (fun x : Int × Int => x.2)).Nodup := (p.map (fun x : Int × Int => x.2)).nodup_iff.mp nd
    obtain ⟨nx, nd3⟩ := List.nodup_cons.mp nd2
    obtain ⟨ny, nd4⟩ := List.nodup_cons.mp nd3
    have ltR : ∀ q ∈ R, q.2 < n + k := fun q hq => lt q (p.mem_iff.mpr (List.mem_cons_of_mem _ (List.mem_cons_of_mem _ hq)))
    have nd5 : (((a + b, n + (k : Int)) :: R).map (fun x : Int × Int => x.2)).Nodup := by
      rw [List.map_cons]
      refine List.nodup_cons.mpr ⟨fun hm => ?_, nd4⟩
      obtain ⟨q, hq, e⟩ := List.mem_map.mp hm
      have := ltR q hq
      simp only at e
      omega
    obtain ⟨u1, u2, u3, u4⟩ := h.up nd5 fun q hq => by
      rcases List.mem_cons.mp hq with rfl | hq
      · show n + (k : Int) < n + ((k + 1 : Nat) : Int)
        omega
      · have := ltR q hq
        show q.2 < n + ((k + 1 : Nat) : Int)
        omega
    have eR : R.map (fun q => (q.1, hts n k ((x, y, a + b) :: rest) q.2)) = R.map fun q => (q.1, hts n (k + 1) rest q.2) := by
      refine List.map_congr_left fun q hq => ?_
      have hx : q.2 ≠ x := fun e => nx (List.mem_cons_of_mem _ (List.mem_map.mpr ⟨q, hq, e⟩))
      have hy : q.2 ≠ y := fun e => ny (List.mem_map.mpr ⟨q, hq, e⟩)
      show (q.1, if q.2 = x ∨ q.2 = y then _ else _) = _
      rw [if_neg (fun z => z.elim hx hy)]
    have ex : hts n k ((x, y, a + b) :: rest) x = hts n (k + 1) rest (n + k) + 1 := if_pos (.inl rfl)
    have ey : hts n k ((x, y, a + b) :: rest) y = hts n (k + 1) rest (n + k) + 1 := if_pos (.inr rfl)
    have pm : (pool.map fun p => (p.1, hts n k ((x, y, a + b) :: rest) p.2)).Perm ((a, hts n (k + 1) rest (n + k) + 1) :: (b, hts n (k + 1) rest (n + k) + 1) :: R.map fun q => (q.1, hts n (k + 1) rest q.2)) := by
      have q := p.map fun p => (p.1, hts n k ((x, y, a + b) :: rest) p.2)
      rw [List.map_cons, List.map_cons, eR] at q
      simp only [ex, ey] at q
      exact q
    refine ⟨?_, ?_, fun q hq => ?_, ?_⟩
    · refine Full.perm (pm.map (fun x : Int × Nat => x.2)).symm ?_
      rw [List.map_cons, List.map_cons]
      rw [List.map_cons, List.map_cons] at u1
      exact u1.part
    · rw [cst_perm pm, cst_cons, cst_cons, wsum_cons, ← u2, List.map_cons, cst_cons]
      simp only
      push_cast
      rw [Int.mul_add, Int.mul_add, Int.add_mul, Int.mul_one, Int.mul_one]
      omega
    · have hl : ((x, y, a + b) :: rest).length = rest.length + 1 := rfl
      by_cases c : q.2 = x ∨ q.2 = y
      · have e : hts n k ((x, y, a + b) :: rest) q.2 = hts n (k + 1) rest (n + k) + 1 := if_pos c
        have := (u3 _ List.mem_cons_self).1
        rw [e, hl]
        simp only at this
        exact ⟨by omega, fun _ => by omega⟩
      · have e : hts n k ((x, y, a + b) :: rest) q.2 = hts n (k + 1) rest q.2 := if_neg c
        have hR : q ∈ R := by
          rcases List.mem_cons.mp (p.mem_iff.mp hq) with e | h
          · exact absurd (.inl (by rw [e])) c
          · rcases List.mem_cons.mp h with e | h
            · exact absurd (.inr (by rw [e])) c
            · exact h
        obtain ⟨v1, v2⟩ := u3 q (List.mem_cons_of_mem _ hR)
        rw [e, hl]
        refine ⟨by omega, fun _ => v2 fun e0 => ?_⟩
        subst e0
        rw [List.length_nil] at u4
        have : R.length = 0 := by simpa using u4
        rw [List.length_eq_zero_iff.mp this] at hR
        cases hR
    · rw [p.length_eq]
      show R.length + 1 + 1 = rest.length + 1 + 1
      have : R.length + 1 = rest.length + 1 := u4
      omega

/-! ### by two queues -/
/-- the next least node: (its node, its weight), and where the queues stand behind it -/
def pk (n : Nat) (S : List (Int × Int)) (M : List Stp) (c : Nat × Nat) : (Int × Int) × Nat × Nat :=
  if c.1 < S.length ∧ (c.2 = M.length ∨ (S.getD c.1 (0, 0)).1 ≤ (M.getD c.2 (0, 0, 0)).2.2) then (((S.getD c.1 (0, 0)).2, (S.getD c.1 (0, 0)).1), c.1 + 1, c.2)
  else (((n : Int) + c.2, (M.getD c.2 (0, 0, 0)).2.2), c.1, c.2 + 1)
def jstep (n : Nat) (S : List (Int × Int)) (st : List Stp × Nat × Nat) : List Stp × Nat × Nat :=
  (st.1 ++ [((pk n S st.1 st.2).1.1, (pk n S st.1 (pk n S st.1 st.2).2).1.1, (pk n S st.1 st.2).1.2 + (pk n S st.1 (pk n S st.1 st.2).2).1.2)], (pk n S st.1 (pk n S st.1 st.2).2).2)
def jrun (n : Nat) (S : List (Int × Int)) : Nat → List Stp × Nat × Nat
  | 0 => ([], 0, 0)
  | k + 1 => jstep n S (jrun n S k)
def prs (ns : List Int) : List (Int × Int) := ns.mapIdx fun i c => (c, (i : Int))
def jp (ns : List Int) : List Stp := (jrun ns.length (isort (prs ns)) (ns.length - 1)).1
def lo (ns : List Int) : Int := wsum (jp ns)
def hg (ns : List Int) : List Nat := (List.range ns.length).map fun i : Nat => hts (ns.length : Int) 0 (jp ns) (i : Int)
/-- the made nodes, as (weight, node) -/
def mq (n : Nat) (M : List Stp) : List (Int × Int) := M.mapIdx fun i s => (s.2.2, (n : Int) + i)
theorem mq_len (n : Nat) (M : List Stp) : (mq n M).length = M.length := List.length_mapIdx
theorem mq_snoc (n : Nat) (M : List Stp) (s : Stp) : mq n (M ++ [s]) = mq n M ++ [(s.2.2, (n : Int) + M.length)] := by
  unfold mq
  rw [List.mapIdx_concat]
theorem mq_get {n : Nat} {M : List Stp} {i : Nat} (h : i < M.length) : (mq n M)[i]'(by rw [mq_len]; exact h) = (M[i].2.2, (n : Int) + i) := by
  unfold mq
  rw [List.getElem_mapIdx]
structure Q2 (n : Nat) (S : List (Int × Int)) (M : List Stp) (c : Nat × Nat) (B : Int) : Prop where
  le1 : c.1 ≤ S.length
  le2 : c.2 ≤ M.length
  srt : S.Pairwise fun a b => a.1 ≤ b.1
  mrt : (mq n M).Pairwise fun a b => a.1 ≤ b.1
  low : ∀ p ∈ S.drop c.1 ++ (mq n M).drop c.2, B ≤ p.1
def pool (n : Nat) (S : List (Int × Int)) (M : List Stp) (c : Nat × Nat) : List (Int × Int) := S.drop c.1 ++ (mq n M).drop c.2
theorem pk_ok {n : Nat} {S : List (Int × Int)} {M : List Stp} {c : Nat × Nat} {B : Int} (q : Q2 n S M c B) (hne : pool n S M c ≠ []) :
    (pool n S M c).Perm (((pk n S M c).1.2, (pk n S M c).1.1) :: pool n S M (pk n S M c).2) ∧ Q2 n S M (pk n S M c).2 (pk n S M c).1.2 ∧ B ≤ (pk n S M c).1.2 := by
  obtain ⟨i, j⟩ := c
  have l1 : i ≤ S.length := q.le1
  have l2 : j ≤ M.length := q.le2
  have hm : (mq n M).length = M.length := mq_len n M
  by_cases hc : i < S.length ∧ (j = M.length ∨ (S.getD i (0, 0)).1 ≤ (M.getD j (0, 0, 0)).2.2)
  · have e : pk n S M (i, j) = (((S.getD i (0, 0)).2, (S.getD i (0, 0)).1), i + 1, j) := if_pos hc
    obtain ⟨h1, h2⟩ := hc
    have eg : S.getD i (0, 0) = S[i] := by
      rw [List.getD_eq_getElem?_getD, List.getElem?_eq_getElem h1]
      rfl
    rw [eg] at e h2
    have ed : S.drop i = S[i] :: S.drop (i + 1) := List.drop_eq_getElem_cons h1
    have pm : (pool n S M (i, j)).Perm ((S[i].1, S[i].2) :: pool n S M (i + 1, j)) := by
      unfold pool
      rw [ed]
      exact .refl _
    rw [e]
    have inP : S[i] ∈ S.drop i ++ (mq n M).drop j := List.mem_append_left _ (by rw [ed]; exact List.mem_cons_self)
    refine ⟨pm, ⟨h1, l2, q.srt, q.mrt, fun p hp => ?_⟩, q.low _ inP⟩
    rcases List.mem_append.mp hp with hp | hp
    · have s2 : (S.drop i).Pairwise fun a b => a.1 ≤ b.1 := q.srt.drop
      rw [ed] at s2
      exact (List.pairwise_cons.mp s2).1 p hp
    · rcases h2 with h2 | h2
      · have hp' : p ∈ (mq n M).drop j := hp
        rw [List.drop_of_length_le (by omega)] at hp'
        cases hp'
      · have hj : j < M.length := by
          have hp' : p ∈ (mq n M).drop j := hp
          rcases Nat.lt_or_ge j M.length with h | h
          · exact h
          · rw [List.drop_of_length_le (by omega)] at hp'
            cases hp'
        have eM : M.getD j (0, 0, 0) = M[j] := by
          rw [List.getD_eq_getElem?_getD, List.getElem?_eq_getElem hj]
          rfl
        rw [eM] at h2
        have m2 : ((mq n M).drop j).Pairwise fun a b => a.1 ≤ b.1 := q.mrt.drop
        have ed2 : (mq n M).drop j = (M[j].2.2, (n : Int) + j) :: (mq n M).drop (j + 1) := by
          rw [List.drop_eq_getElem_cons (by omega), mq_get hj]
        rw [ed2] at m2
        have hp' : p ∈ (mq n M).drop j := hp
        rw [ed2] at hp'
        rcases List.mem_cons.mp hp' with rfl | hp'
        · exact h2
        · exact Int.le_trans h2 ((List.pairwise_cons.mp m2).1 p hp')
  · have e : pk n S M (i, j) = (((n : Int) + j, (M.getD j (0, 0, 0)).2.2), i, j + 1) := if_neg hc
    have hj : j < M.length := by
      rcases Nat.lt_or_ge j M.length with h | h
      · exact h
      · exfalso
        have ej : j = M.length := by omega
        have hi : ¬ i < S.length := fun h => hc ⟨h, .inl ej⟩
        refine hne ?_
        unfold pool
        rw [List.drop_of_length_le (by show S.length ≤ i; omega), List.drop_of_length_le (by show (mq n M).length ≤ j; omega)]
        rfl
    have eM : M.getD j (0, 0, 0) = M[j] := by
      rw [List.getD_eq_getElem?_getD, List.getElem?_eq_getElem hj]
      rfl
    have ed2 : (mq n M).drop j = (M[j].2.2, (n : Int) + j) :: (mq n M).drop (j + 1) := by
      rw [List.drop_eq_getElem_cons (by omega), mq_get hj]
    rw [eM] at e
    rw [e]
    have inP : (M[j].2.2, (n : Int) + (j : Int)) ∈ S.drop i ++ (mq n M).drop j := List.mem_append_right _ (by rw [ed2]; exact List.mem_cons_self)
    refine ⟨?_, ⟨l1, hj, q.srt, q.mrt, fun p hp => ?_⟩, q.low _ inP⟩
    · show (S.drop i ++ (mq n M).drop j).Perm ((M[j].2.2, (n : Int) + j) :: (S.drop i ++ (mq n M).drop (j + 1)))
      rw [ed2]
      exact List.perm_middle
    · rcases List.mem_append.mp hp with hp | hp
      · have hp' : p ∈ S.drop i := hp
        have hi : i < S.length := by
          rcases Nat.lt_or_ge i S.length with h | h
          · exact h
          · rw [List.drop_of_length_le h] at hp'
            cases hp'
        have eg : S.getD i (0, 0) = S[i] := by
          rw [List.getD_eq_getElem?_getD, List.getElem?_eq_getElem hi]
          rfl
        have h2 : ¬ S[i].1 ≤ M[j].2.2 := fun h => hc ⟨hi, .inr (by rw [eg, eM]; exact h)⟩
        have ed : S.drop i = S[i] :: S.drop (i + 1) := List.drop_eq_getElem_cons hi
        have s2 : (S.drop i).Pairwise fun a b => a.1 ≤ b.1 := q.srt.drop
        rw [ed] at s2 hp'
        rcases List.mem_cons.mp hp' with rfl | hp'
        · show M[j].2.2 ≤ S[i].1
          omega
        · have := (List.pairwise_cons.mp s2).1 p hp'
          show M[j].2.2 ≤ p.1
          omega
      · have m2 : ((mq n M).drop j).Pairwise fun a b => a.1 ≤ b.1 := q.mrt.drop
        rw [ed2] at m2
        exact (List.pairwise_cons.mp m2).1 p hp
/-- where the joining stands behind k steps -/
structure Jo (n : Nat) (S : List (Int × Int)) (st : List Stp × Nat × Nat) (k : Nat) : Prop where
  ex : ∃ B, 0 ≤ B ∧ Q2 n S st.1 st.2 B ∧ ∀ p ∈ mq n st.1, p.1 ≤ 2 * B
  len : st.1.length = k
  many : (pool n S st.1 st.2).length + k = n
theorem jstep_ok {n : Nat} {S : List (Int × Int)} {st : List Stp × Nat × Nat} {k : Nat} (J : Jo n S st k) (hk : k + 2 ≤ n) :
    ∃ a b x y R, (pool n S st.1 st.2).Perm ((a, x) :: (b, y) :: R) ∧ a ≤ b ∧ (∀ r ∈ R, b ≤ r.1) ∧ (jstep n S st).1 = st.1 ++ [(x, y, a + b)] ∧ (pool n S (jstep n S st).1 (jstep n S st).2).Perm ((a + b, (n : Int) + k) :: R) ∧ Jo n S (jstep n S st) (k + 1) := by
  obtain ⟨B, hB, q, h2B⟩ := J.ex
  have hl := J.len
  have hm := J.many
  obtain ⟨M, c⟩ := st
  simp only at q h2B hl hm
  have ne1 : pool n S M c ≠ [] := fun e => by
    rw [e] at hm
    simp at hm
    omega
  obtain ⟨p1, q1, b1⟩ := pk_ok q ne1
  have len1 := p1.length_eq
  rw [List.length_cons] at len1
  have ne2 : pool n S M (pk n S M c).2 ≠ [] := fun e => by
    rw [e] at len1
    simp at len1
    omega
  obtain ⟨p2, q2, b2⟩ := pk_ok q1 ne2
  have len2 := p2.length_eq
  rw [List.length_cons] at len2
  have es : jstep n S (M, c) = (M ++ [((pk n S M c).1.1, (pk n S M (pk n S M c).2).1.1, (pk n S M c).1.2 + (pk n S M (pk n S M c).2).1.2)], (pk n S M (pk n S M c).2).2) := rfl
  have esn : mq n (jstep n S (M, c)).1 = mq n M ++ [((pk n S M c).1.2 + (pk n S M (pk n S M c).2).1.2, (n : Int) + k)] := by
    rw [es, mq_snoc, hl]
  have ep : pool n S (jstep n S (M, c)).1 (jstep n S (M, c)).2 = pool n S M (pk n S M (pk n S M c).2).2 ++ [((pk n S M c).1.2 + (pk n S M (pk n S M c).2).1.2, (n : Int) + k)] := by
    unfold pool
    rw [esn, List.drop_append_of_le_length (by rw [mq_len]; exact q2.le2), ← List.append_assoc]
    rfl
  refine ⟨(pk n S M c).1.2, (pk n S M (pk n S M c).2).1.2, (pk n S M c).1.1, (pk n S M (pk n S M c).2).1.1, pool n S M (pk n S M (pk n S M c).2).2, p1.trans (p2.cons _), b2, q2.low, rfl, ?_, ?_⟩
  · rw [ep]
    exact List.perm_append_singleton _ _
  · refine ⟨⟨(pk n S M (pk n S M c).2).1.2, by omega, ⟨q2.le1, ?_, q2.srt, ?_, ?_⟩, ?_⟩, ?_, ?_⟩
    · rw [es]
      simp only [List.length_append]
      have := q2.le2
      omega
    · rw [esn]
      refine List.pairwise_append.mpr ⟨q2.mrt, List.pairwise_singleton _ _, fun u hu v hv => ?_⟩
      rw [List.mem_singleton.mp hv]
      have := h2B u hu
      simp only
      omega
    · intro p hp
      have hp' : p ∈ pool n S (jstep n S (M, c)).1 (jstep n S (M, c)).2 := hp
      rw [ep] at hp'
      rcases List.mem_append.mp hp' with h | h
      · exact q2.low p h
      · rw [List.mem_singleton.mp h]
        simp only
        omega
    · intro p hp
      rw [esn] at hp
      rcases List.mem_append.mp hp with h | h
      · have := h2B p h
        omega
      · rw [List.mem_singleton.mp h]
        simp only
        omega
    · rw [es]
      simp only [List.length_append, List.length_singleton, hl]
    · rw [ep, List.length_append, List.length_singleton]
      omega
theorem jrun_app (n : Nat) (S : List (Int × Int)) : ∀ m k, ∃ l, (jrun n S (k + m)).1 = (jrun n S k).1 ++ l ∧ l.length = m
  | 0, k => ⟨[], by simp, rfl⟩
  | m + 1, k => by
    obtain ⟨l, h1, h2⟩ := jrun_app n S m k
    refine ⟨l ++ [((pk n S (jrun n S (k + m)).1 (jrun n S (k + m)).2).1.1, (pk n S (jrun n S (k + m)).1 (pk n S (jrun n S (k + m)).1 (jrun n S (k + m)).2).2).1.1, (pk n S (jrun n S (k + m)).1 (jrun n S (k + m)).2).1.2 + (pk n S (jrun n S (k + m)).1 (pk n S (jrun n S (k + m)).1 (jrun n S (k + m)).2).2).1.2)], ?_, by simp [h2]⟩
    rw [← List.append_assoc, ← h1]
    rfl
theorem jrun_run {n : Nat} {S : List (Int × Int)} : ∀ (m k : Nat), Jo n S (jrun n S k) k → k + m + 1 = n → ∀ l, (jrun n S (k + m)).1 = (jrun n S k).1 ++ l → ∀ pl, pl.Perm (pool n S (jrun n S k).1 (jrun n S k).2) → Run n k pl l
  | 0, k, J, hn, l, hl, pl, hp => by
    have e : l = [] := by
      have q : (jrun n S k).1 = (jrun n S k).1 ++ l := hl
      exact List.self_eq_append_right.mp q
    subst e
    have h1 := J.many
    have h2 := hp.length_eq
    have h3 : pl.length = 1 := by omega
    match pl, h3 with
    | [(w, r)], _ => exact .done w r
  | m + 1, k, J, hn, l, hl, pl, hp => by
    obtain ⟨a, b, x, y, R, p1, hab, hb, e1, p2, J2⟩ := jstep_ok J (by omega)
    obtain ⟨l2, h2, _⟩ := jrun_app n S m (k + 1)
    have es : (jrun n S (k + 1)).1 = (jrun n S k).1 ++ [(x, y, a + b)] := e1
    have el : l = (x, y, a + b) :: l2 := by
      have q : (jrun n S (k + (m + 1))).1 = (jrun n S (k + 1)).1 ++ l2 := by
        rw [show k + (m + 1) = k + 1 + m by omega]
        exact h2
      rw [hl, es, List.append_assoc] at q
      exact List.append_cancel_left q
    subst el
    exact .step (hp.trans p1) hab hb (jrun_run m (k + 1) J2 (by omega) l2 h2 _ p2.symm)
theorem prs_len (ns : List Int) : (prs ns).length = ns.length := List.length_mapIdx
theorem prs_fst (ns : List Int) : (prs ns).map (fun x : Int × Int => x.1) = ns := by
  refine List.ext_getElem? fun i => ?_
  unfold prs
  rw [List.getElem?_map, List.getElem?_mapIdx, Option.map_map]
  cases ns[i]? <;> rfl
theorem prs_snd (ns : List Int) : (prs ns).map (fun x : Int × Int => x.2) = (List.range ns.length).map (fun i : Nat => (i : Int)) := by
  refine List.ext_getElem? fun i => ?_
  unfold prs
  rw [List.getElem?_map, List.getElem?_mapIdx, List.getElem?_map, Option.map_map]
  by_cases h : i < ns.length
  · rw [List.getElem?_eq_getElem h, List.getElem?_range h]
    rfl
  · rw [List.getElem?_eq_none (by omega), List.getElem?_eq_none (by rw [List.length_range]; omega)]
    rfl
theorem jp_run {ns : List Int} (h2 : 1 ≤ ns.length) (h0 : ∀ c ∈ ns, 0 ≤ c) : Run ns.length 0 (prs ns) (jp ns) := by
  have pS := isort_perm (prs ns)
  have J : Jo ns.length (isort (prs ns)) (jrun ns.length (isort (prs ns)) 0) 0 := by
    refine ⟨⟨0, Int.le_refl _, ⟨Nat.zero_le _, Nat.le_refl _, ?_, List.Pairwise.nil, fun p hp => ?_⟩, fun p hp => by cases hp⟩, rfl, ?_⟩
    · refine (isort_srt (prs ns)).imp fun {a b} h => ?_
      rw [ple_iff] at h
      omega
    · have hp' : p ∈ isort (prs ns) := by
        rcases List.mem_append.mp hp with h | h
        · exact h
        · cases h
      have : p.1 ∈ (prs ns).map (fun x : Int × Int => x.1) := List.mem_map.mpr ⟨p, pS.mem_iff.mp hp', rfl⟩
      rw [prs_fst] at this
      exact h0 _ this
    · show (pool ns.length (isort (prs ns)) [] (0, 0)).length + 0 = ns.length
      show ((isort (prs ns)) ++ []).length = ns.length
      rw [List.append_nil, pS.length_eq, prs_len]
  refine jrun_run (ns.length - 1) 0 J (by omega) _ ?_ _ ?_
  · show (jrun ns.length (isort (prs ns)) (0 + (ns.length - 1))).1 = [] ++ jp ns
    rw [Nat.zero_add]
    rfl
  · show (prs ns).Perm ((isort (prs ns)) ++ [])
    rw [List.append_nil]
    exact pS.symm
/-! ### the least cost -/
def dotN (ns : List Int) (ls : List Nat) : Int := (List.zipWith (fun (c : Int) (l : Nat) => c * (l : Int)) ns ls).sum
theorem dotN_cst : ∀ (ns : List Int) (ls : List Nat), dotN ns ls = cst (ns.zip ls)
  | [], _ => rfl
  | _ :: _, [] => rfl
  | c :: ns, l :: ls => by
    have ih := dotN_cst ns ls
    unfold dotN at ih ⊢
    rw [List.zipWith_cons_cons, List.sum_cons, ih, List.zip_cons_cons, cst_cons]
theorem lo_le {ns : List Int} {ls : List Nat} (h1 : 1 ≤ ns.length) (h0 : ∀ c ∈ ns, 0 ≤ c) (hl : ls.length = ns.length) (hf : Full ls) : lo ns ≤ dotN ns ls := by
  rw [dotN_cst]
  refine (jp_run h1 h0).low (ns.zip ls) ?_ ?_
  · rw [prs_fst, List.map_fst_zip (by omega)]
  · rw [List.map_snd_zip (by omega)]
    exact hf
theorem hg_len (ns : List Int) : (hg ns).length = ns.length := by
  unfold hg
  rw [List.length_map, List.length_range]
theorem zip_hg (ns : List Int) : (prs ns).map (fun p => (p.1, hts (ns.length : Int) 0 (jp ns) p.2)) = ns.zip (hg ns) := by
  refine List.ext_getElem (by rw [List.length_map, prs_len, List.length_zip, hg_len, Nat.min_self]) fun i h1 h2 => ?_
  rw [List.getElem_map, List.getElem_zip]
  unfold prs hg
  rw [List.getElem_mapIdx, List.getElem_map, List.getElem_range]
theorem hg_ok {ns : List Int} (h2 : 2 ≤ ns.length) (h0 : ∀ c ∈ ns, 0 ≤ c) : Full (hg ns) ∧ dotN ns (hg ns) = lo ns ∧ ∀ l ∈ hg ns, 1 ≤ l ∧ l + 1 ≤ ns.length := by
  have R := jp_run (by omega) h0
  obtain ⟨u1, u2, u3, u4⟩ := R.up (by
    rw [prs_snd]
    refine List.pairwise_map.mpr (List.nodup_range.imp fun {a b} h e => h (by omega))) fun p hp => by
      have : p.2 ∈ (prs ns).map (fun x : Int × Int => x.2) := List.mem_map.mpr ⟨p, hp, rfl⟩
      rw [prs_snd] at this
      obtain ⟨i, hi, e⟩ := List.mem_map.mp this
      have := List.mem_range.mp hi
      omega
  rw [zip_hg] at u1 u2
  rw [List.map_snd_zip (by rw [hg_len]; exact Nat.le_refl _)] at u1
  refine ⟨u1, ?_, fun l hl => ?_⟩
  · rw [dotN_cst, u2]
    rfl
  · obtain ⟨i, hi, rfl⟩ := List.mem_map.mp hl
    have hi2 : i < ns.length := List.mem_range.mp hi
    have hp : ((ns[i], (i : Int)) : Int × Int) ∈ prs ns := by
      unfold prs
      exact List.mem_mapIdx.mpr ⟨i, hi2, rfl⟩
    obtain ⟨v1, v2⟩ := u3 _ hp
    rw [prs_len] at u4
    simp only at v1 v2
    refine ⟨v2 fun e => ?_, by omega⟩
    rw [e] at u4
    simp at u4
    omega
end WV
end
section
set_option maxRecDepth 100000
set_option maxHeartbeats 4000000
namespace WV
open PySem PySem.Spec PyProof.Rows L2
/-! ### pairs of ints in a list, and sorted -/
structure PrV (H : Hp) (vs : List V) (ps : List (Int × Int)) : Prop where
  len : vs.length = ps.length
  get : ∀ (i : Nat) x, ps[i]? = some x → ∃ t, vs[i]? = some (.ref t) ∧ H t = some (.tup [.int x.1, .int x.2])
theorem PrV.mono {H H' : Hp} {vs : List V} {ps : List (Int × Int)} (e : Same H H') (h : PrV H vs ps) : PrV H' vs ps :=
  ⟨h.len, fun i x hx => let ⟨t, h1, h2⟩ := h.get i x hx; ⟨t, h1, e _ _ h2⟩⟩
theorem PrV.updL {H : Hp} {vs xs : List V} {ps : List (Int × Int)} {D : Addr} {o : HO} (hD : H D = some (.lst xs)) (h : PrV H vs ps) : PrV (upd H D o) vs ps :=
  ⟨h.len, fun i x hx => by
    obtain ⟨t, h1, h2⟩ := h.get i x hx
    refine ⟨t, h1, ?_⟩
    rw [upd_ne (ne_of h2 hD (by intro z; cases z))]
    exact h2⟩
theorem PrV.updD {H : Hp} {vs : List V} {ps : List (Int × Int)} {D : Addr} {kvs : List (Key × V)} {o : HO} (hD : H D = some (.dK kvs)) (h : PrV H vs ps) : PrV (upd H D o) vs ps :=
  ⟨h.len, fun i x hx => by
    obtain ⟨t, h1, h2⟩ := h.get i x hx
    refine ⟨t, h1, ?_⟩
    rw [upd_ne (ne_of h2 hD (by intro z; cases z))]
    exact h2⟩
theorem PrV.snoc {H : Hp} {vs : List V} {ps : List (Int × Int)} {t : Addr} {x : Int × Int} (h : PrV H vs ps) (ht : H t = some (.tup [.int x.1, .int x.2])) : PrV H (vs ++ [.ref t]) (ps ++ [x]) := by
  refine ⟨by simp [h.len], fun i y hy => ?_⟩
  by_cases hi : i < ps.length
  · rw [List.getElem?_append_left hi] at hy
    obtain ⟨u, h1, h2⟩ := h.get i y hy
    exact ⟨u, by rw [List.getElem?_append_left (by rw [h.len]; exact hi)]; exact h1, h2⟩
  · rw [List.getElem?_append_right (by omega)] at hy
    have h1 := (List.getElem?_eq_some_iff.mp hy).1
    have h2 : i - ps.length = 0 := by
      simp at h1
      omega
    rw [h2] at hy
    injection hy with hy
    subst hy
    refine ⟨t, ?_, ht⟩
    rw [List.getElem?_append_right (by rw [h.len]; omega), h.len, h2]
    rfl
theorem tyes {σ : L2.St} {H : Hp} {A B : Hp → Prop} (h : A H) : tYes σ H fun b H3 => if b = true then A H3 else B H3 := by
  show (if true = true then A H else B H)
  rw [if_pos rfl]
  exact h
/-- what a pair is, told by the heap -/
def kOf (H : Hp) : V → Int × Int
  | .ref t => match H t with
    | some (.tup [.int a, .int b]) => (a, b)
    | _ => (0, 0)
  | _ => (0, 0)
theorem kOf_at {H : Hp} {t : Addr} {x : Int × Int} (h : H t = some (.tup [.int x.1, .int x.2])) : kOf H (.ref t) = x := by
  show (match H t with
    | some (.tup [.int a, .int b]) => (a, b)
    | _ => (0, 0)) = x
  rw [h]
theorem PrV.keys {H : Hp} {vs : List V} {ps : List (Int × Int)} (h : PrV H vs ps) : vs.map (kOf H) = ps := by
  refine List.ext_getElem (by rw [List.length_map, h.len]) fun i h1 h2 => ?_
  obtain ⟨t, e1, e2⟩ := h.get i ps[i] (List.getElem?_eq_getElem h2)
  rw [List.length_map] at h1
  rw [List.getElem_map]
  have e3 : vs[i] = .ref t := by
    rw [List.getElem?_eq_getElem h1] at e1
    injection e1
  rw [e3, kOf_at e2]
theorem PrV.mem {H : Hp} {vs : List V} {ps : List (Int × Int)} (h : PrV H vs ps) : ∀ x ∈ vs, ∃ t, x = .ref t ∧ H t = some (.tup [.int (kOf H x).1, .int (kOf H x).2]) := fun x hx => by
  obtain ⟨i, hi, rfl⟩ := List.getElem_of_mem hx
  have hi2 : i < ps.length := by rw [← h.len]; exact hi
  obtain ⟨t, e1, e2⟩ := h.get i ps[i] (List.getElem?_eq_getElem hi2)
  rw [List.getElem?_eq_getElem hi] at e1
  injection e1 with e1
  rw [e1, kOf_at e2]
  exact ⟨t, rfl, e2⟩
theorem prs_get {ns : List Int} {i : Nat} : (prs ns)[i]? = (ns[i]?).map fun c => (c, (i : Int)) := by
  unfold prs
  rw [List.getElem?_mapIdx]
theorem take_snoc {α : Type} {l : List α} {i : Nat} {x : α} (h : l[i]? = some x) : l.take (i + 1) = l.take i ++ [x] := by
  rw [List.take_succ, h]
  rfl
section
variable {K : PySem.W.Frag} {σ : L2.St} {H : Hp} {Q : VK} {v s c : Nat} {a : Addr} {ns : List Int}
/-- sorted([(x, i) for i, x in enumerate(xs)]) -/
theorem srt_prs (hv : σ[v]? = some (some (.ref a))) (hs : SqA K H a (ns.map V.int)) (hl : ns.length ≤ 2000)
    (h0 : ∀ x y, wipe (((wipe σ [s, c]).set s (some x)).set c (some y)) [s, c] = wipe σ [s, c]) (h1 : ∀ x y, (((wipe σ [s, c]).set s (some x)).set c (some y))[c]? = some (some y)) (h2 : ∀ x y, (((wipe σ [s, c]).set s (some x)).set c (some y))[s]? = some (some x))
    (q : ∀ H' p vs, Same H H' → H' p = some (.lst vs) → PrV H' vs (isort (prs ns)) → Q (.ref p) H') :
    tCB (rSortedPO K) (tCons (tLc (iEnA K (tCons (tVar v) tNil)) (gTup K 2 (gCons (gName s) (gCons (gName c) gNil))) tYes (tTup (tCons (tVar c) (tCons (tVar s) tNil))) [s, c]) tNil) σ H Q := by
  obtain ⟨k, hk⟩ := sqa_k hs
  refine ⟨_, hv, a, ns.map V.int, k, rfl, hk, fun D hD => ?_⟩
  refine lc_it (walk_enumA (xs := ns.map V.int)) (fun i H' => Same H H' ∧ ∃ vs, H' D = some (.lst vs) ∧ PrV H' vs ((prs ns).take i)) ⟨Same.new hD, [], upd_same, ⟨rfl, fun i x hx => by simp at hx⟩⟩ (fun i H' _ p => p.1.seqk hk) (fun i x H1 H2 hi p y => ?_) (fun H' p => ?_)
  · obtain ⟨s1, vs, e, pv⟩ := p
    obtain ⟨T, x', y', rfl, hT, rfl, e1, e2⟩ := y
    cases e1
    obtain ⟨n, hn1, rfl⟩ := ints_at e2
    have eD : (upd H1 T (.tup [V.int (i : Nat), V.int n])) D = some (.lst vs) := by
      rw [upd_ne (ne_of_none e hT)]
      exact e
    refine g_two (SqT.of upd_same) ⟨h0 _ _, ?_⟩
    refine tyes ?_
    refine ⟨_, h1 _ _, _, h2 _ _, by show 2 ≤ sizeLine; decide, fun p hp => ?_⟩
    have eD2 : (upd (upd H1 T (.tup [V.int (i : Nat), V.int n])) p (.tup [V.int n, V.int (i : Nat)])) D = some (.lst vs) := by
      rw [upd_ne (ne_of_none eD hp)]
      exact eD
    have lv : vs.length ≤ i := by
      rw [pv.len, List.length_take]
      exact Nat.min_le_left _ _
    rw [List.length_map] at hi
    refine ⟨vs, eD2, by rw [sizeLine_eq]; omega, ((s1.trans (Same.new hT)).trans (Same.new hp)).mut hD, _, upd_same, ?_⟩
    rw [take_snoc (l := prs ns) (x := (n, (i : Int))) (by rw [prs_get, hn1]; rfl)]
    refine PrV.updL eD2 (PrV.snoc (x := (n, (i : Int))) (pv.mono ((Same.new hT).trans (Same.new hp))) upd_same)
  · obtain ⟨s1, vs, e, pv⟩ := p
    rw [List.take_of_length_le (by rw [prs_len, List.length_map]; exact Nat.le_refl _)] at pv
    refine ⟨D, vs, kOf H', rfl, SqL.of e, pv.mem, fun ys p srt stb hp => ?_⟩
    have sm : Same H' (upd H' p (.lst ys)) := Same.new hp
    refine q _ p ys (s1.trans sm) upd_same ?_
    have eK : ys.map (kOf H') = isort (prs ns) := by
      refine isort_of ?_ ?_
      · rw [← pv.keys]
        exact stb.perm.map _
      · refine List.pairwise_map.mpr (srt.imp fun {x y} h => ?_)
        have h' := SrtO.lexB_no.mp h
        rw [ple_iff]
        omega
    refine ⟨by rw [← eK, List.length_map], fun i x hx => ?_⟩
    rw [← eK, List.getElem?_map] at hx
    obtain ⟨z, hz, rfl⟩ := Option.map_eq_some_iff.mp hx
    obtain ⟨t, rfl, ht⟩ := pv.mem z (stb.perm.mem_iff.mp (List.mem_of_getElem? hz))
    exact ⟨t, hz, sm _ _ ht⟩
end
/-! ### dicts told by what they hold -/
structure DF (H : Hp) (d : Addr) (m : Nat) (f : Key → Option V) : Prop where
  ex : ∃ kvs, H d = some (.dK kvs) ∧ kvs.length ≤ m ∧ ∀ k, valV kvs k = f k
theorem DF.nil {H : Hp} {d : Addr} : DF (upd H d (.dK [])) d 0 fun _ => none := ⟨[], upd_same, Nat.le_refl _, fun _ => rfl⟩
theorem DF.mono {H H' : Hp} {d : Addr} {m : Nat} {f : Key → Option V} (e : Same H H') (h : DF H d m f) : DF H' d m f :=
  let ⟨kvs, h1, h2, h3⟩ := h.ex; ⟨kvs, e _ _ h1, h2, h3⟩
theorem DF.get {H : Hp} {d : Addr} {m : Nat} {f : Key → Option V} (h : DF H d m f) {k : Key} {r : Option V} (e : f k = r) : DGet H d (kV k) r :=
  let ⟨kvs, h1, _, h3⟩ := h.ex; .inl ⟨kvs, k, .inl h1, rfl, by rw [h3 k, e]⟩
theorem DF.isD {H : Hp} {d : Addr} {m : Nat} {f : Key → Option V} (h : DF H d m f) : IsD H d := let ⟨kvs, h1, _⟩ := h.ex; .inl ⟨kvs, .inl h1⟩
theorem DF.put {H : Hp} {d : Addr} {m : Nat} {f : Key → Option V} (h : DF H d m f) (hm : m < sizeLine) (k : Key) (v : V) :
    ∃ kvs', DPut H d (kV k) v (upd H d (.dK kvs')) ∧ DF (upd H d (.dK kvs')) d (m + 1) (fun j => if j = k then some v else f j) := by
  obtain ⟨kvs, h1, h2, h3⟩ := h.ex
  refine ⟨_, DPut.k h1 (Nat.lt_of_le_of_lt h2 hm), _, upd_same, ?_, fun j => ?_⟩
  · have := length_putK kvs k v
    omega
  · rw [valV_put, h3 j]
theorem DF.tyV {K : PySem.W.Frag} {H : Hp} {d : Addr} {m : Nat} {f : Key → Option V} (h : DF H d m f) : tyV K "dict" (.ref d) H := let ⟨kvs, h1, _⟩ := h.ex; .inr (.inr (.inl ⟨rfl, .inl ⟨kvs, h1⟩⟩))
theorem DF.congr {H : Hp} {d : Addr} {m : Nat} {f g : Key → Option V} (h : DF H d m f) (e : ∀ k, f k = g k) : DF H d m g := let ⟨kvs, h1, h2, h3⟩ := h.ex; ⟨kvs, h1, h2, fun k => (h3 k).trans (e k)⟩
theorem DF.le {H : Hp} {d : Addr} {m n : Nat} {f : Key → Option V} (h : DF H d m f) (e : m ≤ n) : DF H d n f := let ⟨kvs, h1, h2, h3⟩ := h.ex; ⟨kvs, h1, Nat.le_trans h2 e, h3⟩
end WV
end
section
set_option maxRecDepth 100000
set_option maxHeartbeats 4000000
namespace WV
open PySem PySem.Spec PyProof.Rows L2
/-! ### the steps by which nodes are joined -/
structure StV (H : Hp) (vs : List V) (ss : List Stp) : Prop where
  len : vs.length = ss.length
  get : ∀ (i : Nat) x, ss[i]? = some x → ∃ t, vs[i]? = some (.ref t) ∧ H t = some (.tup [.int x.1, .int x.2.1, .int x.2.2])
theorem StV.mono {H H' : Hp} {vs : List V} {ps : List Stp} (e : Same H H') (h : StV H vs ps) : StV H' vs ps :=
  ⟨h.len, fun i x hx => let ⟨t, h1, h2⟩ := h.get i x hx; ⟨t, h1, e _ _ h2⟩⟩
theorem StV.updL {H : Hp} {vs xs : List V} {ps : List Stp} {D : Addr} {o : HO} (hD : H D = some (.lst xs)) (h : StV H vs ps) : StV (upd H D o) vs ps :=
  ⟨h.len, fun i x hx => by
    obtain ⟨t, h1, h2⟩ := h.get i x hx
    refine ⟨t, h1, ?_⟩
    rw [upd_ne (ne_of h2 hD (by intro z; cases z))]
    exact h2⟩
theorem StV.snoc {H : Hp} {vs : List V} {ps : List Stp} {t : Addr} {x : Stp} (h : StV H vs ps) (ht : H t = some (.tup [.int x.1, .int x.2.1, .int x.2.2])) : StV H (vs ++ [.ref t]) (ps ++ [x]) := by
  refine ⟨by simp [h.len], fun i y hy => ?_⟩
  by_cases hi : i < ps.length
  · rw [List.getElem?_append_left hi] at hy
    obtain ⟨u, h1, h2⟩ := h.get i y hy
    exact ⟨u, by rw [List.getElem?_append_left (by rw [h.len]; exact hi)]; exact h1, h2⟩
  · rw [List.getElem?_append_right (by omega)] at hy
    have h1 := (List.getElem?_eq_some_iff.mp hy).1
    have h2 : i - ps.length = 0 := by
      simp at h1
      omega
    rw [h2] at hy
    injection hy with hy
    subst hy
    refine ⟨t, ?_, ht⟩
    rw [List.getElem?_append_right (by rw [h.len]; omega), h.len, h2]
    rfl
theorem atI_nat {α : Type} {xs : List α} {i : Nat} {x : α} (h : xs[i]? = some x) : atI xs (i : Int) = some x := by
  have hi := (List.getElem?_eq_some_iff.mp h).1
  unfold atI ixN
  rw [if_pos (by omega), if_pos (by omega)]
  show xs[((i : Int)).toNat]? = some x
  rw [show ((i : Int)).toNat = i by omega]
  exact h
/-- j picks in a row -/
def pks (n : Nat) (S : List (Int × Int)) (M : List Stp) (c : Nat × Nat) : Nat → List Int × Int × Nat × Nat
  | 0 => ([], 0, c)
  | j + 1 => ((pks n S M c j).1 ++ [(pk n S M (pks n S M c j).2.2).1.1], (pks n S M c j).2.1 + (pk n S M (pks n S M c j).2.2).1.2, (pk n S M (pks n S M c j).2.2).2)
theorem jp_len (ns : List Int) : (jp ns).length = ns.length - 1 := by
  obtain ⟨l, h1, h2⟩ := jrun_app ns.length (isort (prs ns)) (ns.length - 1) 0
  unfold jp
  rw [show ns.length - 1 = 0 + (ns.length - 1) by omega, h1]
  show ([] ++ l).length = _
  rw [List.nil_append, h2]
  omega
theorem jo0 {ns : List Int} (h0 : ∀ c ∈ ns, 0 ≤ c) : Jo ns.length (isort (prs ns)) (jrun ns.length (isort (prs ns)) 0) 0 := by
  have pS := isort_perm (prs ns)
  refine ⟨⟨0, Int.le_refl _, ⟨Nat.zero_le _, Nat.le_refl _, ?_, List.Pairwise.nil, fun p hp => ?_⟩, fun p hp => by cases hp⟩, rfl, ?_⟩
  · refine (isort_srt (prs ns)).imp fun {a b} h => ?_
    rw [ple_iff] at h
    omega
  · have hp' : p ∈ isort (prs ns) := by
      rcases List.mem_append.mp hp with h | h
      · exact h
      · cases h
    have : p.1 ∈ (prs ns).map (fun x : Int × Int => x.1) := List.mem_map.mpr ⟨p, pS.mem_iff.mp hp', rfl⟩
    rw [prs_fst] at this
    exact h0 _ this
  · show ((isort (prs ns)) ++ []).length = ns.length
    rw [List.append_nil, pS.length_eq, prs_len]
theorem jp_at {ns : List Int} (h0 : ∀ c ∈ ns, 0 ≤ c) : ∀ {k : Nat}, k + 1 ≤ ns.length → Jo ns.length (isort (prs ns)) (jrun ns.length (isort (prs ns)) k) k
  | 0, _ => jo0 h0
  | k + 1, h => by
    obtain ⟨a, b, x, y, R, _, _, _, _, _, J⟩ := jstep_ok (jp_at h0 (k := k) (by omega)) (by omega)
    exact J
section
variable {P : Program} {w : World} {K : PySem.W.Frag} {mg : Str → Option Value} {base : Heap}
theorem sc_joined_pairs : FnScope ["counts", "signs", "made", "at", "first", "turn", "nodes", "weight", "part", "sign", "count"] ["counts"] (defScope s_joined_pairs) := ⟨rfl, rfl, rfl, by decide +kernel, rfl, by decide +kernel, by decide +kernel⟩
def sp_joined_pairs (K : PySem.W.Frag) : Sp := fun vs H Q _ => ∃ (a : Addr) (ns : List Int), vs = [.ref a] ∧ SqA K H a (ns.map V.int) ∧ (2 ≤ ns.length ∧ ns.length ≤ 100) ∧ (∀ n ∈ ns, 0 ≤ n) ∧ ∀ H' D us, Same H H' → H' D = some (.lst us) → StV H' us (jp ns) → Q (.ref D) H'
theorem ok_joined_pairs (t : T K mg) : Okf P w K mg base 1 ("joined_pairs", none) ["counts"] [] (sp_joined_pairs K) := by
  refine okf (d := d_joined_pairs) t 14 rfl rfl sc_joined_pairs (fun _ _ _ _ _ _ us hl => match us, hl with | [_], _ => rfl) (fun vs H Q E h => ?_) (fun cdv A outer s H vs Q E hr h => ?_)
  · obtain ⟨a, n, rfl, _⟩ := h
    rfl
  · obtain ⟨a, ns, rfl, hs, hl, hn, q⟩ := h
    refine ⟨_, (pss_cons (ps_set (i := 1) sc_joined_pairs.nd rfl (.inl rfl) (pe_callB cr_sortedPO (by rfl) t.b_sorted bt_sorted (pa_cons (pe_lc (own := [("sign", 9), ("count", 10)]) (g := gTup K 2 (gCons (gName 9) (gCons (gName 10) gNil))) (tt := tYes) rfl sc_joined_pairs.nd (pi_enumA (by rfl) t.b_enumerate (pa_cons (pv 0) pa_nil)) (blkOk_by (own := [("sign", 9), ("count", 10)]) (N := ["counts", "signs", "made", "at", "first", "turn", "nodes", "weight", "part", "sign", "count"]) (sc := defScope s_joined_pairs) (by decide +kernel)) (fun _ _ _ _ _ => (pg_tup rfl (pgs_cons (pg_name (i := 9) sc_joined_pairs.nd rfl (.inl rfl)) (pgs_cons (pg_name (i := 10) sc_joined_pairs.nd rfl (.inl rfl)) pgs_nil)))) (fun _ _ _ _ _ => pts_nil) (fun _ _ _ _ _ => (pe_tup (pa_cons (pv 10) (pa_cons (pv 9) pa_nil))))) pa_nil)))
      (pss_cons (ps_par3 (i := 2) (j := 3) (l := 4) rfl sc_joined_pairs.nd rfl rfl rfl (by decide) (by decide) (by decide) rfl rfl rfl (pa_cons (pe_lst pa_nil) (pa_cons pe_int (pa_cons pe_int pa_nil))) (by rfl))
      (pss_cons (ps_for PassesOwn.never rfl (pi_range1 (by rfl) t.b_range (pa_cons (pe_op op_sub (pe_callB call_len_seq (by rfl) t.b_len bt_len (pa_cons (pv 0) pa_nil)) pe_int) pa_nil)) (pg_name (i := 5) sc_joined_pairs.nd rfl (.inl rfl))
        (pss_cons (ps_par (i := 6) (j := 7) rfl sc_joined_pairs.nd rfl rfl (by decide) rfl rfl (pa_cons (pe_lst pa_nil) (pa_cons pe_int pa_nil)) (by rfl))
        (pss_cons (ps_for PassesOwn.never rfl (pi_range1 (by rfl) t.b_range (pa_cons pe_int pa_nil)) (pg_name (i := 8) sc_joined_pairs.nd rfl (.inl rfl))
          (pss_one (ps_if (PW.pt (pw_and (pt_cmpR op_lt (pv 3) (pe_callB call_len_seq (by rfl) t.b_len bt_len (pa_cons (pv 1) pa_nil)) (nomark _)) (pw_and1 (PW.pt (pw_or (pt_cmpR op_eq (pv 4) (pe_callB call_len_seq (by rfl) t.b_len bt_len (pa_cons (pv 2) pa_nil)) (nomark _)) (pw_or1 (pt_cmpR op_le (pe_ix ix_tup (pe_ix ix_list (pv 1) (pv 3) (fun _ _ => rfl)) pe_int (fun _ _ => rfl)) (pe_ix ix_tup (pe_ix ix_list (pv 2) (pv 4) (fun _ _ => rfl)) pe_int (fun _ _ => rfl)) (nomark _))))))))
            (pss_cons (ps_expr (pe_bm PySem.F.plainAttrs_list PySem.F.slot_list_append PySem.F.type_list_append mt_append (pv 6) (pa_cons (pe_ix ix_tup (pe_ix ix_list (pv 1) (pv 3) (fun _ _ => rfl)) pe_int (fun _ _ => rfl)) pa_nil)))
            (pss_cons (ps_aug (i := 7) sc_joined_pairs.nd rfl (.inl rfl) (pe_ix ix_tup (pe_ix ix_list (pv 1) (pv 3) (fun _ _ => rfl)) pe_int (fun _ _ => rfl)) ip_add)
            (pss_one (ps_aug (i := 3) sc_joined_pairs.nd rfl (.inl rfl) pe_int ip_add))))
            (pss_cons (ps_expr (pe_bm PySem.F.plainAttrs_list PySem.F.slot_list_append PySem.F.type_list_append mt_append (pv 6) (pa_cons (pe_op op_add (pe_callB call_len_seq (by rfl) t.b_len bt_len (pa_cons (pv 0) pa_nil)) (pv 4)) pa_nil)))
            (pss_cons (ps_aug (i := 7) sc_joined_pairs.nd rfl (.inl rfl) (pe_ix ix_tup (pe_ix ix_list (pv 2) (pv 4) (fun _ _ => rfl)) pe_int (fun _ _ => rfl)) ip_add)
            (pss_one (ps_aug (i := 4) sc_joined_pairs.nd rfl (.inl rfl) pe_int ip_add)))))))
        (pss_one (ps_expr (pe_bm PySem.F.plainAttrs_list PySem.F.slot_list_append PySem.F.type_list_append mt_append (pv 2) (pa_cons (pe_tup (pa_cons (pe_ix ix_list (pv 6) pe_int (fun _ _ => rfl)) (pa_cons (pe_ix ix_list (pv 6) pe_int (fun _ _ => rfl)) (pa_cons (pv 7) pa_nil)))) pa_nil)))))))
      (pss_one (ps_ret (pv 2)))))), ?_⟩
    refine srt_prs (ns := ns) rfl hs (by omega) (fun _ _ => rfl) (fun _ _ => rfl) (fun _ _ => rfl) fun H1 p vs s1 e1 pv => ?_
    refine ⟨by decide, fun D hD => ⟨_, _, _, rfl, ?_⟩⟩
    refine ⟨.ref a, rfl, a, _, rfl, (s1.trans (Same.new hD)).sqa hs, _, _, rfl, rfl, _, rfl, by rw [List.length_map]; omega, by rw [List.length_map]; omega, ?_⟩
    rw [List.length_map, show ((ns.length : Int) - 1).toNat = ns.length - 1 by omega]
    have lS : (isort (prs ns)).length = ns.length := by rw [(isort_perm (prs ns)).length_eq, prs_len]
    refine for_it walk_range (fun i σ H' => Same H1 H' ∧ ∃ u6 u7 u8 u5 us, σ = [some (.ref a), some (.ref p), some (.ref D), some (.int ((jrun ns.length (isort (prs ns)) i).2.1 : Nat)), some (.int ((jrun ns.length (isort (prs ns)) i).2.2 : Nat)), u5, u6, u7, u8, none, none] ∧ H' D = some (.lst us) ∧ StV H' us (jrun ns.length (isort (prs ns)) i).1) ⟨Same.new hD, none, none, none, none, [], rfl, upd_same, ⟨rfl, fun i x hx => by simp [jrun] at hx⟩⟩ (fun _ _ _ _ _ => trivial) (fun i x σ H2 H3 hi p y => ?_) (fun σ H' p => ?_)
    · obtain ⟨s2, u6, u7, u8, u5, us, rfl, eu, sv⟩ := p
      obtain ⟨rfl, rfl⟩ := y
      have J := jp_at (k := i) (ns := ns) hn (by omega)
      have ej : jrun ns.length (isort (prs ns)) (i + 1) = jstep ns.length (isort (prs ns)) (jrun ns.length (isort (prs ns)) i) := rfl
      rw [ej]
      generalize jrun ns.length (isort (prs ns)) i = st at J sv
      obtain ⟨M, c⟩ := st
      obtain ⟨B, _, qq, _⟩ := J.ex
      have l1 : c.1 ≤ (isort (prs ns)).length := qq.le1
      have l2 : c.2 ≤ M.length := qq.le2
      have l3 := J.many
      have l4 : (pool ns.length (isort (prs ns)) M c).length = (isort (prs ns)).length - c.1 + (M.length - c.2) := by
        unfold pool
        rw [List.length_append, List.length_drop, List.length_drop, mq_len]
      have l5 : M.length = i := J.len
      rw [l4] at l3
      have sv : StV H3 us M := sv
      generalize hS : isort (prs ns) = S at *
      refine ⟨by decide, fun N hN => ⟨_, _, rfl, ?_⟩⟩
      have sn : Same H3 (upd H3 N (.lst [])) := Same.new hN
      refine ⟨_, rfl, by decide, by decide, ?_⟩
      rw [show ((2 : Int)).toNat = 2 from rfl]
      refine for_it walk_range (fun j σ H' => Same H3 H' ∧ ∃ u8 : Option V, σ = [some (.ref a), some (.ref p), some (.ref D), some (.int ((pks ns.length S M c j).2.2.1 : Nat)), some (.int ((pks ns.length S M c j).2.2.2 : Nat)), some (.int ((fun i : Nat => 0 + (i : Int)) i)), some (.ref N), some (.int (pks ns.length S M c j).2.1), u8, none, none] ∧ H' N = some (.lst ((pks ns.length S M c j).1.map V.int)) ∧
        (pks ns.length S M c j).2.2.1 ≤ S.length ∧ (pks ns.length S M c j).2.2.2 ≤ M.length ∧ (pks ns.length S M c j).1.length = j ∧ S.length - (pks ns.length S M c j).2.2.1 + (M.length - (pks ns.length S M c j).2.2.2) + j + i = ns.length) ⟨sn, u8, rfl, upd_same, l1, l2, rfl, l3⟩ (fun _ _ _ _ _ => trivial) (fun j x σ H2 H4 hj p y => ?_) (fun σ H' p => ?_)
      · obtain ⟨s4, u8, rfl, en, m1, m2, m3, m4⟩ := p
        obtain ⟨rfl, rfl⟩ := y
        have pe : pks ns.length S M c (j + 1) = ((pks ns.length S M c j).1 ++ [(pk ns.length S M (pks ns.length S M c j).2.2).1.1], (pks ns.length S M c j).2.1 + (pk ns.length S M (pks ns.length S M c j).2.2).1.2, (pk ns.length S M (pks ns.length S M c j).2.2).2) := rfl
        rw [pe]
        generalize pks ns.length S M c j = z at *
        obtain ⟨nl, wt, at', first⟩ := z
        simp only at m1 m2 m3 m4 en ⊢
        have s14 : Same H1 H4 := s2.trans s4
        have ep : H4 p = some (.lst vs) := s14 _ _ e1
        have eu4 : H4 D = some (.lst us) := s4 _ _ eu
        have pv4 := pv.mono s14
        have sv4 := sv.mono s4
        have lu : us.length = M.length := sv.len
        have lv : vs.length = S.length := pv.len
        have ltz : (nl.map V.int).length < sizeLine := by
          rw [List.length_map, sizeLine_eq]
          omega
        have rest : ∀ z : Int, Same H3 (upd H4 N (.lst (nl.map V.int ++ [.int z]))) := fun z => s4.mut hN
        have en2 : ∀ z : Int, (upd H4 N (.lst (nl.map V.int ++ [.int z]))) N = some (.lst ((nl ++ [z]).map V.int)) := fun z => by
          rw [upd_same, List.map_append]
          rfl
        have cl : ∀ z : Int, (upd H4 N (.lst (nl.map V.int ++ [.int z]))) p = some (.lst vs) := fun z => by
          rw [upd_ne (fun e => by rw [← e, s2 _ _ e1] at hN; cases hN)]
          exact ep
        have cu : ∀ z : Int, (upd H4 N (.lst (nl.map V.int ++ [.int z]))) D = some (.lst us) := fun z => by
          rw [upd_ne (fun e => by rw [← e, eu] at hN; cases hN)]
          exact eu4
        by_cases hT : at' < S.length ∧ (first = M.length ∨ (S.getD at' (0, 0)).1 ≤ (M.getD first (0, 0, 0)).2.2)
        · have epk : pk ns.length S M (at', first) = (((S.getD at' (0, 0)).2, (S.getD at' (0, 0)).1), at' + 1, first) := if_pos hT
          obtain ⟨hA, hT2⟩ := hT
          obtain ⟨t1, g1, g2⟩ := pv4.get at' S[at'] (List.getElem?_eq_getElem hA)
          rw [getD_at (List.getElem?_eq_getElem hA)] at epk hT2
          rw [epk]
          repeat (first | refine ⟨_, rfl, ?_⟩ | refine ⟨_, _, rfl, rfl, ?_⟩ | refine ⟨rfl, ?_⟩ | refine ⟨⟨by decide, by decide⟩, ?_⟩ | refine ⟨(by decide : (0 : Int) < 2), ?_⟩ | refine ⟨.inr ⟨by decide, by decide⟩, ?_⟩)
          refine ⟨p, vs, rfl, .inl (SqL.of ep), _, _, rfl, rfl, _, rfl, ?_⟩
          rw [show decide ((at' : Int) < (vs.length : Int)) = true from decide_eq_true (by omega)]
          refine iteT ⟨_, rfl, .ref D, rfl, D, us, rfl, .inl (SqL.of eu4), rfl, _, rfl, ?_⟩
          by_cases hB : first = M.length
          rw [show decide (V.int (first : Int) = V.int (us.length : Int)) = true from decide_eq_true (by rw [lu, hB])]
          refine iteT (iteT ?_)
          rotate_left
          rw [show decide (V.int (first : Int) = V.int (us.length : Int)) = false from decide_eq_false (fun h => hB (by injection h with h; omega))]
          obtain ⟨t2, k1, k2⟩ := sv4.get first M[first] (List.getElem?_eq_getElem (by omega))
          have hC := hT2.resolve_left hB
          rw [getD_at (List.getElem?_eq_getElem (by omega))] at hC
          refine iteF ⟨.ref p, rfl, _, rfl, p, vs, _, _, rfl, rfl, SqL.of ep, atI_nat g1, t1, _, _, _, rfl, rfl, SqT.of g2, rfl, .ref D, rfl, _, rfl, D, us, _, _, rfl, rfl, SqL.of eu4, atI_nat k1, t2, _, _, _, rfl, rfl, SqT.of k2, rfl, _, _, rfl, rfl, _, rfl, ?_⟩
          rw [show decide (S[at'].1 ≤ M[first].2.2) = true from decide_eq_true hC]
          refine iteT ?_
          all_goals
            refine ⟨.ref N, rfl, .inl ⟨rfl, _, SqL.of en⟩, .ref p, rfl, _, rfl, p, vs, _, _, rfl, rfl, SqL.of ep, atI_nat g1, t1, _, _, _, rfl, rfl, SqT.of g2, rfl, N, _, _, rfl, rfl, en, ltz, ?_⟩
            have g3 : (upd H4 N (.lst (nl.map V.int ++ [.int S[at'].2]))) t1 = some (.tup [.int S[at'].1, .int S[at'].2]) := by
              rw [upd_ne (ne_of g2 en (by intro z; cases z))]
              exact g2
            refine ⟨_, rfl, .ref p, rfl, _, rfl, p, vs, _, _, rfl, rfl, SqL.of (cl _), atI_nat g1, t1, _, _, _, rfl, rfl, SqT.of g3, rfl, _, _, rfl, rfl, ?_⟩
            refine ⟨_, rfl, _, _, rfl, rfl, ?_⟩
            exact ⟨rest _, _, rfl, en2 _, hA, m2, by simp [m3], by simp only; omega⟩
        · have epk : pk ns.length S M (at', first) = (((ns.length : Int) + first, (M.getD first (0, 0, 0)).2.2), at', first + 1) := if_neg hT
          have hF : first < M.length := by
            rcases Nat.lt_or_ge first M.length with h | h
            · exact h
            · exact absurd ⟨by omega, .inl (by omega)⟩ hT
          obtain ⟨t2, k1, k2⟩ := sv4.get first M[first] (List.getElem?_eq_getElem hF)
          rw [getD_at (List.getElem?_eq_getElem hF)] at epk
          rw [epk]
          repeat (first | refine ⟨_, rfl, ?_⟩ | refine ⟨_, _, rfl, rfl, ?_⟩ | refine ⟨rfl, ?_⟩ | refine ⟨⟨by decide, by decide⟩, ?_⟩ | refine ⟨(by decide : (0 : Int) < 2), ?_⟩ | refine ⟨.inr ⟨by decide, by decide⟩, ?_⟩)
          refine ⟨p, vs, rfl, .inl (SqL.of ep), _, _, rfl, rfl, _, rfl, ?_⟩
          by_cases hA : at' < S.length
          rw [show decide ((at' : Int) < (vs.length : Int)) = true from decide_eq_true (by omega)]
          refine iteT ⟨_, rfl, .ref D, rfl, D, us, rfl, .inl (SqL.of eu4), rfl, _, rfl, ?_⟩
          rw [show decide (V.int (first : Int) = V.int (us.length : Int)) = false from decide_eq_false (fun h => by injection h with h; omega)]
          obtain ⟨t1, g1, g2⟩ := pv4.get at' S[at'] (List.getElem?_eq_getElem hA)
          have hC : ¬ S[at'].1 ≤ M[first].2.2 := fun h => hT ⟨hA, .inr (by rw [getD_at (List.getElem?_eq_getElem hA), getD_at (List.getElem?_eq_getElem hF)]; exact h)⟩
          refine iteF ⟨.ref p, rfl, _, rfl, p, vs, _, _, rfl, rfl, SqL.of ep, atI_nat g1, t1, _, _, _, rfl, rfl, SqT.of g2, rfl, .ref D, rfl, _, rfl, D, us, _, _, rfl, rfl, SqL.of eu4, atI_nat k1, t2, _, _, _, rfl, rfl, SqT.of k2, rfl, _, _, rfl, rfl, _, rfl, ?_⟩
          rw [show decide (S[at'].1 ≤ M[first].2.2) = false from decide_eq_false hC]
          refine iteF ?_
          rotate_left
          rw [show decide ((at' : Int) < (vs.length : Int)) = false from decide_eq_false (by omega)]
          refine iteF (iteF ?_)
          all_goals
            refine ⟨.ref N, rfl, .inl ⟨rfl, _, SqL.of en⟩, .ref a, rfl, a, _, rfl, (s1.trans s14).sqa hs, _, rfl, _, _, rfl, rfl, N, _, _, rfl, rfl, en, ltz, ?_⟩
            have k3 : (upd H4 N (.lst (nl.map V.int ++ [.int ((ns.length : Int) + first)]))) t2 = some (.tup [.int M[first].1, .int M[first].2.1, .int M[first].2.2]) := by
              rw [upd_ne (ne_of k2 en (by intro z; cases z))]
              exact k2
            rw [List.length_map]
            refine ⟨_, rfl, .ref D, rfl, _, rfl, D, us, _, _, rfl, rfl, SqL.of (cu _), atI_nat k1, t2, _, _, _, rfl, rfl, SqT.of k3, rfl, _, _, rfl, rfl, ?_⟩
            refine ⟨_, rfl, _, _, rfl, rfl, ?_⟩
            exact ⟨rest _, _, rfl, en2 _, m1, hF, by simp [m3], by simp only; omega⟩
      · obtain ⟨s4, u8, rfl, en, m1, m2, m3, m4⟩ := p
        have eu4 := s4 _ _ eu
        have lu : us.length = M.length := sv.len
        refine ⟨.ref D, rfl, .inl ⟨rfl, _, SqL.of eu4⟩, .ref N, rfl, N, _, _, _, rfl, rfl, SqL.of en, rfl, .ref N, rfl, N, _, _, _, rfl, rfl, SqL.of en, rfl, _, rfl, by show 3 ≤ sizeLine; decide, fun p hp => ⟨D, us, _, rfl, rfl, ?_, by rw [sizeLine_eq]; omega, ?_⟩⟩
        · rw [upd_ne (ne_of_none eu4 hp)]
          exact eu4
        · have sp := Same.new (o := .tup [V.int (pk ns.length S M c).1.1, V.int (pk ns.length S M (pk ns.length S M c).2).1.1, V.int (pks ns.length S M c 2).2.1]) hp
          have eu5 := sp _ _ eu4
          refine ⟨((s2.trans s4).trans sp).mut hD, _, _, _, _, _, rfl, upd_same, ?_⟩
          have ew : (pks ns.length S M c 2).2.1 = (pk ns.length S M c).1.2 + (pk ns.length S M (pk ns.length S M c).2).1.2 := by
            show 0 + (pk ns.length S M c).1.2 + (pk ns.length S M (pk ns.length S M c).2).1.2 = _
            rw [Int.zero_add]
          refine StV.updL eu5 (StV.snoc ((sv.mono s4).mono sp) ?_)
          rw [upd_same]
          simp only
          rw [ew]
          rfl
    · obtain ⟨s2, u6, u7, u8, u5, us, rfl, eu, sv⟩ := p
      exact ⟨_, rfl, q _ D us (s1.trans s2) eu sv⟩
theorem sc_least_of : FnScope ["counts", "one", "other", "weight"] ["counts"] (defScope s_least_of) := ⟨rfl, rfl, rfl, by decide +kernel, rfl, by decide +kernel, by decide +kernel⟩
def sp_least_of (K : PySem.W.Frag) : Sp := fun vs H Q _ => ∃ (a : Addr) (ns : List Int), vs = [.ref a] ∧ SqA K H a (ns.map V.int) ∧ (2 ≤ ns.length ∧ ns.length ≤ 100) ∧ (∀ n ∈ ns, 0 ≤ n) ∧ ∀ H', Same H H' → Q (.int (lo ns)) H'
theorem ok_least_of (t : T K mg) : Okf P w K mg base 2 ("least_of", none) ["counts"] [] (sp_least_of K) := by
  have O_joined_pairs := ok_joined_pairs (P := P) (w := w) (base := base) t
  refine okf (d := d_least_of) t 15 rfl rfl sc_least_of (fun _ _ _ _ _ _ us hl => match us, hl with | [_], _ => rfl) (fun vs H Q E h => ?_) (fun cdv A outer s H vs Q E hr h => ?_)
  · obtain ⟨a, n, rfl, _⟩ := h
    rfl
  · obtain ⟨a, ns, rfl, hs, hl, hn, q⟩ := h
    refine ⟨_, (pss_one (ps_ret (pe_callB (cr_sum rfl) (by rfl) t.b_sum bt_sum (pa_cons (pe_lc (own := [("one", 1), ("other", 2), ("weight", 3)]) (g := gTup K 3 (gCons (gName 1) (gCons (gName 2) (gCons (gName 3) gNil)))) (tt := tYes) rfl sc_least_of.nd (pi_list (pe_f O_joined_pairs (hr.mono (by decide)) t.g_joined_pairs (pa_cons (pv 0) pa_nil))) (blkOk_by (own := [("one", 1), ("other", 2), ("weight", 3)]) (N := ["counts", "one", "other", "weight"]) (sc := defScope s_least_of) (by decide +kernel)) (fun _ _ _ _ _ => (pg_tup rfl (pgs_cons (pg_name (i := 1) sc_least_of.nd rfl (.inl rfl)) (pgs_cons (pg_name (i := 2) sc_least_of.nd rfl (.inl rfl)) (pgs_cons (pg_name (i := 3) sc_least_of.nd rfl (.inl rfl)) pgs_nil))))) (fun _ _ _ _ _ => pts_nil) (fun _ _ _ _ _ => (pv 3))) pa_nil)))), ?_⟩
    refine ⟨.ref a, rfl, a, ns, rfl, hs, hl, hn, fun H1 D us s1 eu sv => ⟨D, rfl, ⟨us, SqL.of eu⟩, fun E hE => ?_⟩⟩
    have lu : us.length = (jp ns).length := sv.len
    have l2 : (jp ns).length ≤ 100 := by
      have := (jp_len ns)
      omega
    refine lc_all (K := K) (walk_list (xs := us)) hE (by omega) (fun H' s2 => s2.seq (SqL.of eu)) (fun i => .v (.int ((jp ns).getD i (0, 0, 0)).2.2)) (fun i => rfl) (fun i x H2 H3 hi s2 y Qk kq => ?_) (fun H' ys s2 e r => ?_)
    · obtain ⟨rfl, hx⟩ := y
      obtain ⟨tt, g1, g2⟩ := sv.get i (jp ns)[i] (List.getElem?_eq_getElem (by omega))
      rw [g1] at hx
      injection hx with hx
      subst hx
      refine g_three (SqT.of (s2 _ _ g2)) ⟨rfl, _, rfl, ?_⟩
      refine kq _ _ (Same.refl _) ?_
      rw [getD_at (List.getElem?_eq_getElem (by omega))]
      exact .v _
    · have e3 : (List.range us.length).map (fun i => Dat.v (.int ((jp ns).getD i (0, 0, 0)).2.2)) = iD ((jp ns).map fun s => s.2.2) := by
        unfold iD
        rw [← range_get (xs := (jp ns).map fun s => s.2.2) (fun i => ((jp ns).getD i (0, 0, 0)).2.2) fun i x hx => by
          rw [List.getElem?_map] at hx
          obtain ⟨u, hu, rfl⟩ := Option.map_eq_some_iff.mp hx
          rw [getD_at hu]]
        rw [List.map_map, List.length_map, lu]
        rfl
      rw [e3] at r
      rw [r.unints] at e
      exact ⟨E, _, rfl, SqL.of e, q H' (s1.trans s2)⟩
end
end WV
end
section
set_option maxRecDepth 100000
set_option maxHeartbeats 4000000
namespace WV
open PySem PySem.Spec PyProof.Rows L2
/-! ### lengths of a least code -/
def hgI (ns : List Int) : List Int := (hg ns).map fun l : Nat => (l : Int)
theorem hts_get {n : Int} {ss : List Stp} {i : Nat} {s : Stp} (h : ss[i]? = some s) (z : Int) : hts n i (ss.drop i) z = if z = s.1 ∨ z = s.2.1 then hts n (i + 1) (ss.drop (i + 1)) (n + i) + 1 else hts n (i + 1) (ss.drop (i + 1)) z := by
  have hi := (List.getElem?_eq_some_iff.mp h).1
  have e : ss.drop i = s :: ss.drop (i + 1) := by
    rw [List.drop_eq_getElem_cons hi]
    rw [List.getElem?_eq_getElem hi] at h
    injection h with h
    rw [h]
  rw [e]
  rfl
theorem StV.updD {H : Hp} {vs : List V} {ps : List Stp} {D : Addr} {kvs : List (Key × V)} {o : HO} (hD : H D = some (.dK kvs)) (h : StV H vs ps) : StV (upd H D o) vs ps :=
  ⟨h.len, fun i x hx => by
    obtain ⟨t, h1, h2⟩ := h.get i x hx
    refine ⟨t, h1, ?_⟩
    rw [upd_ne (ne_of h2 hD (by intro z; cases z))]
    exact h2⟩
section
variable {P : Program} {w : World} {K : PySem.W.Frag} {mg : Str → Option Value} {base : Heap}
theorem sc_lengths_for : FnScope ["counts", "many", "heights", "steps", "at", "below", "sign"] ["counts"] (defScope s_lengths_for) := ⟨rfl, rfl, rfl, by decide +kernel, rfl, by decide +kernel, by decide +kernel⟩
def sp_lengths_for (K : PySem.W.Frag) : Sp := fun vs H Q _ => ∃ (a : Addr) (ns : List Int), vs = [.ref a] ∧ SqA K H a (ns.map V.int) ∧ (2 ≤ ns.length ∧ ns.length ≤ 100) ∧ (∀ n ∈ ns, 0 ≤ n) ∧ ∀ H' D, Same H H' → H' D = some (.lst ((hgI ns).map V.int)) → Q (.ref D) H'
theorem ok_lengths_for (t : T K mg) : Okf P w K mg base 2 ("lengths_for", none) ["counts"] [] (sp_lengths_for K) := by
  have O_joined_pairs := ok_joined_pairs (P := P) (w := w) (base := base) t
  refine okf (d := d_lengths_for) t 17 rfl rfl sc_lengths_for (fun _ _ _ _ _ _ us hl => match us, hl with | [_], _ => rfl) (fun vs H Q E h => ?_) (fun cdv A outer s H vs Q E hr h => ?_)
  · obtain ⟨a, n, rfl, _⟩ := h
    rfl
  · obtain ⟨a, ns, rfl, hs, hl, hn, q⟩ := h
    have hu := hu_of hr
    refine ⟨_, (pss_cons (ps_asg (pe_tup (pa_cons (pe_callB call_len_seq (by rfl) t.b_len bt_len (pa_cons (pv 0) pa_nil)) (pa_cons pe_dnewK pa_nil))) (pg_tup rfl (pgs_cons (pg_name (i := 1) sc_lengths_for.nd rfl (.inl rfl)) (pgs_cons (pg_name (i := 2) sc_lengths_for.nd rfl (.inr rfl)) pgs_nil))))
      (pss_cons (ps_set (i := 3) sc_lengths_for.nd rfl (.inl rfl) (pe_f O_joined_pairs (hr.mono (by decide)) t.g_joined_pairs (pa_cons (pv 0) pa_nil)))
      (pss_cons (ps_for PassesOwn.never rfl (pi_range3 (by rfl) t.b_range (pa_cons (pe_op op_sub (pe_callB call_len_seq (by rfl) t.b_len bt_len (pa_cons (pv 3) pa_nil)) pe_int) (pa_cons (pe_un un_neg pe_int) (pa_cons (pe_un un_neg pe_int) pa_nil)))) (pg_name (i := 4) sc_lengths_for.nd rfl (.inl rfl))
        (pss_cons (ps_set (i := 5) sc_lengths_for.nd rfl (.inl rfl) (pe_op op_add (pe_dget2 hu (pv 2) (pe_op op_add (pv 1) (pv 4)) pe_int ⟨by rfl, by rfl, by rfl, by rfl⟩) pe_int))
        (pss_cons (ps_dput hu (pv 2) (pe_ix ix_tup (pe_ix ix_list (pv 3) (pv 4) (fun _ _ => rfl)) pe_int (fun _ _ => rfl)) (pv 5) rfl)
        (pss_one (ps_dput hu (pv 2) (pe_ix ix_tup (pe_ix ix_list (pv 3) (pv 4) (fun _ _ => rfl)) pe_int (fun _ _ => rfl)) (pv 5) rfl)))))
      (pss_one (ps_ret (pe_lc (own := [("sign", 6)]) (g := gName 6) (tt := tYes) rfl sc_lengths_for.nd (pi_range1 (by rfl) t.b_range (pa_cons (pv 1) pa_nil)) (blkOk_by (own := [("sign", 6)]) (N := ["counts", "many", "heights", "steps", "at", "below", "sign"]) (sc := defScope s_lengths_for) (by decide +kernel)) (fun _ _ _ _ _ => (pg_name (i := 6) sc_lengths_for.nd rfl (.inl rfl))) (fun _ _ _ _ _ => pts_nil) (fun _ _ _ _ _ => (pe_dget hu (pv 2) (pv 6) (fun _ _ => rfl))))))))), ?_⟩
    refine ⟨.ref a, rfl, a, _, rfl, hs, fun D hD => ⟨by show 2 ≤ sizeLine; decide, fun p hp => g_two (SqT.of upd_same) ?_⟩⟩
    have s0 : Same H (upd (upd H D (.dK [])) p (.tup [V.int ((ns.map V.int).length : Nat), .ref D])) := (Same.new hD).trans (Same.new hp)
    have d0 : DF (upd (upd H D (.dK [])) p (.tup [V.int ((ns.map V.int).length : Nat), .ref D])) D 0 fun _ => none := DF.nil.mono (Same.new hp)
    refine ⟨.ref a, rfl, a, ns, rfl, s0.sqa hs, hl, hn, fun H1 J us s1 eu sv => ?_⟩
    have dD : ∃ kvs, H1 D = some (.dK kvs) := let ⟨kvs, h1, _⟩ := (d0.mono s1).ex; ⟨kvs, h1⟩
    have d1 : DF H1 D 0 fun _ => none := d0.mono s1
    have lu : us.length = (jp ns).length := sv.len
    have lj := jp_len ns
    have neg1 : ∀ x : Int, x = -1 → x = -1 := fun _ h => h
    refine ⟨.ref J, rfl, J, us, rfl, .inl (SqL.of eu), _, _, rfl, rfl, _, rfl, _, rfl, (us.length : Int) - 1, -1, -1, us.length, rfl, ?_, ?_⟩
    · have e : ((us.length : Int) - 1 - (-1)).toNat = us.length := by omega
      have r := RgC.neg (i := (us.length : Int) - 1) (j := -1) (by omega) (by omega) (by decide) (by decide)
      rw [e] at r
      exact r
    refine for_it walk_rangeC (fun i σ H' => Same H H' ∧ H' J = some (.lst us) ∧ StV H' us (jp ns) ∧ ∃ u4 u5 f, σ = [some (.ref a), some (.int ((ns.map V.int).length : Nat)), some (.ref D), some (.ref J), u4, u5, none] ∧ DF H' D (2 * i) f ∧ ∀ z : Int, ∃ o : Option Int, f (.inl z) = o.map V.int ∧ o.getD 0 = hts ns.length (us.length - i) ((jp ns).drop (us.length - i)) z)
      ⟨s0.trans s1, eu, sv, none, none, _, rfl, d1, fun z => ⟨none, rfl, ?_⟩⟩ (fun _ _ _ _ _ => trivial) (fun i x σ H2 H3 hi p y => ?_) (fun σ H' p => ?_)
    · rw [Nat.sub_zero, lu, List.drop_length]
      rfl
    · obtain ⟨s2, eu2, sv2, u4, u5, f, rfl, df, hf⟩ := p
      obtain ⟨rfl, hx⟩ := y
      have hx : x = .int ((us.length - 1 - i : Nat) : Int) := by
        rw [hx]
        refine congrArg V.int ?_
        omega
      subst hx
      generalize hk : us.length - 1 - i = k at *
      rw [show us.length - i = k + 1 by omega] at hf
      rw [show us.length - (i + 1) = k by omega]
      have kl : k < (jp ns).length := by omega
      obtain ⟨tt, g1, g2⟩ := sv2.get k (jp ns)[k] (List.getElem?_eq_getElem kl)
      obtain ⟨o, ho, ho2⟩ := hf ((ns.length : Int) + k)
      have gv : (o.map V.int).getD (V.int 0) = .int (o.getD 0) := by cases o <;> rfl
      have lk : (((ns.map V.int).length : Nat) : Int) = ns.length := by rw [List.length_map]
      have dg : DGet H3 D (.int ((((ns.map V.int).length : Nat) : Int) + k)) (o.map V.int) := by
        rw [lk]
        exact df.get (k := .inl ((ns.length : Int) + k)) ho
      refine ⟨.ref D, rfl, D, rfl, df.isD, _, rfl, _, rfl, _, _, rfl, rfl, o.map V.int, dg, o.getD 0, 1, gv, rfl, ?_⟩
      obtain ⟨k1, p1, d1⟩ := df.put (by rw [sizeLine_eq]; omega) (.inl (jp ns)[k].1) (.int (o.getD 0 + 1))
      obtain ⟨kv0, eD, _⟩ := df.ex
      have eu3 : (upd H3 D (.dK k1)) J = some (.lst us) := by
        rw [upd_ne (ne_of eu2 eD (by intro z; cases z))]
        exact eu2
      have g3 : (upd H3 D (.dK k1)) tt = some (.tup [.int (jp ns)[k].1, .int (jp ns)[k].2.1, .int (jp ns)[k].2.2]) := by
        rw [upd_ne (ne_of g2 eD (by intro z; cases z))]
        exact g2
      obtain ⟨k2, p2, d2⟩ := d1.put (by rw [sizeLine_eq]; omega) (.inl (jp ns)[k].2.1) (.int (o.getD 0 + 1))
      refine ⟨_, rfl, .ref D, rfl, .ref J, rfl, _, rfl, J, us, _, _, rfl, rfl, SqL.of eu2, atI_nat g1, tt, _, _, _, rfl, rfl, SqT.of g2, rfl, D, _, rfl, p1, ?_⟩
      refine ⟨_, rfl, .ref D, rfl, .ref J, rfl, _, rfl, J, us, _, _, rfl, rfl, SqL.of eu3, atI_nat g1, tt, _, _, _, rfl, rfl, SqT.of g3, rfl, D, _, rfl, p2, ?_⟩
      obtain ⟨kv1, eD1, _⟩ := d1.ex
      refine ⟨(s2.mut hD).mut hD, ?_, (sv2.updD eD).updD eD1, _, _, _, rfl, d2.le (by omega), fun z => ?_⟩
      · rw [upd_ne (ne_of eu3 eD1 (by intro z; cases z))]
        exact eu3
      · rw [hts_get (List.getElem?_eq_getElem kl) z]
        by_cases c2 : z = (jp ns)[k].2.1
        · refine ⟨some (o.getD 0 + 1), by rw [if_pos (by rw [c2])]; rfl, ?_⟩
          rw [if_pos (.inr c2)]
          show (o.getD 0 + 1 : Int) = _
          rw [ho2]
          rfl
        · by_cases c1 : z = (jp ns)[k].1
          · refine ⟨some (o.getD 0 + 1), by rw [if_neg (fun h => c2 (by injection h)), if_pos (by rw [c1])]; rfl, ?_⟩
            rw [if_pos (.inl c1)]
            show (o.getD 0 + 1 : Int) = _
            rw [ho2]
            rfl
          · obtain ⟨o2, h1, h2⟩ := hf z
            refine ⟨o2, by rw [if_neg (fun h => c2 (by injection h)), if_neg (fun h => c1 (by injection h))]; exact h1, ?_⟩
            rw [if_neg (fun h => h.elim c1 c2)]
            exact h2
    · obtain ⟨s2, eu2, sv2, u4, u5, f, rfl, df, hf⟩ := p
      rw [Nat.sub_self] at hf
      refine ⟨_, rfl, _, rfl, by omega, by rw [List.length_map]; omega, ?_⟩
      intro R hR
      rw [List.length_map, show ((ns.length : Int)).toNat = ns.length by omega]
      refine lc_all (K := K) walk_range hR (by omega) (fun H' _ => trivial) (fun i => .v (.int ((hgI ns).getD i 0))) (fun i => rfl) (fun i x H2 H3 hi s3 y Qk kq => ?_) (fun H4 ys s3 e r => ?_)
      · obtain ⟨rfl, rfl⟩ := y
        obtain ⟨o, h1, h2⟩ := hf (i : Int)
        have hg1 : (hg ns)[i]? = some (hts ns.length 0 (jp ns) (i : Int)) := by
          unfold hg
          rw [List.getElem?_map, List.getElem?_range hi]
          rfl
        have hI : (hgI ns)[i]? = some ((hts ns.length 0 (jp ns) (i : Int) : Nat) : Int) := by
          unfold hgI
          rw [List.getElem?_map, hg1]
          rfl
        have pos := ((hg_ok hl.1 hn).2.2 _ (List.mem_of_getElem? hg1)).1
        have h2 : o.getD 0 = (hts ns.length 0 (jp ns) (i : Int) : Nat) := h2
        cases o with
        | none =>
          simp at h2
          omega
        | some v =>
          have h2 : v = (hts ns.length 0 (jp ns) (i : Int) : Nat) := h2
          subst h2
          have dg : DGet H3 D (.int (0 + (i : Int))) (some (.int ((hts ns.length 0 (jp ns) (i : Int) : Nat) : Int))) := by
            rw [Int.zero_add]
            exact (df.mono s3).get (k := .inl (i : Int)) h1
          exact ⟨rfl, .ref D, rfl, .int (0 + (i : Int)), rfl, D, _, rfl, dg, kq _ _ (Same.refl _) (by rw [getD_at hI]; exact .v _)⟩
      · have e3 : (List.range ns.length).map (fun i => Dat.v (.int ((hgI ns).getD i 0))) = iD (hgI ns) := by
          unfold iD
          have := range_get (xs := hgI ns) (fun i => (hgI ns).getD i 0) fun i x hx => getD_at hx
          have lh : (hgI ns).length = ns.length := by
            unfold hgI
            rw [List.length_map, hg_len]
          rw [lh] at this
          conv => rhs; rw [← this]
          rw [List.map_map]
          rfl
        rw [e3] at r
        rw [r.unints] at e
        exact q H4 R (s2.trans s3) e
end
end WV
end
section
set_option maxRecDepth 100000
set_option maxHeartbeats 4000000
namespace WV
open PySem PySem.Spec PyProof.Rows L2
/-! ### canonical words -/
def cnStep (st : Nat × Nat × List (Int × List Nat)) (p : Int × Int) : Nat × Nat × List (Int × List Nat) :=
  (st.1 * 2 ^ (p.1.toNat - st.2.1) + 1, p.1.toNat, (p.2, bitsF (st.1 * 2 ^ (p.1.toNat - st.2.1)) p.1.toNat) :: st.2.2)
def cnRun (l : List (Int × Int)) : Nat × Nat × List (Int × List Nat) := l.foldl cnStep (0, 0, [])
def canonF (ls : List Int) : List (List Nat) := (List.range ls.length).map fun s : Nat => ((cnRun (isort (prs ls))).2.2.lookup (s : Int)).getD []
theorem cnRun_snoc (l : List (Int × Int)) (x : Int × Int) : cnRun (l ++ [x]) = cnStep (cnRun l) x := by
  unfold cnRun
  rw [List.foldl_append]
  rfl
theorem cn_size {l : List (Int × Int)} {i : Nat} {x : Int × Int} (h : l[i]? = some x) : (cnRun (l.take (i + 1))).2.1 = x.1.toNat := by
  rw [take_snoc h, cnRun_snoc]
  rfl
theorem cn_keys : ∀ l : List (Int × Int), ∀ z, z ∈ l.map (fun x : Int × Int => x.2) → ∀ st, ∃ v, (l.foldl cnStep st).2.2.lookup z = some v
  | [], _, h, _ => by simp at h
  | x :: l, z, h, st => by
    by_cases hz : z ∈ l.map (fun x : Int × Int => x.2)
    · exact cn_keys l z hz _
    · have e : z = x.2 := by
        rcases List.mem_cons.mp h with e | h
        · exact e
        · exact absurd h hz
      have keep : ∀ (l : List (Int × Int)) st, z ∉ l.map (fun x : Int × Int => x.2) → (∃ v, st.2.2.lookup z = some v) → ∃ v, (l.foldl cnStep st).2.2.lookup z = some v := by
        intro l
        induction l with
        | nil => exact fun st _ h => h
        | cons y l ih =>
          intro st hn hv
          refine ih _ (fun h => hn (List.mem_cons_of_mem _ h)) ?_
          obtain ⟨v, hv⟩ := hv
          refine ⟨v, ?_⟩
          show List.lookup z ((y.2, _) :: st.2.2) = some v
          have hne : (z == y.2) = false := by
            rw [beq_eq_false_iff_ne]
            exact fun e => hn (by rw [e]; exact List.mem_cons_self)
          rw [List.lookup_cons, hne]
          exact hv
      refine keep l _ hz ⟨bitsF (st.1 * 2 ^ (x.1.toNat - st.2.1)) x.1.toNat, ?_⟩
      show List.lookup z ((x.2, bitsF (st.1 * 2 ^ (x.1.toNat - st.2.1)) x.1.toNat) :: st.2.2) = _
      rw [List.lookup_cons, e, beq_self_eq_true]
theorem two_ints {a b c d : Int} (h1 : a = c) (h2 : b = d) : [V.int a, V.int b] = [V.int c, V.int d] := by rw [h1, h2]
section
variable {P : Program} {w : World} {K : PySem.W.Frag} {mg : Str → Option Value} {base : Heap}
theorem sc_canonical : FnScope ["lengths", "found", "number", "size", "length", "sign"] ["lengths"] (defScope s_canonical) := ⟨rfl, rfl, rfl, by decide +kernel, rfl, by decide +kernel, by decide +kernel⟩
def sp_canonical (K : PySem.W.Frag) : Sp := fun vs H Q _ => ∃ (a : Addr) (ls : List Int), vs = [.ref a] ∧ SqT K H a (ls.map V.int) ∧ ls.length ≤ 100 ∧ (∀ l ∈ ls, 0 ≤ l ∧ l ≤ 15) ∧ ∀ H' D, Same H H' → SqT K H' D ((canonF ls).map fun w => V.str (SX.S w)) → Q (.ref D) H'
theorem ok_canonical (t : T K mg) : Okf P w K mg base 2 ("canonical", none) ["lengths"] [] (sp_canonical K) := by
  have O_two_power := ok_two_power (P := P) (w := w) (base := base) t
  have O_bits_of := ok_bits_of (P := P) (w := w) (base := base) t
  refine okf (d := d_canonical) t 5 rfl rfl sc_canonical (fun _ _ _ _ _ _ us hl => match us, hl with | [_], _ => rfl) (fun vs H Q E h => ?_) (fun cdv A outer s H vs Q E hr h => ?_)
  · obtain ⟨a, n, rfl, _⟩ := h
    rfl
  · obtain ⟨a, ls, rfl, hs, hl, hn, q⟩ := h
    have hu := hu_of hr
    refine ⟨_, (pss_cons (ps_asg (pe_tup (pa_cons pe_dnewK (pa_cons pe_int (pa_cons pe_int pa_nil)))) (pg_tup rfl (pgs_cons (pg_name (i := 1) sc_canonical.nd rfl (.inr rfl)) (pgs_cons (pg_name (i := 2) sc_canonical.nd rfl (.inl rfl)) (pgs_cons (pg_name (i := 3) sc_canonical.nd rfl (.inl rfl)) pgs_nil)))))
      (pss_cons (ps_for PassesOwn.never rfl (pi_list (pe_callB cr_sortedPO (by rfl) t.b_sorted bt_sorted (pa_cons (pe_lc (own := [("sign", 5), ("length", 4)]) (g := gTup K 2 (gCons (gName 5) (gCons (gName 4) gNil))) (tt := tYes) rfl sc_canonical.nd (pi_enumA (by rfl) t.b_enumerate (pa_cons (pv 0) pa_nil)) (blkOk_by (own := [("sign", 5), ("length", 4)]) (N := ["lengths", "found", "number", "size", "length", "sign"]) (sc := defScope s_canonical) (by decide +kernel)) (fun _ _ _ _ _ => (pg_tup rfl (pgs_cons (pg_name (i := 5) sc_canonical.nd rfl (.inl rfl)) (pgs_cons (pg_name (i := 4) sc_canonical.nd rfl (.inl rfl)) pgs_nil)))) (fun _ _ _ _ _ => pts_nil) (fun _ _ _ _ _ => (pe_tup (pa_cons (pv 4) (pa_cons (pv 5) pa_nil))))) pa_nil))) (pg_tup rfl (pgs_cons (pg_name (i := 4) sc_canonical.nd rfl (.inl rfl)) (pgs_cons (pg_name (i := 5) sc_canonical.nd rfl (.inl rfl)) pgs_nil)))
        (pss_cons (ps_set (i := 2) sc_canonical.nd rfl (.inl rfl) (pe_op op_mul (pv 2) (pe_f O_two_power (hr.mono (by decide)) t.g_two_power (pa_cons (pe_op op_sub (pv 4) (pv 3)) pa_nil))))
        (pss_cons (ps_set (i := 3) sc_canonical.nd rfl (.inl rfl) (pv 4))
        (pss_cons (ps_dput hu (pv 1) (pv 5) (pe_f O_bits_of (hr.mono (by decide)) t.g_bits_of (pa_cons (pv 2) (pa_cons (pv 3) pa_nil))) rfl)
        (pss_one (ps_aug (i := 2) sc_canonical.nd rfl (.inl rfl) pe_int ip_add))))))
      (pss_one (ps_ret (pe_callTy call_tuple_of (by rfl) t.b_tuple bt_tuple (pa_cons (pe_lc (own := [("sign", 5)]) (g := gName 5) (tt := tYes) rfl sc_canonical.nd (pi_range1 (by rfl) t.b_range (pa_cons (pe_callB call_len_seq (by rfl) t.b_len bt_len (pa_cons (pv 0) pa_nil)) pa_nil)) (blkOk_by (own := [("sign", 5)]) (N := ["lengths", "found", "number", "size", "length", "sign"]) (sc := defScope s_canonical) (by decide +kernel)) (fun _ _ _ _ _ => (pg_name (i := 5) sc_canonical.nd rfl (.inl rfl))) (fun _ _ _ _ _ => pts_nil) (fun _ _ _ _ _ => (pe_dget hu (pv 1) (pv 5) (fun _ _ => rfl)))) pa_nil)))))), ?_⟩
    refine fun D hD => ⟨by show 3 ≤ sizeLine; decide, fun p hp => g_three (SqT.of upd_same) ?_⟩
    have s0 : Same H (upd (upd H D (.dK [])) p (.tup [.ref D, V.int 0, V.int 0])) := (Same.new hD).trans (Same.new hp)
    have d0 : DF (upd (upd H D (.dK [])) p (.tup [.ref D, V.int 0, V.int 0])) D 0 fun _ => none := DF.nil.mono (Same.new hp)
    refine srt_prs (ns := ls) rfl (s0.sqa (.inr hs)) (by omega) (fun _ _ => rfl) (fun _ _ => rfl) (fun _ _ => rfl) fun H1 J vs s1 e1 pv => ?_
    have lS : (isort (prs ls)).length = ls.length := by rw [(isort_perm (prs ls)).length_eq, prs_len]
    have mS : ∀ x ∈ isort (prs ls), 0 ≤ x.1 ∧ x.1 ≤ 15 := fun x hx => by
      have h1 : x.1 ∈ (prs ls).map (fun x : Int × Int => x.1) := List.mem_map.mpr ⟨x, (isort_perm (prs ls)).mem_iff.mp hx, rfl⟩
      rw [prs_fst] at h1
      exact hn _ h1
    have oS := isort_srt (prs ls)
    have kS : ∀ s : Nat, s < ls.length → (s : Int) ∈ (isort (prs ls)).map (fun x : Int × Int => x.2) := fun s hs => by
      have h1 : (s : Int) ∈ (prs ls).map (fun x : Int × Int => x.2) := by
        rw [prs_snd]
        exact List.mem_map.mpr ⟨s, List.mem_range.mpr hs, rfl⟩
      exact ((isort_perm (prs ls)).map _).mem_iff.mpr h1
    have eC : canonF ls = (List.range ls.length).map fun s : Nat => ((cnRun (isort (prs ls))).2.2.lookup (s : Int)).getD [] := rfl
    have kC := fun z hz => cn_keys (isort (prs ls)) z hz (0, 0, [])
    generalize isort (prs ls) = S at *
    refine ⟨J, rfl, ⟨vs, SqL.of e1⟩, ?_⟩
    refine for_it (walk_list (xs := vs)) (fun i σ H' => Same H H' ∧ H' J = some (.lst vs) ∧ PrV H' vs S ∧ ∃ u4 u5 f, σ = [some (.ref a), some (.ref D), some (.int ((cnRun (S.take i)).1 : Nat)), some (.int ((cnRun (S.take i)).2.1 : Nat)), u4, u5] ∧ DF H' D i f ∧ ∀ z : Int, f (.inl z) = ((cnRun (S.take i)).2.2.lookup z).map fun w => V.str (SX.S w))
      ⟨s0.trans s1, e1, pv, none, none, _, rfl, d0.mono s1, fun z => rfl⟩ (fun i σ H' _ p => SqL.of p.2.1) (fun i x σ H2 H3 hi p y => ?_) (fun σ H' p => ?_)
    · obtain ⟨s2, e2, pv2, u4, u5, f, rfl, df, hf⟩ := p
      obtain ⟨rfl, hx⟩ := y
      have hi2 : i < S.length := by rw [← pv2.len]; exact hi
      obtain ⟨tt, g1, g2⟩ := pv2.get i S[i] (List.getElem?_eq_getElem hi2)
      rw [g1] at hx
      injection hx with hx
      subst hx
      have b1 := mS S[i] (List.getElem_mem hi2)
      have b2 : (cnRun (S.take i)).2.1 ≤ S[i].1.toNat := by
        rcases Nat.eq_zero_or_pos i with h0 | h0
        · subst h0
          exact Nat.zero_le _
        · obtain ⟨k, rfl⟩ : ∃ k, i = k + 1 := ⟨i - 1, by omega⟩
          rw [cn_size (List.getElem?_eq_getElem (by omega : k < S.length))]
          have h1 := List.pairwise_iff_getElem.mp oS k (k + 1) (by omega) hi2 (by omega)
          rw [ple_iff] at h1
          omega
      have et := cnRun_snoc (S.take i) S[i]
      rw [← take_snoc (List.getElem?_eq_getElem hi2)] at et
      rw [et]
      generalize cnRun (S.take i) = st at *
      obtain ⟨num, size, acc⟩ := st
      have hp2 : (2 : Nat) ^ (S[i].1.toNat - size) ≤ 2 ^ 15 := Nat.pow_le_pow_right (by decide) (by omega)
      refine g_two (SqT.of g2) ?_
      simp only at b2
      refine ⟨_, rfl, _, rfl, _, rfl, _, _, rfl, rfl, S[i].1.toNat - size, ?_, by omega, fun H4 s4 => ?_⟩
      · exact congrArg (fun z : Int => [V.int z]) (show S[i].1 - (size : Int) = ((S[i].1.toNat - size : Nat) : Int) by omega)
      · have hp3 : ((2 ^ (S[i].1.toNat - size) : Nat) : Int) ≤ 32768 := Int.ofNat_le.mpr hp2
        have hp4 : (0 : Int) ≤ ((2 ^ (S[i].1.toNat - size) : Nat) : Int) := Int.natCast_nonneg _
        refine ⟨_, _, rfl, rfl, .inr ⟨Int.lt_of_lt_of_le (by decide) hp4, Int.lt_of_le_of_lt hp3 (by decide)⟩, ?_⟩
        refine ⟨_, rfl, ?_⟩
        refine ⟨_, rfl, _, rfl, num * 2 ^ (S[i].1.toNat - size), S[i].1.toNat, ?_, by omega, fun H5 s5 => ?_⟩
        · exact two_ints (Int.natCast_mul num (2 ^ (S[i].1.toNat - size))).symm (show S[i].1 = ((S[i].1.toNat : Nat) : Int) by omega)
        · have s35 := s4.trans s5
          obtain ⟨k1, p1, d1⟩ := (df.mono s35).put (by rw [sizeLine_eq]; omega) (.inl S[i].2) (.str (SX.S (bitsF (num * 2 ^ (S[i].1.toNat - size)) S[i].1.toNat)))
          obtain ⟨kv0, eD, _⟩ := (df.mono s35).ex
          refine ⟨.ref D, rfl, _, rfl, D, _, rfl, p1, ?_⟩
          refine ⟨_, rfl, _, _, rfl, rfl, ?_⟩
          refine ⟨(s2.trans s35).mut hD, ?_, ?_, some (V.int S[i].1), some (V.int S[i].2), _, ?_, d1, fun z => ?_⟩
          · rw [upd_ne (ne_of (s35 _ _ e2) eD (by intro z; cases z))]
            exact s35 _ _ e2
          · exact (pv2.mono s35).updD eD
          · show [some (V.ref a), some (V.ref D), some (V.int ((num : Int) * ((2 ^ (S[i].1.toNat - size) : Nat) : Int) + 1)), some (V.int S[i].1), some (V.int S[i].1), some (V.int S[i].2)] = [some (V.ref a), some (V.ref D), some (V.int ((num * 2 ^ (S[i].1.toNat - size) + 1 : Nat) : Int)), some (V.int ((S[i].1.toNat : Nat) : Int)), _, _]
            rw [show ((S[i].1.toNat : Nat) : Int) = S[i].1 by omega, Int.natCast_add, Int.natCast_mul]
            rfl
          · show (if Sum.inl z = Sum.inl S[i].2 then _ else f (.inl z)) = (List.lookup z ((S[i].2, _) :: acc)).map _
            by_cases c : z = S[i].2
            · rw [if_pos (by rw [c]), List.lookup_cons, c, beq_self_eq_true]
              rfl
            · rw [if_neg (fun h => c (by injection h)), List.lookup_cons, beq_eq_false_iff_ne.mpr c]
              exact hf z
    · obtain ⟨s2, e2, pv2, u4, u5, f, rfl, df, hf⟩ := p
      rw [List.take_of_length_le (by rw [pv2.len]; exact Nat.le_refl _)] at hf
      refine ⟨.ref a, rfl, a, _, rfl, .inr (s2.tup hs), _, rfl, by omega, by rw [List.length_map]; omega, fun R hR => ?_⟩
      rw [List.length_map, show ((ls.length : Int)).toNat = ls.length by omega]
      refine lc_all (K := K) walk_range hR (by omega) (fun H' _ => trivial) (fun i => .v (.str (SX.S (((cnRun S).2.2.lookup (i : Int)).getD [])))) (fun i => rfl) (fun i x H2 H3 hi s3 y Qk kq => ?_) (fun H4 ys s3 e r => ?_)
      · obtain ⟨rfl, rfl⟩ := y
        obtain ⟨v, hv⟩ := kC (i : Int) (kS i hi)
        have hv : (cnRun S).2.2.lookup (i : Int) = some v := hv
        have dg : DGet H3 D (.int (0 + (i : Int))) (some (.str (SX.S v))) := by
          rw [Int.zero_add]
          exact (df.mono s3).get (k := .inl (i : Int)) (by rw [hf, hv]; rfl)
        exact ⟨rfl, .ref D, rfl, .int (0 + (i : Int)), rfl, D, _, rfl, dg, kq _ _ (Same.refl _) (by rw [hv]; exact .v _)⟩
      · have e3 : (List.range ls.length).map (fun i : Nat => Dat.v (.str (SX.S (((cnRun S).2.2.lookup (i : Int)).getD [])))) = fD ((canonF ls).map fun w => V.str (SX.S w)) := by
          rw [eC]
          unfold fD
          rw [List.map_map, List.map_map]
          rfl
        rw [e3] at r
        rw [r.unflat] at e
        exact ⟨R, _, rfl, .inl ⟨SqL.of e, fun l hl => q _ l ((s2.trans s3).trans (Same.new hl)) (SqT.of upd_same)⟩⟩
end
end WV
end
section
set_option maxRecDepth 100000
set_option maxHeartbeats 4000000
namespace WV
open PySem PySem.Spec PyProof.Rows L2
/-! ### rules inside comprehensions, by the fragment itself -/
section
variable {X : Cx} {K : PySem.W.Frag}
theorem call_isiK (h : X.K = K) : CallR X (.builtin "isinstance") (rIsi K) := by
  subst h
  exact call_isi
theorem call_isiTK (h : X.K = K) : CallR X (.builtin "isinstance") (rIsiT K) := by
  subst h
  exact call_isiT
theorem call_len_seqK (h : X.K = K) : CallR X (.builtin "len") (fun xs H Q => ∃ p ys, xs = [.ref p] ∧ (SqL K H p ys ∨ SqT K H p ys) ∧ Q (.int ys.length) H) := by
  subst h
  exact call_len_seq
theorem ix_tupK (h : X.K = K) : IxR X (rIxT K) := by
  subst h
  exact ix_tup
theorem ix_listK (h : X.K = K) : IxR X (rIxL K) := by
  subst h
  exact ix_list
theorem op_in_seqK (h : X.K = K) : OpR X (compareOp .In) (rIn K false) := by
  subst h
  exact op_in_seq
theorem op_notIn_seqK (h : X.K = K) : OpR X (compareOp .NotIn) (rIn K true) := by
  subst h
  exact op_notIn_seq
theorem call_tuple_ofK (h : X.K = K) : CallR X (.type "tuple") (fun xs H Q => ∃ p ys, xs = [.ref p] ∧ ((SqL K H p ys ∧ ∀ l, H l = none → Q (.ref l) (upd H l (.tup ys))) ∨ (SqT K H p ys ∧ Q (.ref p) H))) := by
  subst h
  exact call_tuple_of
theorem cr_sumK (h : X.K = K) (hc : X.calm = true) : CallR X (.builtin "sum") (rSum K) := by
  subst h
  exact cr_sum hc
theorem cr_sumTK (h : X.K = K) (hc : X.calm = true) : CallR X (.builtin "sum") (rSumT K) := by
  subst h
  exact cr_sumT hc
theorem cr_allK (h : X.K = K) (hc : X.calm = true) : CallR X (.builtin "all") (rAll K) := by
  subst h
  exact cr_all hc
theorem pe_bmK {e : Expr} {T : String} {r : V → List V → Hp → VK → Prop} {to : TE} {t : TA} (hK : X.K = K) (h : PE X e (tBM X.K T r to t)) : PE X e (tBM K T r to t) := hK ▸ h
theorem pe_bm0K {e : Expr} {T : String} {r : V → List V → Hp → VK → Prop} {to : TE} (hK : X.K = K) (h : PE X e (tBM0 X.K T r to)) : PE X e (tBM0 K T r to) := hK ▸ h
theorem pe_fldK {e : Expr} {ta : TE} {f : Str} (hK : X.K = K) (h : PE X e (tFld X.K ta f)) : PE X e (tFld K ta f) := hK ▸ h
theorem pe_mfK {e : Expr} {c m : Str} {sp : Sp} {dvs : List V} {E : XK} {ta : TE} {t : TA} (hK : X.K = K) (h : PE X e (tMeth (He.ga X.K c) m sp dvs E ta t)) : PE X e (tMeth (He.ga K c) m sp dvs E ta t) := hK ▸ h
theorem pe_mkfK {e : Expr} {c : Str} {sp : Sp} {dvs : List V} {E : XK} {t : TA} (hK : X.K = K) (h : PE X e (tMake (He.ga X.K c) sp dvs E t)) : PE X e (tMake (He.ga K c) sp dvs E t) := hK ▸ h
theorem pe_clsK {e : Expr} {c : Str} (hK : X.K = K) (h : PE X e (tC (.ref (He.ga X.K c)))) : PE X e (tC (.ref (He.ga K c))) := hK ▸ h
end
end WV
end
section
set_option maxRecDepth 100000
set_option maxHeartbeats 4000000
namespace WV
open PySem PySem.Spec PyProof.Rows L2
/-! ### words that fit -/
def wV (ws : List (List Nat)) : List V := ws.map fun w => V.str (SX.S w)
theorem wV_map (ws : List (List Nat)) : (ws.map SX.S).map V.str = wV ws := by
  unfold wV
  rw [List.map_map]
  rfl
/-- a begins b -/
def preB (a b : List Nat) : Bool := b.take a.length == a
theorem starts_S (a b : List Nat) : Txt.startswith (SX.S b) (SX.S a) = preB a b := by
  unfold Txt.startswith preB
  rw [StrLaws.subAt_eq, SX.S_len, SX.S_len, List.drop_zero]
  show (decide (0 + a.length ≤ b.length) && (List.take a.length b == a)) = _
  by_cases h : a.length ≤ b.length
  · rw [decide_eq_true (by omega), Bool.true_and]
  · rw [decide_eq_false (by omega), Bool.false_and]
    symm
    rw [beq_eq_false_iff_ne]
    intro e
    have := congrArg List.length e
    rw [List.length_take] at this
    omega
structure WOk (ls : List Int) (ws : List (List Nat)) : Prop where
  len : ws.map (fun w => (w.length : Int)) = ls
  bits : ∀ w ∈ ws, ∀ c ∈ w, c = 48 ∨ c = 49
  pf : ws.Pairwise fun a b => preB a b = false ∧ preB b a = false
theorem WOk.at {ls : List Int} {ws : List (List Nat)} (h : WOk ls ws) {i : Nat} {l : Int} (hl : ls[i]? = some l) : ∃ w, ws[i]? = some w ∧ l = (w.length : Nat) := by
  rw [← h.len, List.getElem?_map] at hl
  obtain ⟨w, h1, rfl⟩ := Option.map_eq_some_iff.mp hl
  exact ⟨w, h1, rfl⟩
section
variable {P : Program} {w : World} {K : PySem.W.Frag} {mg : Str → Option Value} {base : Heap}
theorem sc_is_bits : FnScope ["value", "size", "bit"] ["value", "size"] (defScope s_is_bits) := ⟨rfl, rfl, rfl, by decide +kernel, rfl, by decide +kernel, by decide +kernel⟩
def sp_is_bits : Sp := fun vs H Q _ => ∃ (b : List Nat) (n : Int), vs = [.str (SX.S b), .int n] ∧ (b.length : Int) = n ∧ b.length ≤ 100 ∧ (∀ c ∈ b, c = 48 ∨ c = 49) ∧ ∀ H', Same H H' → Q (.bl true) H'
theorem ok_is_bits (t : T K mg) : Okf P w K mg base 1 ("is_bits", none) ["value", "size"] [] sp_is_bits := by
  refine okf (d := d_is_bits) t 6 rfl rfl sc_is_bits (fun _ _ _ _ _ _ us hl => match us, hl with | [_, _], _ => rfl) (fun vs H Q E h => ?_) (fun cdv A outer s H vs Q E hr h => ?_)
  · obtain ⟨b, n, rfl, _⟩ := h
    rfl
  · obtain ⟨b, n, rfl, hl, h100, hb, q⟩ := h
    refine ⟨_, (pss_one (ps_ret (pe_and (pe_callB call_isi (by rfl) t.b_isinstance bt_isinstance (pa_cons (pv 0) (pa_cons (pe_bt t.b_str bt_str) pa_nil))) (pe_and (pe_cmpR op_eq (pe_callB call_len_str (by rfl) t.b_len bt_len (pa_cons (pv 0) pa_nil)) (pv 1) (nomark _)) (pe_one (pe_callB (cr_all rfl) (by rfl) t.b_all bt_all (pa_cons (pe_lc (own := [("bit", 2)]) (g := gName 2) (tt := tYes) rfl sc_is_bits.nd (pi_str (pv 0)) (blkOk_by (own := [("bit", 2)]) (N := ["value", "size", "bit"]) (sc := defScope s_is_bits) (by decide +kernel)) (fun _ _ _ _ _ => (pg_name (i := 2) sc_is_bits.nd rfl (.inl rfl))) (fun _ _ _ _ _ => pts_nil) (fun _ _ _ _ _ => (pe_cmpR (op_in_seqK (K := K) rfl) (pv 2) (pe_tup (pa_cons pe_str (pa_cons pe_str pa_nil))) (by rfl)))) pa_nil))))))), ?_⟩
    refine ⟨_, rfl, _, _, _, _, true, rfl, .ty _, .base (.str _), kit_ty (by decide +kernel), true, rfl, ?_⟩
    refine ⟨_, rfl, _, rfl, by rw [SX.S_len, sizeLine_eq]; omega, _, rfl, rfl, true, ?_, ?_⟩
    · rw [SX.S_len, hl, decide_eq_true rfl]
    refine ⟨_, rfl, _, rfl, fun D hD => ?_⟩
    have hn : (SX.S b).cps.size = b.length := by simp
    refine lc_all (K := K) walk_str hD (by rw [hn]; omega) (fun H' _ => trivial) (fun i => .v (.bl true)) (fun i => rfl) (fun i x H1 H2 hi s1 y Qk kq => ?_) (fun H' ys s1 e r => ?_)
    · obtain ⟨rfl, c, hc, rfl⟩ := y
      refine ⟨rfl, _, rfl, by show 2 ≤ sizeLine; decide, fun p hp => ⟨p, _, rfl, .inr (SqT.of upd_same), rfl, by decide, ?_⟩⟩
      have hc2 : b[i]? = some c := by simpa using hc
      rcases hb c (List.mem_of_getElem? hc2) with rfl | rfl
      · exact kq _ _ (Same.new hp) (.v _)
      · exact kq _ _ (Same.new hp) (.v _)
    · have e3 : (List.range (SX.S b).cps.size).map (fun i => Dat.v (.bl true)) = fD ((List.replicate b.length true).map V.bl) := by
        unfold fD
        rw [hn, List.map_map, List.map_replicate, List.map_const', List.length_range]
        rfl
      rw [e3] at r
      rw [r.unflat] at e
      refine ⟨D, _, rfl, SqL.of e, ?_⟩
      rw [show (List.replicate b.length true).all id = true by simp]
      exact q H' s1
theorem sc_checked_words : FnScope ["lengths", "words", "index", "length", "order", "word", "after"] ["lengths", "words"] (defScope s_checked_words) := ⟨rfl, rfl, rfl, by decide +kernel, rfl, by decide +kernel, by decide +kernel⟩
def sp_checked_words (K : PySem.W.Frag) : Sp := fun vs H Q _ => ∃ (a b : Addr) (ls : List Int) (ws : List (List Nat)), vs = [.ref a, .ref b] ∧ SqT K H a (ls.map V.int) ∧ SqL K H b (wV ws) ∧ ws.length ≤ 60 ∧ (∀ l ∈ ls, l ≤ 100) ∧ WOk ls ws ∧ ∀ H' D, Same H H' → SqT K H' D (wV ws) → Q (.ref D) H'
theorem ok_checked_words (t : T K mg) : Okf P w K mg base 2 ("checked_words", none) ["lengths", "words"] [] (sp_checked_words K) := by
  have O_is_bits := ok_is_bits (P := P) (w := w) (base := base) t
  refine okf (d := d_checked_words) t 7 rfl rfl sc_checked_words (fun _ _ _ _ _ _ us hl => match us, hl with | [_, _], _ => rfl) (fun vs H Q E h => ?_) (fun cdv A outer s H vs Q E hr h => ?_)
  · obtain ⟨a, b, ls, ws, rfl, _⟩ := h
    rfl
  · obtain ⟨a, b, ls, ws, rfl, ha, hb, hl, hn, ok, q⟩ := h
    refine ⟨_, (pss_cons (ps_for PassesOwn.never rfl (pi_enumA (by rfl) t.b_enumerate (pa_cons (pv 0) pa_nil)) (pg_tup rfl (pgs_cons (pg_name (i := 2) sc_checked_words.nd rfl (.inl rfl)) (pgs_cons (pg_name (i := 3) sc_checked_words.nd rfl (.inl rfl)) pgs_nil)))
        (pss_one (ps_if (pt_not (pt_val (pe_f O_is_bits (hr.mono (by decide)) t.g_is_bits (pa_cons (pe_ix ix_list (pv 1) (pv 2) (fun _ _ => rfl)) (pa_cons (pv 3) pa_nil)))))
          (pss_one ps_never)
          pss_nil)))
      (pss_cons (ps_set (i := 4) sc_checked_words.nd rfl (.inl rfl) (pe_callB cr_sortedS (by rfl) t.b_sorted bt_sorted (pa_cons (pv 1) pa_nil)))
      (pss_cons (ps_if (pt_val (pe_callB (cr_any rfl) (by rfl) t.b_any bt_any (pa_cons (pe_lc (own := [("word", 5), ("after", 6)]) (g := gTup K 2 (gCons (gName 5) (gCons (gName 6) gNil))) (tt := tYes) rfl sc_checked_words.nd (pi_zip2A (by rfl) t.b_zip (pa_cons (pv 4) (pa_cons (pe_slice sl_list (pv 4) (po_some pe_int) po_none) pa_nil))) (blkOk_by (own := [("word", 5), ("after", 6)]) (N := ["lengths", "words", "index", "length", "order", "word", "after"]) (sc := defScope s_checked_words) (by decide +kernel)) (fun _ _ _ _ _ => (pg_tup rfl (pgs_cons (pg_name (i := 5) sc_checked_words.nd rfl (.inl rfl)) (pgs_cons (pg_name (i := 6) sc_checked_words.nd rfl (.inl rfl)) pgs_nil)))) (fun _ _ _ _ _ => pts_nil) (fun _ _ _ _ _ => (pe_bmK (K := K) rfl (pe_bm PySem.F.plainAttrs_str PySem.F.slot_str_startswith PySem.F.type_str_startswith mt_startswith (pv 6) (pa_cons (pv 5) pa_nil))))) pa_nil)))
        (pss_one ps_never)
        pss_nil)
      (pss_one (ps_ret (pe_callTy call_tuple_of (by rfl) t.b_tuple bt_tuple (pa_cons (pv 1) pa_nil))))))), ?_⟩
    refine ⟨.ref a, rfl, a, ls.map V.int, false, rfl, ha, for_it (walk_enumA (k := false) (xs := ls.map V.int)) (fun i σ H' => Same H H' ∧ ∃ x y, σ = [some (.ref a), some (.ref b), x, y, none, none, none]) ⟨Same.refl H, _, _, rfl⟩ (fun i σ H' _ p => p.1.tup ha) (fun i x σ H1 H2 hi p y => ?_) (fun σ H1 p => ?_)⟩
    · obtain ⟨s1, x1, x2, rfl⟩ := p
      obtain ⟨T, x', y', rfl, hT, rfl, e1, e2⟩ := y
      cases e1
      obtain ⟨n, hn1, rfl⟩ := ints_at e2
      obtain ⟨v, hv, hv2⟩ := ok.at hn1
      have hl1 := hn n (List.mem_of_getElem? hn1)
      refine g_two (SqT.of upd_same) ⟨.ref b, rfl, _, rfl, b, _, _, _, rfl, rfl, (s1.trans (Same.new hT)).seq hb, atI_nat (x := V.str (SX.S v)) ?_, _, rfl, v, n, rfl, hv2.symm, by omega, ok.bits v (List.mem_of_getElem? hv), fun H3 s3 => ?_⟩
      · unfold wV
        rw [List.getElem?_map, hv]
        rfl
      · exact ⟨true, rfl, (s1.trans (Same.new hT)).trans s3, _, _, rfl⟩
    · obtain ⟨s1, x1, x2, rfl⟩ := p
      refine ⟨.ref b, rfl, b, ws.map SX.S, rfl, by rw [wV_map]; exact s1.seq hb, by rw [List.length_map]; omega, fun ys p hp1 hp2 hp3 => ?_⟩
      have s2 := s1.trans (Same.new (o := .lst (ys.map V.str)) hp3)
      have hy : SqL K (upd H1 p (.lst (ys.map V.str))) p (ys.map V.str) := SqL.of upd_same
      generalize upd H1 p (.lst (ys.map V.str)) = H2 at s2 hy
      have pfY : ys.Pairwise fun x y => Txt.startswith x y = false ∧ Txt.startswith y x = false := by
        refine (hp1.pairwise_iff (fun h => ⟨h.2, h.1⟩)).mpr ?_
        refine List.pairwise_map.mpr (ok.pf.imp fun {x y} h => ?_)
        rw [starts_S, starts_S]
        exact ⟨h.2, h.1⟩
      refine ⟨.ref p, rfl, .ref p, rfl, 1, rfl, p, _, rfl, hy, fun p2 hp4 => ?_⟩
      have s3 := s2.trans (Same.new (o := .lst (cutV (ys.map V.str) (some 1) none)) hp4)
      have ecut : cutV (ys.map V.str) (some 1) none = (ys.drop 1).map V.str := by
        unfold cutV
        rw [show (some (1 : Int)) = some ((1 : Nat) : Int) from rfl, HT.sIx_nat, HT.sIx_none, List.map_drop, List.take_of_length_le (by rw [List.length_drop]; omega)]
        by_cases h : 1 ≤ (ys.map V.str).length
        · rw [Nat.min_eq_left h]
        · rw [List.drop_of_length_le (by omega), List.drop_of_length_le (by omega)]
      rw [ecut] at s3 ⊢
      have hy2 : SqL K (upd H2 p2 (.lst ((ys.drop 1).map V.str))) p (ys.map V.str) := (Same.new hp4).seq hy
      have hz2 : SqL K (upd H2 p2 (.lst ((ys.drop 1).map V.str))) p2 ((ys.drop 1).map V.str) := SqL.of upd_same
      generalize upd H2 p2 (.lst ((ys.drop 1).map V.str)) = H3 at s3 hy2 hz2
      refine ⟨p, p2, _, _, true, true, rfl, hy2, hz2, fun D hD => ?_⟩
      have ly : ys.length = ws.length := by rw [hp1.length_eq, List.length_map]
      refine lc_all (K := K) (walk_zip2A (k := true) (k2 := true) rfl) hD (by rw [List.length_map]; omega) (fun H' s1 => ⟨s1.seq hy2, s1.seq hz2⟩) (fun i => .v (.bl false)) (fun i => rfl) (fun i x H4 H5 hi s4 y Qk kq => ?_) (fun H' zs s4 e r => ?_)
      · obtain ⟨T, x', y', rfl, hT, rfl, e1, e2⟩ := y
        obtain ⟨n, hn1, rfl⟩ := strs_at e1
        obtain ⟨m, hm1, rfl⟩ := strs_at e2
        refine g_two (SqT.of upd_same) ⟨rfl, _, rfl, rfl, _, rfl, _, _, rfl, rfl, kq _ _ (Same.new hT) ?_⟩
        rw [List.getElem?_drop] at hm1
        have hi1 := (List.getElem?_eq_some_iff.mp hn1)
        have hi2 := (List.getElem?_eq_some_iff.mp hm1)
        obtain ⟨j1, rfl⟩ := hi1
        obtain ⟨j2, rfl⟩ := hi2
        have := List.pairwise_iff_getElem.mp pfY i (1 + i) j1 j2 (by omega)
        rw [this.2]
        exact .v _
      · generalize hm : min (ys.map V.str).length ((ys.drop 1).map V.str).length = m at r
        have e3 : (List.range m).map (fun i => Dat.v (.bl false)) = fD ((List.replicate m false).map V.bl) := by
          unfold fD
          rw [List.map_map, List.map_replicate, List.map_const', List.length_range]
          rfl
        rw [e3] at r
        rw [r.unflat] at e
        refine ⟨D, _, rfl, SqL.of e, false, ?_, ?_⟩
        · rw [show (List.replicate m false).any id = false by simp]
        · exact ⟨.ref b, rfl, b, _, rfl, .inl ⟨(s3.trans s4).seq hb, fun l hl => q _ l ((s3.trans s4).trans (Same.new hl)) (SqT.of upd_same)⟩⟩
end
end WV
end
section
set_option maxRecDepth 100000
set_option maxHeartbeats 4000000
namespace WV
open PySem PySem.Spec PyProof.Rows L2
/-! ### all but one place is kept -/
def SameX (x : Addr) (H H' : Hp) : Prop := ∀ b v, b ≠ x → H b = some v → H' b = some v
theorem SameX.refl {x : Addr} (H : Hp) : SameX x H H := fun _ _ _ h => h
theorem SameX.of {x : Addr} {H H' : Hp} (s : Same H H') : SameX x H H' := fun b v _ h => s b v h
theorem SameX.trans {x : Addr} {H H' H'' : Hp} (a : SameX x H H') (b : SameX x H' H'') : SameX x H H'' := fun c v hc h => b c v hc (a c v hc h)
theorem SameX.mut {x : Addr} {H H' : Hp} {o : HO} (a : SameX x H H') : SameX x H (upd H' x o) := fun c v hc h => by
  rw [upd_ne hc]
  exact a c v hc h
theorem SameX.same {x : Addr} {H0 H H' : Hp} (h0 : H0 x = none) (s : Same H0 H) (a : SameX x H H') : Same H0 H' := fun b v h => a b v (fun e => by rw [e, h0] at h; cases h) (s b v h)
theorem SameX.seqL {x : Addr} {H H' : Hp} {K : PySem.W.Frag} {a C dx : Addr} {fs : List (Str × V)} {xs : List V} (s : SameX x H H') (hx : H x = some (.ins C dx fs)) (h : SqL K H a xs) : SqL K H' a xs := by
  rcases h with (h | ⟨o, h⟩) | h
  · exact .inl (.inl (s _ _ (fun e => by rw [e, hx] at h; cases h) h))
  · exact .inl (.inr ⟨o, s _ _ (fun e => by rw [e, hx] at h; cases h) h⟩)
  · exact .inr h
theorem SameX.tupT {x : Addr} {H H' : Hp} {K : PySem.W.Frag} {a C dx : Addr} {fs : List (Str × V)} {xs : List V} (s : SameX x H H') (hx : H x = some (.ins C dx fs)) (h : SqT K H a xs) : SqT K H' a xs := by
  rcases h with (h | ⟨o, h⟩) | h
  · exact .inl (.inl (s _ _ (fun e => by rw [e, hx] at h; cases h) h))
  · exact .inl (.inr ⟨o, s _ _ (fun e => by rw [e, hx] at h; cases h) h⟩)
  · exact .inr h
theorem _root_.L2.Same.at {H H' : Hp} {a : Addr} {o : HO} (s : Same H H') (h : H a = some o) : H' a = some o := s _ _ h
/-! ### defs with defaults -/
section
variable {P : Program} {w : World} {K : PySem.W.Frag} {mg : Str → Option Value} {base : Heap}
theorem okfD {d : He.DefD} {N ps : List Str} {k : Nat} {sp : Sp} (t : T K mg) (i : Nat) (hi : fn[i]? = some d) (n j : Nat) (hd : d.dvs K ≠ []) (hn : n + ((d.dvs K).length - j) = ps.length) (S : FnScope N ps d.scope)
    (hb : ∀ (T : Addr) (kV doc pm : Value) (an : Option Addr) (cdv ct : Value) (us its : List Value), us.length = n → its.length = (d.dvs K).length →
      ∃ k, bindArgs (PySem.W.fnOf d.name d.qual d.params d.body d.scope (.ref T) kV doc pm an cdv ct) ⟨us, []⟩ = seqItems? (.ref T) >>= k ∧ k (some its.toArray) = pure (ps.zip (us ++ its.drop j)))
    (len : ∀ vs H Q E, sp vs H Q E → vs.length = ps.length)
    (body : ∀ (cdv : Value) (A : Around) (outer : List Env) (s : Shared) (H : Hp) (vs : List V) (Q : VK) (E : XK), Room k (A.deeper (envOfC d.qual d.scope s.heap.objs.size (He.fAd K d.at_) cdv)) → sp vs H Q E →
      ∃ t, PSs (cxOf CX0 P w K mg base N d.qual d.scope (He.fAd K d.at_) cdv A outer s H E).nox d.body t ∧ t { nx := fun _ H' => Q .non H', rt := Q } (start N vs) H) :
    Okf P w K mg base (k + 1) d.at_ ps ((d.dvs K).drop j) sp := by
  obtain ⟨fd, F⟩ := t.says.def_ i hi
  obtain ⟨ds, hv, b⟩ := F.binds1 (ps := ps) n j hd hn hb
  refine ⟨⟨fd, ds, F.ok S len fun cdv A outer s H vs Q E hr hsp => ?_, b, hv⟩, F.kp⟩
  obtain ⟨tt, h, q⟩ := body cdv A outer s H vs Q E hr hsp
  exact ⟨tt, h.nox, q⟩
theorem sum_cast (f : Int → Nat) : ∀ l : List Int, (l.map fun n => ((f n : Nat) : Int)).sum = (((l.map f).sum : Nat) : Int)
  | [] => rfl
  | z :: l => by
    rw [List.map_cons, List.sum_cons, List.map_cons, List.sum_cons, sum_cast f l, Int.natCast_add]
/-! ### Code -/
theorem sc_Code_init : FnScope ["self", "lengths", "words", "index", "length", "longest"] ["self", "lengths", "words"] (defScope s_Code_init) := ⟨rfl, rfl, rfl, by decide +kernel, rfl, by decide +kernel, by decide +kernel⟩
/-- what a Code is made of -/
def sp_Code (K : PySem.W.Frag) : Sp := fun vs H Q _ => ∃ (x dx a : Addr) (wv : V) (ls : List Int) (ws : List (List Nat)), vs = [.ref x, .ref a, wv] ∧ H x = some (.ins (He.ga K "Code") dx []) ∧ SqL K H a (ls.map V.int) ∧ (2 ≤ ls.length ∧ ls.length ≤ 60) ∧ (∀ l ∈ ls, 1 ≤ l ∧ l ≤ 15) ∧ Full (ls.map Int.toNat) ∧
  ((wv = .non ∧ ws = canonF ls) ∨ ∃ b, wv = .ref b ∧ SqL K H b (wV ws) ∧ WOk ls ws) ∧ ∀ H', SameX x H H' → CodeAt K H' (.ref x) ls (ws.map SX.S) → Q .non H'
theorem code_body {t : T K mg} {cdv : Value} {A : Around} {outer : List Env} {s : Shared} {H : Hp} {vs : List V} {Q : VK} {E : XK} (hr : Room 2 (A.deeper (envOfC d_Code_init.qual d_Code_init.scope s.heap.objs.size (He.fAd K d_Code_init.at_) cdv))) (h : sp_Code K vs H Q E) :
      ∃ t, PSs (cxOf CX0 P w K mg base ["self", "lengths", "words", "index", "length", "longest"] d_Code_init.qual d_Code_init.scope (He.fAd K d_Code_init.at_) cdv A outer s H E).nox d_Code_init.body t ∧ t { nx := fun _ H' => Q .non H', rt := Q } (start ["self", "lengths", "words", "index", "length", "longest"] vs) H := by
  have O_check_signs := ok_check_signs (P := P) (w := w) (base := base) t
  have O_is_count := ok_is_count (P := P) (w := w) (base := base) t
  have O_two_power := ok_two_power (P := P) (w := w) (base := base) t
  have O_canonical := ok_canonical (P := P) (w := w) (base := base) t
  have O_checked_words := ok_checked_words (P := P) (w := w) (base := base) t
  obtain ⟨x, dx, a, wv, ls, ws, rfl, hx, ha, hl, hn, hf, hw, q⟩ := h
  refine ⟨_, (pss_cons (ps_expr (pe_f O_check_signs (hr.mono (by decide)) t.g_check_signs (pa_cons (pe_callB call_len_seq (by rfl) t.b_len bt_len (pa_cons (pv 1) pa_nil)) pa_nil)))
      (pss_cons (ps_for PassesOwn.never rfl (pi_enumA (by rfl) t.b_enumerate (pa_cons (pv 1) pa_nil)) (pg_tup rfl (pgs_cons (pg_name (i := 3) sc_Code_init.nd rfl (.inl rfl)) (pgs_cons (pg_name (i := 4) sc_Code_init.nd rfl (.inl rfl)) pgs_nil)))
        (pss_one (ps_if (PW.pt (pw_or (pt_not (pt_val (pe_f O_is_count (hr.mono (by decide)) t.g_is_count (pa_cons (pv 4) pa_nil)))) (pw_or1 (pt_not (pt_chain op_le op_le pe_int (pv 4) (pe_k t.i_MOST_LENGTH))))))
          (pss_one ps_never)
          pss_nil)))
      (pss_cons (ps_set (i := 5) sc_Code_init.nd rfl (.inr rfl) (pe_callB (cr_max rfl) (by rfl) t.b_max bt_max (pa_cons (pv 1) pa_nil)))
      (pss_cons (ps_if (pt_cmpR op_ne (pe_callB (cr_sum rfl) (by rfl) t.b_sum bt_sum (pa_cons (pe_lc (own := [("length", 4)]) (g := gName 4) (tt := tYes) rfl sc_Code_init.nd (pi_list (pv 1)) (blkOk_by (own := [("length", 4)]) (N := ["self", "lengths", "words", "index", "length", "longest"]) (sc := defScope s_Code_init) (by decide +kernel)) (fun _ _ _ _ _ => (pg_name (i := 4) sc_Code_init.nd rfl (.inl rfl))) (fun _ _ _ _ _ => pts_nil) (fun _ _ _ _ _ => (pe_f O_two_power (hr.mono (by decide)) t.g_two_power (pa_cons (pe_op op_sub (pv 5) (pv 4)) pa_nil)))) pa_nil)) (pe_f O_two_power (hr.mono (by decide)) t.g_two_power (pa_cons (pv 5) pa_nil)) (nomark _))
        (pss_one ps_never)
        pss_nil)
      (pss_cons (ps_fld (pv 0) (pe_callTy call_tuple_of (by rfl) t.b_tuple bt_tuple (pa_cons (pv 1) pa_nil)) rfl)
      (pss_cons (ps_fld (pv 0) (pe_ifExp (pt_cmpR op_isN (pv 2) pe_non (nomark _)) (pe_f O_canonical (hr.mono (by decide)) t.g_canonical (pa_cons (pe_fld (pv 0) rfl) pa_nil)) (pe_f O_checked_words (hr.mono (by decide)) t.g_checked_words (pa_cons (pe_fld (pv 0) rfl) (pa_cons (pv 2) pa_nil)))) rfl)
      (pss_cons (ps_fld (pv 0) (pe_callB call_len_seq (by rfl) t.b_len bt_len (pa_cons (pe_fld (pv 0) rfl) pa_nil)) rfl)
      (pss_one (ps_fld (pv 0) (pv 5) rfl))))))))), ?_⟩
  refine ⟨.ref a, rfl, a, _, rfl, .inl ha, ls.length, by rw [List.length_map]; rfl, by omega, ?_⟩
  refine ⟨.ref a, rfl, a, ls.map V.int, true, rfl, ha, for_it (walk_enumA (k := true) (xs := ls.map V.int)) (fun i σ H' => Same H H' ∧ ∃ y z, σ = [some (.ref x), some (.ref a), some wv, y, z, none]) ⟨Same.refl H, _, _, rfl⟩ (fun i σ H' _ p => p.1.seq ha) (fun i x σ H1 H2 hi p y => ?_) (fun σ H1 p => ?_)⟩
  · obtain ⟨s1, y1, z1, rfl⟩ := p
    obtain ⟨T, x', y', rfl, hT, rfl, e1, e2⟩ := y
    cases e1
    obtain ⟨n, hn1, rfl⟩ := ints_at e2
    have hb := hn n (List.mem_of_getElem? hn1)
    refine g_two (SqT.of upd_same) ⟨_, rfl, n, rfl, decide (0 ≤ n), rfl, ?_⟩
    rw [decide_eq_true (show 0 ≤ n by omega)]
    refine iteF ⟨_, rfl, 1, n, rfl, rfl, true, congrArg V.bl (decide_eq_true hb.1), iteT ⟨n, 1999, rfl, rfl, true, congrArg V.bl (decide_eq_true (by omega)), ?_⟩⟩
    exact ⟨s1.trans (Same.new hT), _, _, rfl⟩
  · obtain ⟨s1, y1, z1, rfl⟩ := p
    have ha1 := s1.seq ha
    refine ⟨.ref a, rfl, a, ls, rfl, ha1, by omega, fun m hm hmx => ?_⟩
    have hb := hn m hm
    refine ⟨.ref a, rfl, a, rfl, ⟨_, ha1⟩, fun D hD => ?_⟩
    refine lc_all (K := K) (walk_list (xs := ls.map V.int)) hD (by rw [List.length_map]; omega) (fun H' s2 => s2.seq ha1) (fun i => .v (.int ((2 ^ (m.toNat - (ls.getD i 0).toNat) : Nat) : Int))) (fun i => rfl) (fun i x H2 H3 hi s2 y Qk kq => ?_) (fun H4 ys s2 e r => ?_)
    · obtain ⟨rfl, hx2⟩ := y
      obtain ⟨n, hn1, rfl⟩ := ints_at hx2
      have hb2 := hn n (List.mem_of_getElem? hn1)
      have hb3 := hmx n (List.mem_of_getElem? hn1)
      refine ⟨rfl, _, rfl, _, rfl, m, n, rfl, rfl, m.toNat - n.toNat, congrArg (fun z : Int => [V.int z]) (show m - n = ((m.toNat - n.toNat : Nat) : Int) by omega), by omega, fun H5 s5 => kq _ _ s5 ?_⟩
      rw [getD_at hn1]
      exact .v _
    · have e3 : (List.range (ls.map V.int).length).map (fun i => Dat.v (.int ((2 ^ (m.toNat - (ls.getD i 0).toNat) : Nat) : Int))) = iD (ls.map fun n => ((2 ^ (m.toNat - n.toNat) : Nat) : Int)) := by
        unfold iD
        rw [← range_get (xs := ls.map fun n => ((2 ^ (m.toNat - n.toNat) : Nat) : Int)) (fun i => ((2 ^ (m.toNat - (ls.getD i 0).toNat) : Nat) : Int)) fun i x hx => by
          rw [List.getElem?_map] at hx
          obtain ⟨u, hu, rfl⟩ := Option.map_eq_some_iff.mp hx
          rw [getD_at hu]]
        rw [List.map_map, List.length_map, List.length_map]
        rfl
      rw [e3] at r
      rw [r.unints] at e
      have eS : (ls.map fun n => ((2 ^ (m.toNat - n.toNat) : Nat) : Int)).sum = ((2 ^ m.toNat : Nat) : Int) := by
        have := hf.at (m := m.toNat) (fun l hl => by
          obtain ⟨n, hn1, rfl⟩ := List.mem_map.mp hl
          have := hmx n hn1
          omega)
        unfold kr at this
        rw [← this, List.map_map, sum_cast]
        rfl
      refine ⟨D, _, rfl, SqL.of e, ?_⟩
      refine ⟨_, rfl, m.toNat, congrArg (fun z : Int => [V.int z]) (show m = ((m.toNat : Nat) : Int) by omega), by omega, fun H5 s5 => ?_⟩
      refine ⟨rfl, false, ?_, ?_⟩
      · rw [eS, decide_eq_true rfl]
        rfl
      refine iteF ?_
      have sA := (s1.trans s2).trans s5
      have ha5 := sA.seq ha
      have hx5 := sA.at hx
      refine ⟨.ref a, rfl, a, _, rfl, .inl ⟨ha5, fun tl htl => ?_⟩⟩
      have sB := sA.trans (Same.new (o := .tup (ls.map V.int)) htl)
      have htl6 : (upd H5 tl (.tup (ls.map V.int))) tl = some (.tup (ls.map V.int)) := upd_same
      have hx6 := sB.at hx
      generalize upd H5 tl (.tup (ls.map V.int)) = H6 at sB htl6 hx6
      have tlx : tl ≠ x := fun e => by rw [e, hx6] at htl6; cases htl6
      refine ⟨.ref x, rfl, x, He.ga K "Code", dx, [], rfl, hx6, t.c_Code, t.n_Code_lengths, by decide, ?_⟩
      have sC : SameX x H (upd H6 x (.ins (He.ga K "Code") dx (putF "lengths" (.ref tl) []))) := (SameX.of sB).mut
      have hx7 : (upd H6 x (.ins (He.ga K "Code") dx (putF "lengths" (.ref tl) []))) x = some (.ins (He.ga K "Code") dx (putF "lengths" (.ref tl) [])) := upd_same
      have htl7 : SqT K (upd H6 x (.ins (He.ga K "Code") dx (putF "lengths" (.ref tl) []))) tl (ls.map V.int) := SqT.of (by rw [upd_ne tlx]; exact htl6)
      generalize upd H6 x (.ins (He.ga K "Code") dx (putF "lengths" (.ref tl) [])) = H7 at sC hx7 htl7
      rcases hw with ⟨rfl, rfl⟩ | ⟨b, rfl, hbs, ok⟩
      refine ⟨_, rfl, rfl, true, congrArg V.bl (decide_eq_true rfl), iteT ⟨.ref x, rfl, x, _, dx, _, .ref tl, rfl, hx7, t.c_Code, t.n_Code_lengths, rfl, tl, ls, rfl, htl7, by omega, fun l hl => by have := hn l hl; omega, fun H8 D2 s8 hD8 => ?_⟩⟩
      rotate_left
      have hlw : ws.length = ls.length := by
        rw [← ok.len, List.length_map]
      refine ⟨_, rfl, rfl, false, congrArg V.bl (decide_eq_false (by intro h; cases h)), iteF ⟨.ref x, rfl, x, _, dx, _, .ref tl, rfl, hx7, t.c_Code, t.n_Code_lengths, rfl, .ref b, rfl, tl, b, ls, ws, rfl, htl7, sC.seqL hx hbs, by omega, fun l hl => by have := hn l hl; omega, ok, fun H8 D2 s8 hD8 => ?_⟩⟩
      all_goals
        refine ⟨.ref x, rfl, x, _, dx, _, rfl, s8.at hx7, t.c_Code, t.n_Code_words, (by decide : (1 : Nat) < 1000), ?_⟩
        have sD := sC.trans ((SameX.of s8).mut (o := .ins (He.ga K "Code") dx (putF "words" (.ref D2) (putF "lengths" (.ref tl) []))))
        have hx9 : (upd H8 x (.ins (He.ga K "Code") dx (putF "words" (.ref D2) (putF "lengths" (.ref tl) [])))) x = some (.ins (He.ga K "Code") dx (putF "words" (.ref D2) (putF "lengths" (.ref tl) []))) := upd_same
        have tl9 := (SameX.refl H8).mut (o := .ins (He.ga K "Code") dx (putF "words" (.ref D2) (putF "lengths" (.ref tl) []))) |>.tupT (s8.at hx7) (s8.tup htl7)
        have d9 := (SameX.refl H8).mut (o := .ins (He.ga K "Code") dx (putF "words" (.ref D2) (putF "lengths" (.ref tl) []))) |>.tupT (s8.at hx7) hD8
        generalize upd H8 x (.ins (He.ga K "Code") dx (putF "words" (.ref D2) (putF "lengths" (.ref tl) []))) = H9 at sD hx9 tl9 d9
        refine ⟨.ref x, rfl, x, _, dx, _, .ref tl, rfl, hx9, t.c_Code, t.n_Code_lengths, rfl, tl, _, rfl, .inr tl9, .ref x, rfl, x, _, dx, _, rfl, hx9, t.c_Code, t.n_Code_size, (by decide : (2 : Nat) < 1000), ?_⟩
        refine ⟨_, rfl, .ref x, rfl, x, _, dx, _, rfl, upd_same, t.c_Code, t.n_Code_longest, (by decide : (3 : Nat) < 1000), q _ ?_ ?_⟩
        · exact (sD.mut).mut
        · refine ⟨x, dx, tl, D2, m, rfl, ?_, ?_, ?_⟩
          · rw [upd_same, List.length_map]
            rfl
          · exact ((SameX.refl H9).mut.mut).tupT hx9 tl9
          · rw [wV_map]
            exact ((SameX.refl H9).mut.mut).tupT hx9 d9
theorem ok_Code1 (t : T K mg) : Okf P w K mg base 3 ("Code", some "__init__") ["self", "lengths", "words"] [.non] (sp_Code K) :=
  okfD (d := d_Code_init) t 8 rfl 2 0 (by intro h; cases h) rfl sc_Code_init (fun T kV doc pm an cdv ct us its h1 h2 => match us, its, h1, h2 with | [_, _], [_], _, _ => ⟨_, rfl, rfl⟩) (fun vs H Q E h => by
    obtain ⟨x, dx, a, wv, ls, ws, rfl, _⟩ := h
    rfl) (fun cdv A outer s H vs Q E hr h => code_body (t := t) hr h)
theorem ok_Code2 (t : T K mg) : Okf P w K mg base 3 ("Code", some "__init__") ["self", "lengths", "words"] [] (sp_Code K) :=
  okfD (d := d_Code_init) t 8 rfl 3 1 (by intro h; cases h) rfl sc_Code_init (fun T kV doc pm an cdv ct us its h1 h2 => match us, its, h1, h2 with | [_, _, _], [_], _, _ => ⟨_, rfl, rfl⟩) (fun vs H Q E h => by
    obtain ⟨x, dx, a, wv, ls, ws, rfl, _⟩ := h
    rfl) (fun cdv A outer s H vs Q E hr h => code_body (t := t) hr h)
end
end WV
end
section
set_option maxRecDepth 100000
set_option maxHeartbeats 4000000
namespace WV
open PySem PySem.Spec PyProof.Rows L2
structure COk (ls : List Int) (ws : List (List Nat)) : Prop where
  wok : WOk ls ws
  full : Full (ls.map Int.toNat)
  two : 2 ≤ ls.length
  sixty : ls.length ≤ 60
  bnd : ∀ l ∈ ls, 1 ≤ l ∧ l ≤ 15
structure CC (K : PySem.W.Frag) (H : Hp) (c : V) (a : Addr) (ls : List Int) (ws : List Str) (ns : List Int) : Prop where
  code : CodeAt K H c ls ws
  cnt : SqA K H a (ns.map V.int)
  len : ns.length = ls.length
  two : 2 ≤ ns.length
  sixty : ns.length ≤ 60
  pos : ∀ n ∈ ns, 0 ≤ n
  bnd : ∀ l ∈ ls, 0 ≤ l ∧ l ≤ 1000
theorem CC.mono {K : PySem.W.Frag} {H H' : Hp} {c : V} {a : Addr} {ls : List Int} {ws : List Str} {ns : List Int} (e : Same H H') (h : CC K H c a ls ws ns) : CC K H' c a ls ws ns :=
  ⟨h.code.mono e, e.sqa h.cnt, h.len, h.two, h.sixty, h.pos, h.bnd⟩
section
variable {P : Program} {w : World} {K : PySem.W.Frag} {mg : Str → Option Value} {base : Heap}
theorem sc_check_pair : FnScope ["code", "counts"] ["code", "counts"] (defScope s_check_pair) := ⟨rfl, rfl, rfl, by decide +kernel, rfl, by decide +kernel, by decide +kernel⟩
def sp_check_pair (K : PySem.W.Frag) : Sp := fun vs H Q _ => ∃ c a ls ws ns, vs = [c, .ref a] ∧ CC K H c a ls ws ns ∧ ∀ H', Same H H' → Q .non H'
theorem ok_check_pair (t : T K mg) : Okf P w K mg base 3 ("check_pair", none) ["code", "counts"] [] (sp_check_pair K) := by
  have O_check_counts := ok_check_counts (P := P) (w := w) (base := base) t
  refine okf (d := d_check_pair) t 11 rfl rfl sc_check_pair (fun _ _ _ _ _ _ us hl => match us, hl with | [_, _], _ => rfl) (fun vs H Q E h => ?_) (fun cdv A outer s H vs Q E hr h => ?_)
  · obtain ⟨c, a, ls, ws, ns, rfl, _⟩ := h
    rfl
  · obtain ⟨c, a, ls, ws, ns, rfl, h, q⟩ := h
    refine ⟨_, (pss_cons (ps_expr (pe_f O_check_counts (hr.mono (by decide)) t.g_check_counts (pa_cons (pv 1) pa_nil)))
      (pss_one (ps_if (pt_cmpR op_ne (pe_callB call_len_seq (by rfl) t.b_len bt_len (pa_cons (pv 1) pa_nil)) (pe_fld (pv 0) rfl) (nomark _))
        (pss_one ps_never)
        pss_nil))), ?_⟩
    have h2 := h.two
    have h6 := h.sixty
    refine ⟨.ref a, rfl, a, ns, rfl, h.cnt, ⟨h.two, by omega⟩, h.pos, fun H1 s1 => ?_⟩
    have h' := h.mono s1
    obtain ⟨ca, dx, tl, tw, m, rfl, ho, _, _⟩ := h'.code.ex
    refine ⟨.ref a, rfl, a, _, rfl, h'.cnt, .ref ca, rfl, ca, _, dx, _, _, rfl, ho, t.c_Code, t.n_Code_size, codeF_s, rfl, false, ?_, ?_⟩
    · rw [List.length_map, h.len, decide_eq_true rfl]
      rfl
    · exact q H1 s1
theorem sc_cost : FnScope ["code", "counts"] ["code", "counts"] (defScope s_cost) := ⟨rfl, rfl, rfl, by decide +kernel, rfl, by decide +kernel, by decide +kernel⟩
def sp_cost (K : PySem.W.Frag) : Sp := fun vs H Q _ => ∃ c a ls ws ns, vs = [c, .ref a] ∧ CC K H c a ls ws ns ∧ ∀ H', Same H H' → Q (.int (dot ns ls)) H'
theorem ok_cost (t : T K mg) : Okf P w K mg base 4 ("cost", none) ["code", "counts"] [] (sp_cost K) := by
  have O_check_pair := ok_check_pair (P := P) (w := w) (base := base) t
  have O_cost_by := ok_cost_by (P := P) (w := w) (base := base) t
  refine okf (d := d_cost) t 13 rfl rfl sc_cost (fun _ _ _ _ _ _ us hl => match us, hl with | [_, _], _ => rfl) (fun vs H Q E h => ?_) (fun cdv A outer s H vs Q E hr h => ?_)
  · obtain ⟨c, a, ls, ws, ns, rfl, _⟩ := h
    rfl
  · obtain ⟨c, a, ls, ws, ns, rfl, h, q⟩ := h
    refine ⟨_, (pss_cons (ps_expr (pe_f O_check_pair (hr.mono (by decide)) t.g_check_pair (pa_cons (pv 0) (pa_cons (pv 1) pa_nil))))
      (pss_one (ps_ret (pe_f O_cost_by (hr.mono (by decide)) t.g_cost_by (pa_cons (pv 0) (pa_cons (pv 1) pa_nil)))))), ?_⟩
    have h6 := h.sixty
    have hl := h.len
    refine ⟨_, rfl, _, rfl, c, a, ls, ws, ns, rfl, h, fun H1 s1 => ?_⟩
    have h' := h.mono s1
    exact ⟨_, rfl, _, rfl, c, a, ls, ws, ns, rfl, h'.code, h'.cnt, ⟨by omega, hl, h.bnd⟩, fun H2 s2 => q _ (s1.trans s2)⟩
theorem sc_least_cost : FnScope ["counts"] ["counts"] (defScope s_least_cost) := ⟨rfl, rfl, rfl, by decide +kernel, rfl, by decide +kernel, by decide +kernel⟩
def sp_least_cost (K : PySem.W.Frag) : Sp := fun vs H Q _ => ∃ a ns, vs = [.ref a] ∧ SqA K H a (ns.map V.int) ∧ (2 ≤ ns.length ∧ ns.length ≤ 60) ∧ (∀ n ∈ ns, 0 ≤ n) ∧ ∀ H', Same H H' → Q (.int (lo ns)) H'
theorem ok_least_cost (t : T K mg) : Okf P w K mg base 3 ("least_cost", none) ["counts"] [] (sp_least_cost K) := by
  have O_check_counts := ok_check_counts (P := P) (w := w) (base := base) t
  have O_least_of := ok_least_of (P := P) (w := w) (base := base) t
  refine okf (d := d_least_cost) t 16 rfl rfl sc_least_cost (fun _ _ _ _ _ _ us hl => match us, hl with | [_], _ => rfl) (fun vs H Q E h => ?_) (fun cdv A outer s H vs Q E hr h => ?_)
  · obtain ⟨a, ns, rfl, _⟩ := h
    rfl
  · obtain ⟨a, ns, rfl, ha, hl, hn, q⟩ := h
    refine ⟨_, (pss_cons (ps_expr (pe_f O_check_counts (hr.mono (by decide)) t.g_check_counts (pa_cons (pv 0) pa_nil)))
      (pss_one (ps_ret (pe_f O_least_of (hr.mono (by decide)) t.g_least_of (pa_cons (pv 0) pa_nil))))), ?_⟩
    refine ⟨.ref a, rfl, a, ns, rfl, ha, ⟨hl.1, by omega⟩, hn, fun H1 s1 => ?_⟩
    exact ⟨.ref a, rfl, a, ns, rfl, s1.sqa ha, ⟨hl.1, by omega⟩, hn, fun H2 s2 => q _ (s1.trans s2)⟩
theorem sc_is_least_for : FnScope ["code", "counts"] ["code", "counts"] (defScope s_is_least_for) := ⟨rfl, rfl, rfl, by decide +kernel, rfl, by decide +kernel, by decide +kernel⟩
def sp_is_least_for (K : PySem.W.Frag) : Sp := fun vs H Q _ => ∃ c a ls ws ns, vs = [c, .ref a] ∧ CC K H c a ls ws ns ∧ ∀ H', Same H H' → Q (.bl (decide (dot ns ls = lo ns))) H'
theorem ok_is_least_for (t : T K mg) : Okf P w K mg base 3 ("is_least_for", none) ["code", "counts"] [] (sp_is_least_for K) := by
  have O_least_of := ok_least_of (P := P) (w := w) (base := base) t
  have O_cost_by := ok_cost_by (P := P) (w := w) (base := base) t
  refine okf (d := d_is_least_for) t 19 rfl rfl sc_is_least_for (fun _ _ _ _ _ _ us hl => match us, hl with | [_, _], _ => rfl) (fun vs H Q E h => ?_) (fun cdv A outer s H vs Q E hr h => ?_)
  · obtain ⟨c, a, ls, ws, ns, rfl, _⟩ := h
    rfl
  · obtain ⟨c, a, ls, ws, ns, rfl, h, q⟩ := h
    refine ⟨_, (pss_one (ps_ret (pe_cmpR op_eq (pe_f O_cost_by (hr.mono (by decide)) t.g_cost_by (pa_cons (pv 0) (pa_cons (pv 1) pa_nil))) (pe_f O_least_of (hr.mono (by decide)) t.g_least_of (pa_cons (pv 1) pa_nil)) (nomark _)))), ?_⟩
    have h6 := h.sixty
    have hl := h.len
    refine ⟨_, rfl, _, rfl, c, a, ls, ws, ns, rfl, h.code, h.cnt, ⟨by omega, hl, h.bnd⟩, fun H1 s1 => ?_⟩
    refine ⟨_, rfl, a, ns, rfl, s1.sqa h.cnt, ⟨h.two, by omega⟩, h.pos, fun H2 s2 => ?_⟩
    have e : decide (V.int (dot ns ls) = V.int (lo ns)) = decide (dot ns ls = lo ns) := by
      by_cases c : dot ns ls = lo ns
      · rw [decide_eq_true c, decide_eq_true (by rw [c])]
      · rw [decide_eq_false c, decide_eq_false (fun h => c (by injection h))]
    refine ⟨rfl, ?_⟩
    rw [e]
    exact q _ (s1.trans s2)
theorem sc_is_least : FnScope ["code", "counts"] ["code", "counts"] (defScope s_is_least) := ⟨rfl, rfl, rfl, by decide +kernel, rfl, by decide +kernel, by decide +kernel⟩
def sp_is_least (K : PySem.W.Frag) : Sp := fun vs H Q _ => ∃ c a ls ws ns, vs = [c, .ref a] ∧ CC K H c a ls ws ns ∧ ∀ H', Same H H' → Q (.bl (decide (dot ns ls = lo ns))) H'
theorem ok_is_least (t : T K mg) : Okf P w K mg base 4 ("is_least", none) ["code", "counts"] [] (sp_is_least K) := by
  have O_check_pair := ok_check_pair (P := P) (w := w) (base := base) t
  have O_is_least_for := ok_is_least_for (P := P) (w := w) (base := base) t
  refine okf (d := d_is_least) t 20 rfl rfl sc_is_least (fun _ _ _ _ _ _ us hl => match us, hl with | [_, _], _ => rfl) (fun vs H Q E h => ?_) (fun cdv A outer s H vs Q E hr h => ?_)
  · obtain ⟨c, a, ls, ws, ns, rfl, _⟩ := h
    rfl
  · obtain ⟨c, a, ls, ws, ns, rfl, h, q⟩ := h
    refine ⟨_, (pss_cons (ps_expr (pe_f O_check_pair (hr.mono (by decide)) t.g_check_pair (pa_cons (pv 0) (pa_cons (pv 1) pa_nil))))
      (pss_one (ps_ret (pe_f O_is_least_for (hr.mono (by decide)) t.g_is_least_for (pa_cons (pv 0) (pa_cons (pv 1) pa_nil)))))), ?_⟩
    refine ⟨_, rfl, _, rfl, c, a, ls, ws, ns, rfl, h, fun H1 s1 => ?_⟩
    exact ⟨_, rfl, _, rfl, c, a, ls, ws, ns, rfl, h.mono s1, fun H2 s2 => q _ (s1.trans s2)⟩
theorem sc_code_of : FnScope ["words", "word"] ["words"] (defScope s_code_of) := ⟨rfl, rfl, rfl, by decide +kernel, rfl, by decide +kernel, by decide +kernel⟩
def sp_code_of (K : PySem.W.Frag) : Sp := fun vs H Q _ => ∃ b ls ws, vs = [.ref b] ∧ SqL K H b (wV ws) ∧ COk ls ws ∧ ∀ H' v, Same H H' → CodeAt K H' v ls (ws.map SX.S) → Q v H'
theorem ok_code_of (t : T K mg) : Okf P w K mg base 5 ("code_of", none) ["words"] [] (sp_code_of K) := by
  have O_Code_init := ok_Code2 (P := P) (w := w) (base := base) t
  refine okf (d := d_code_of) t 10 rfl rfl sc_code_of (fun _ _ _ _ _ _ us hl => match us, hl with | [_], _ => rfl) (fun vs H Q E h => ?_) (fun cdv A outer s H vs Q E hr h => ?_)
  · obtain ⟨b, ls, ws, rfl, _⟩ := h
    rfl
  · obtain ⟨b, ls, ws, rfl, hb, ok, q⟩ := h
    refine ⟨_, (pss_one (ps_ret (pe_mkf O_Code_init t.m_Code (hr.mono (by decide)) t.g_Code (pa_cons (pe_lc (own := [("word", 1)]) (g := gName 1) (tt := tYes) rfl sc_code_of.nd (pi_list (pv 0)) (blkOk_by (own := [("word", 1)]) (N := ["words", "word"]) (sc := defScope s_code_of) (by decide +kernel)) (fun _ _ _ _ _ => (pg_name (i := 1) sc_code_of.nd rfl (.inl rfl))) (fun _ _ _ _ _ => pts_nil) (fun _ _ _ _ _ => (pe_callB call_len_str (by rfl) t.b_len bt_len (pa_cons (pv 1) pa_nil)))) (pa_cons (pv 0) pa_nil))))), ?_⟩
    have l1 : ws.length = ls.length := by rw [← ok.wok.len, List.length_map]
    have l2 : (wV ws).length = ws.length := by unfold wV; rw [List.length_map]
    have l3 := ok.sixty
    refine ⟨.ref b, rfl, b, rfl, ⟨_, hb⟩, fun D hD => ?_⟩
    refine lc_all (K := K) (walk_list (xs := wV ws)) hD (by omega) (fun H' s2 => s2.seq hb) (fun i => .v (.int (ls.getD i 0))) (fun i => rfl) (fun i x H2 H3 hi s2 y Qk kq => ?_) (fun H4 ys s2 e r => ?_)
    · obtain ⟨rfl, hx⟩ := y
      unfold wV at hx
      rw [List.getElem?_map] at hx
      obtain ⟨v, hv, rfl⟩ := Option.map_eq_some_iff.mp hx
      have hl : ls[i]? = some (v.length : Int) := by
        rw [← ok.wok.len, List.getElem?_map, hv]
        rfl
      have hb1 := ok.bnd _ (List.mem_of_getElem? hl)
      refine ⟨rfl, _, rfl, _, rfl, by rw [SX.S_len, sizeLine_eq]; omega, kq _ _ (Same.refl _) ?_⟩
      rw [SX.S_len, getD_at hl]
      exact .v _
    · have e3 : (List.range (wV ws).length).map (fun i => Dat.v (.int (ls.getD i 0))) = iD ls := by
        rw [l2, l1]
        unfold iD
        conv => rhs; rw [← range_get (xs := ls) (fun i => ls.getD i 0) fun i x hx => getD_at hx]
        rw [List.map_map]
        rfl
      rw [e3] at r
      rw [r.unints] at e
      refine ⟨.ref b, rfl, fun x dx hx hdx hne => ⟨x, dx, D, _, ls, ws, rfl, upd_same, ?_, ⟨ok.two, ok.sixty⟩, ok.bnd, ok.full, .inr ⟨b, rfl, ?_, ok.wok⟩, fun H5 s5 hc => ⟨rfl, q _ _ ?_ hc⟩⟩⟩
      · exact ((Same.new hdx).mut hx).seq (SqL.of e)
      · exact (s2.trans ((Same.new hdx).mut hx)).seq hb
      · exact s2.trans (s5.same hx ((Same.new hdx).mut hx))
theorem sc_least_code : FnScope ["counts"] ["counts"] (defScope s_least_code) := ⟨rfl, rfl, rfl, by decide +kernel, rfl, by decide +kernel, by decide +kernel⟩
def sp_least_code (K : PySem.W.Frag) : Sp := fun vs H Q _ => ∃ a ns, vs = [.ref a] ∧ SqA K H a (ns.map V.int) ∧ (2 ≤ ns.length ∧ ns.length ≤ 16) ∧ (∀ n ∈ ns, 0 ≤ n) ∧ ∀ H' v, Same H H' → CodeAt K H' v (hgI ns) ((canonF (hgI ns)).map SX.S) → Q v H'
theorem hgI_len (ns : List Int) : (hgI ns).length = ns.length := by
  unfold hgI
  rw [List.length_map, hg_len]
theorem hgI_nat (ns : List Int) : (hgI ns).map Int.toNat = hg ns := by
  unfold hgI
  rw [List.map_map]
  conv => rhs; rw [← List.map_id (hg ns)]
  rfl
theorem hgI_bnd {ns : List Int} (h2 : 2 ≤ ns.length) (h0 : ∀ n ∈ ns, 0 ≤ n) : ∀ l ∈ hgI ns, 1 ≤ l ∧ l + 1 ≤ ns.length := fun l hl => by
  obtain ⟨k, hk, rfl⟩ := List.mem_map.mp hl
  have := (hg_ok h2 h0).2.2 k hk
  omega
theorem ok_least_code (t : T K mg) : Okf P w K mg base 5 ("least_code", none) ["counts"] [] (sp_least_code K) := by
  have O_Code_init := ok_Code1 (P := P) (w := w) (base := base) t
  have O_check_counts := ok_check_counts (P := P) (w := w) (base := base) t
  have O_lengths_for := ok_lengths_for (P := P) (w := w) (base := base) t
  refine okf (d := d_least_code) t 18 rfl rfl sc_least_code (fun _ _ _ _ _ _ us hl => match us, hl with | [_], _ => rfl) (fun vs H Q E h => ?_) (fun cdv A outer s H vs Q E hr h => ?_)
  · obtain ⟨b, ns, rfl, _⟩ := h
    rfl
  · obtain ⟨a, ns, rfl, ha, hl, hn, q⟩ := h
    refine ⟨_, (pss_cons (ps_expr (pe_f O_check_counts (hr.mono (by decide)) t.g_check_counts (pa_cons (pv 0) pa_nil)))
      (pss_one (ps_ret (pe_mkf O_Code_init t.m_Code (hr.mono (by decide)) t.g_Code (pa_cons (pe_f O_lengths_for (hr.mono (by decide)) t.g_lengths_for (pa_cons (pv 0) pa_nil)) pa_nil))))), ?_⟩
    refine ⟨.ref a, rfl, a, ns, rfl, ha, ⟨hl.1, by omega⟩, hn, fun H1 s1 => ?_⟩
    refine ⟨.ref a, rfl, a, ns, rfl, s1.sqa ha, ⟨hl.1, by omega⟩, hn, fun H2 D s2 e => fun x dx hx hdx hne => ?_⟩
    have sN : Same H2 (upd (upd H2 dx (.own x)) x (.ins (He.ga K "Code") dx [])) := (Same.new hdx).mut hx
    refine ⟨x, dx, D, _, hgI ns, canonF (hgI ns), rfl, upd_same, sN.seq (SqL.of e), ?_, fun l h => ?_, ?_, .inl ⟨rfl, rfl⟩, fun H5 s5 hc => ⟨rfl, q _ _ ?_ hc⟩⟩
    · rw [hgI_len]
      omega
    · have := hgI_bnd hl.1 hn l h
      omega
    · rw [hgI_nat]
      exact (hg_ok hl.1 hn).1
    · exact (s1.trans s2).trans (s5.same hx sN)
end
end WV
end
section
set_option maxRecDepth 100000
set_option maxHeartbeats 4000000
namespace WV
open PySem PySem.Spec PyProof.Rows L2
/-! ### a sign put in, a sign struck -/
def lensW (ws : List (List Nat)) : List Int := ws.map fun w => (w.length : Int)
def putW (ws : List (List Nat)) (sg rank : Nat) : List (List Nat) := (ws.set sg (ws.getD sg [] ++ [48])).take rank ++ [ws.getD sg [] ++ [49]] ++ (ws.set sg (ws.getD sg [] ++ [48])).drop rank
def besW (w : List Nat) : List Nat := w.dropLast ++ [if w.getLast? = some 49 then 48 else 49]
def strF (w v : List Nat) : List Nat := if preB (besW w) v = true then w.dropLast ++ v.drop (besW w).length else v
def strikeW (ws : List (List Nat)) (s : Nat) : List (List Nat) := (ws.eraseIdx s).map (strF (ws.getD s []))
theorem cut_to (xs : List V) (k : Nat) : cutV xs none (some (k : Int)) = xs.take k := by
  unfold cutV
  rw [HT.sIx_none, HT.sIx_nat, List.drop_zero, Nat.sub_zero]
  by_cases h : k ≤ xs.length
  · rw [Nat.min_eq_left h]
  · rw [Nat.min_eq_right (by omega), List.take_of_length_le (Nat.le_refl _), List.take_of_length_le (by omega)]
theorem cut_from (xs : List V) (k : Nat) : cutV xs (some (k : Int)) none = xs.drop k := by
  unfold cutV
  rw [HT.sIx_none, HT.sIx_nat, List.take_of_length_le (by rw [List.length_drop]; omega)]
  by_cases h : k ≤ xs.length
  · rw [Nat.min_eq_left h]
  · rw [Nat.min_eq_right (by omega), List.drop_of_length_le (Nat.le_refl _), List.drop_of_length_le (by omega)]
theorem cutS_but (w : List Nat) : cutS (SX.S w) none (some (-1)) = SX.S w.dropLast := by
  unfold cutS
  refine congrArg SX.S ?_
  rw [HT.sIx_none, SX.S_len]
  show List.take (((-1 : Int) + (w.length : Nat)).toNat - 0) (w.drop 0) = _
  rw [List.dropLast_eq_take, List.drop_zero, Nat.sub_zero]
  congr 1
  omega
theorem cutS_from (w : List Nat) (k : Nat) : cutS (SX.S w) (some (k : Int)) none = SX.S (w.drop k) := by
  unfold cutS
  refine congrArg SX.S ?_
  rw [HT.sIx_none, SX.S_len, HT.sIx_nat]
  show (w.drop _).take _ = _
  rw [List.take_of_length_le (by rw [List.length_drop]; omega)]
  by_cases h : k ≤ w.length
  · rw [Nat.min_eq_left h]
  · rw [Nat.min_eq_right (by omega), List.drop_of_length_le (Nat.le_refl _), List.drop_of_length_le (by omega)]
theorem atI_last {α : Type} {xs : List α} {x : α} (h : xs.getLast? = some x) : atI xs (-1) = some x := by
  cases xs with
  | nil => simp at h
  | cons a r =>
    unfold atI ixN
    rw [if_neg (by decide), if_pos (by rw [List.length_cons]; omega)]
    show (a :: r)[((-1 : Int) + ((a :: r).length : Nat)).toNat]? = some x
    rw [List.getLast?_eq_getElem?] at h
    rw [← h]
    congr 1
    rw [List.length_cons]
    omega
theorem ixN_nat {n k : Nat} (h : k < n) : ixN n (k : Int) = some k := by
  unfold ixN
  rw [if_pos (by omega), if_pos (by omega)]
  congr 1
theorem COk.lenW {ls : List Int} {ws : List (List Nat)} (h : COk ls ws) : ws.length = ls.length := by rw [← h.wok.len, List.length_map]
theorem COk.wlen {ls : List Int} {ws : List (List Nat)} (h : COk ls ws) {w : List Nat} (hw : w ∈ ws) : 1 ≤ w.length ∧ w.length ≤ 15 := by
  have := h.bnd (w.length : Int) (by rw [← h.wok.len]; exact List.mem_map.mpr ⟨w, hw, rfl⟩)
  omega
theorem wV_at {ws : List (List Nat)} {i : Nat} {w : List Nat} (h : ws[i]? = some w) : (wV ws)[i]? = some (.str (SX.S w)) := by
  unfold wV
  rw [List.getElem?_map, h]
  rfl
theorem wV_len (ws : List (List Nat)) : (wV ws).length = ws.length := by
  unfold wV
  rw [List.length_map]
section
variable {P : Program} {w : World} {K : PySem.W.Frag} {mg : Str → Option Value} {base : Heap}
theorem sc_check_rank : FnScope ["code", "rank"] ["code", "rank"] (defScope s_check_rank) := ⟨rfl, rfl, rfl, by decide +kernel, rfl, by decide +kernel, by decide +kernel⟩
def sp_check_rank (K : PySem.W.Frag) : Sp := fun vs H Q _ => ∃ (c : V) (r : Nat) (ls : List Int) (ws : List Str), vs = [c, .int r] ∧ CodeAt K H c ls ws ∧ r ≤ ls.length ∧ Q .non H
theorem ok_check_rank (t : T K mg) : Okf P w K mg base 2 ("check_rank", none) ["code", "rank"] [] (sp_check_rank K) := by
  have O_is_count := ok_is_count (P := P) (w := w) (base := base) t
  refine okf (d := d_check_rank) t 22 rfl rfl sc_check_rank (fun _ _ _ _ _ _ us hl => match us, hl with | [_, _], _ => rfl) (fun vs H Q E h => ?_) (fun cdv A outer s H vs Q E hr h => ?_)
  · obtain ⟨c, r, ls, ws, rfl, _⟩ := h
    rfl
  · obtain ⟨c, r, ls, ws, rfl, hc, hl, q⟩ := h
    refine ⟨_, (pss_one (ps_if (PW.pt (pw_or (pt_not (pt_val (pe_f O_is_count (hr.mono (by decide)) t.g_is_count (pa_cons (pv 1) pa_nil)))) (pw_or1 (pt_cmpR op_gt (pv 1) (pe_fld (pv 0) rfl) (nomark _)))))
        (pss_one ps_never)
        pss_nil)), ?_⟩
    obtain ⟨ca, dx, tl, tw, m, rfl, ho, _, _⟩ := hc.ex
    refine ⟨_, rfl, (r : Int), rfl, decide ((0 : Int) ≤ (r : Int)), rfl, ?_⟩
    rw [decide_eq_true (show (0 : Int) ≤ (r : Int) by omega)]
    refine iteF ⟨_, rfl, .ref ca, rfl, ca, _, dx, _, _, rfl, ho, t.c_Code, t.n_Code_size, codeF_s, _, _, rfl, rfl, false, congrArg V.bl (decide_eq_false (by omega)), q⟩
theorem sc_is_sign_of : FnScope ["code", "value"] ["code", "value"] (defScope s_is_sign_of) := ⟨rfl, rfl, rfl, by decide +kernel, rfl, by decide +kernel, by decide +kernel⟩
def sp_is_sign_of (K : PySem.W.Frag) : Sp := fun vs H Q _ => ∃ (c : V) (r : Nat) (ls : List Int) (ws : List Str), vs = [c, .int r] ∧ CodeAt K H c ls ws ∧ r < ls.length ∧ Q (.bl true) H
theorem ok_is_sign_of (t : T K mg) : Okf P w K mg base 2 ("is_sign_of", none) ["code", "value"] [] (sp_is_sign_of K) := by
  have O_is_count := ok_is_count (P := P) (w := w) (base := base) t
  refine okf (d := d_is_sign_of) t 23 rfl rfl sc_is_sign_of (fun _ _ _ _ _ _ us hl => match us, hl with | [_, _], _ => rfl) (fun vs H Q E h => ?_) (fun cdv A outer s H vs Q E hr h => ?_)
  · obtain ⟨c, r, ls, ws, rfl, _⟩ := h
    rfl
  · obtain ⟨c, r, ls, ws, rfl, hc, hl, q⟩ := h
    refine ⟨_, (pss_one (ps_ret (pe_and (pe_f O_is_count (hr.mono (by decide)) t.g_is_count (pa_cons (pv 1) pa_nil)) (pe_one (pe_cmpR op_lt (pv 1) (pe_fld (pv 0) rfl) (nomark _)))))), ?_⟩
    obtain ⟨ca, dx, tl, tw, m, rfl, ho, _, _⟩ := hc.ex
    refine ⟨_, rfl, (r : Int), rfl, decide ((0 : Int) ≤ (r : Int)), rfl, ?_⟩
    rw [decide_eq_true (show (0 : Int) ≤ (r : Int) by omega)]
    refine iteT ⟨_, rfl, .ref ca, rfl, ca, _, dx, _, _, rfl, ho, t.c_Code, t.n_Code_size, codeF_s, _, _, rfl, rfl, ?_⟩
    show Q (V.bl (decide ((r : Int) < (ls.length : Int)))) H
    rw [decide_eq_true (show (r : Int) < (ls.length : Int) by omega)]
    exact q
theorem sc_parted_sign : FnScope ["counts"] ["counts"] (defScope s_parted_sign) := ⟨rfl, rfl, rfl, by decide +kernel, rfl, by decide +kernel, by decide +kernel⟩
def sp_parted_sign (K : PySem.W.Frag) : Sp := fun vs H Q _ => ∃ (a : Addr) (ns : List Int), vs = [.ref a] ∧ SqT K H a (ns.map V.int) ∧ 0 < ns.length ∧ ∀ H' (k : Nat), Same H H' → k < ns.length → Q (.int k) H'
theorem ok_parted_sign (t : T K mg) : Okf P w K mg base 1 ("parted_sign", none) ["counts"] [] (sp_parted_sign K) := by
  refine okf (d := d_parted_sign) t 24 rfl rfl sc_parted_sign (fun _ _ _ _ _ _ us hl => match us, hl with | [_], _ => rfl) (fun vs H Q E h => ?_) (fun cdv A outer s H vs Q E hr h => ?_)
  · obtain ⟨a, ns, rfl, _⟩ := h
    rfl
  · obtain ⟨a, ns, rfl, ha, hl, q⟩ := h
    refine ⟨_, (pss_one (ps_ret (pe_bm PySem.F.plainAttrs_list PySem.F.slot_list_index PySem.F.type_list_index mt_index (pe_callTy call_list_of (by rfl) t.b_list bt_list (pa_cons (pv 0) pa_nil)) (pa_cons (pe_callB (cr_minT rfl) (by rfl) t.b_min bt_min (pa_cons (pv 0) pa_nil)) pa_nil)))), ?_⟩
    refine ⟨_, rfl, a, _, rfl, .inr ha, fun l hl2 => ⟨.inl ⟨rfl, _, SqL.of upd_same⟩, _, rfl, a, ns, rfl, (Same.new hl2).tup ha, hl, fun m hm hmx => ?_⟩⟩
    have hx : ∃ x, x ∈ ns ∧ (x == m) = true := ⟨m, hm, beq_self_eq_true m⟩
    have h1 : ns.findIdx (· == m) < ns.length := List.findIdx_lt_length_of_exists hx
    refine ⟨l, ns.map V.int, .int m, ns.findIdx (· == m), .int (ns[ns.findIdx (· == m)]'h1), rfl, rfl, SqL.of upd_same, rfl, ?_, ?_, ?_, fun j z hj hz => ?_, q _ _ (Same.new hl2) h1⟩
    · rw [List.all_map]
      exact List.all_eq_true.mpr fun _ _ => rfl
    · rw [List.getElem?_map, List.getElem?_eq_getElem h1]
      rfl
    · exact List.findIdx_getElem (p := (· == m)) (xs := ns) (w := h1)
    · obtain ⟨n, hn, rfl⟩ := ints_at hz
      obtain ⟨hj2, rfl⟩ := List.getElem?_eq_some_iff.mp hn
      exact List.not_of_lt_findIdx (p := (· == m)) (xs := ns) hj
theorem sc_parted_code : FnScope ["code", "sign", "rank", "words", "word"] ["code", "sign", "rank"] (defScope s_parted_code) := ⟨rfl, rfl, rfl, by decide +kernel, rfl, by decide +kernel, by decide +kernel⟩
def sp_parted_code (K : PySem.W.Frag) : Sp := fun vs H Q _ => ∃ (c : V) (sg r : Nat) (ls : List Int) (ws : List (List Nat)), vs = [c, .int sg, .int r] ∧ CodeAt K H c ls (ws.map SX.S) ∧ COk ls ws ∧ sg < ws.length ∧ r ≤ ws.length ∧ COk (lensW (putW ws sg r)) (putW ws sg r) ∧
  ∀ H' v, Same H H' → CodeAt K H' v (lensW (putW ws sg r)) ((putW ws sg r).map SX.S) → Q v H'
theorem ok_parted_code (t : T K mg) : Okf P w K mg base 6 ("parted_code", none) ["code", "sign", "rank"] [] (sp_parted_code K) := by
  have O_code_of := ok_code_of (P := P) (w := w) (base := base) t
  refine okf (d := d_parted_code) t 25 rfl rfl sc_parted_code (fun _ _ _ _ _ _ us hl => match us, hl with | [_, _, _], _ => rfl) (fun vs H Q E h => ?_) (fun cdv A outer s H vs Q E hr h => ?_)
  · obtain ⟨c, sg, r, ls, ws, rfl, _⟩ := h
    rfl
  · obtain ⟨c, sg, r, ls, ws, rfl, hc, ok, hs, hr2, ok2, q⟩ := h
    refine ⟨_, (pss_cons (ps_set (i := 3) sc_parted_code.nd rfl (.inl rfl) (pe_callTy call_list_of (by rfl) t.b_list bt_list (pa_cons (pe_fld (pv 0) rfl) pa_nil)))
      (pss_cons (ps_set (i := 4) sc_parted_code.nd rfl (.inl rfl) (pe_ix ix_list (pv 3) (pv 1) (fun _ _ => rfl)))
      (pss_cons (ps_asg (pe_op op_add_str (pv 4) pe_str) (pg_sub (pv 3) (pv 1) set_list))
      (pss_one (ps_ret (pe_f O_code_of (hr.mono (by decide)) t.g_code_of (pa_cons (pe_op op_cat (pe_op op_cat (pe_slice sl_list (pv 3) po_none (po_some (pv 2))) (pe_lst (pa_cons (pe_op op_add_str (pv 4) pe_str) pa_nil))) (pe_slice sl_list (pv 3) (po_some (pv 2)) po_none)) pa_nil))))))), ?_⟩
    obtain ⟨ca, dx, tl, tw, m, rfl, ho, _, hw⟩ := hc.ex
    rw [wV_map] at hw
    have g1 : ws[sg]? = some ws[sg] := List.getElem?_eq_getElem hs
    have hm := ok.wlen (List.getElem_mem hs)
    have l60 := ok.sixty
    have lw := ok.lenW
    have lW := wV_len ws
    refine ⟨.ref ca, rfl, ca, _, dx, _, _, rfl, ho, t.c_Code, t.n_Code_words, codeF_w, tw, _, rfl, .inr hw, fun l hl => ?_⟩
    have s1 := Same.new (o := .lst (wV ws)) hl
    have el : (upd H l (.lst (wV ws))) l = some (.lst (wV ws)) := upd_same
    refine ⟨.ref l, rfl, _, rfl, l, _, _, _, rfl, rfl, SqL.of el, atI_nat (wV_at g1), ?_⟩
    refine ⟨_, rfl, _, _, rfl, rfl, by rw [SX.S_len, sizeLine_eq]; show _ + 1 ≤ _; omega, ?_⟩
    refine ⟨.ref l, rfl, _, rfl, l, wV ws, (sg : Int), sg, rfl, rfl, el, ixN_nat (by omega), ?_⟩
    have e48 : SX.S ws[sg] ++ Str.ofString "0" = SX.S (ws[sg] ++ [48]) := by
      rw [show Str.ofString "0" = SX.S [48] by decide +kernel, SX.S_cat]
    have e49 : SX.S ws[sg] ++ Str.ofString "1" = SX.S (ws[sg] ++ [49]) := by
      rw [show Str.ofString "1" = SX.S [49] by decide +kernel, SX.S_cat]
    have eset : (wV ws).set sg (V.str (SX.S ws[sg] ++ Str.ofString "0")) = wV (ws.set sg (ws[sg] ++ [48])) := by
      rw [e48]
      unfold wV
      rw [List.map_set]
    rw [eset]
    have sm : Same H (upd (upd H l (.lst (wV ws))) l (.lst (wV (ws.set sg (ws[sg] ++ [48]))))) := s1.mut hl
    have el2 : (upd (upd H l (.lst (wV ws))) l (.lst (wV (ws.set sg (ws[sg] ++ [48]))))) l = some (.lst (wV (ws.set sg (ws[sg] ++ [48])))) := upd_same
    generalize upd (upd H l (.lst (wV ws))) l (.lst (wV (ws.set sg (ws[sg] ++ [48])))) = H2 at sm el2
    have lset : (ws.set sg (ws[sg] ++ [48])).length = ws.length := List.length_set
    have gd : ws.getD sg [] = ws[sg] := getD_at g1
    have eput : putW ws sg r = (ws.set sg (ws[sg] ++ [48])).take r ++ [ws[sg] ++ [49]] ++ (ws.set sg (ws[sg] ++ [48])).drop r := by
      unfold putW
      rw [gd]
    generalize ws.set sg (ws[sg] ++ [48]) = us at *
    refine ⟨.ref l, rfl, _, rfl, _, rfl, l, wV us, rfl, SqL.of el2, fun p1 hp1 => ?_⟩
    rw [cut_to]
    have s3 := Same.new (o := .lst ((wV us).take r)) hp1
    have e3 : (upd H2 p1 (.lst ((wV us).take r))) p1 = some (.lst ((wV us).take r)) := upd_same
    generalize upd H2 p1 (.lst ((wV us).take r)) = H3 at s3 e3
    refine ⟨_, rfl, _, _, rfl, rfl, by rw [SX.S_len, sizeLine_eq]; show _ + 1 ≤ _; omega, by show 1 ≤ sizeLine; decide, fun p2 hp2 => ?_⟩
    rw [e49]
    have s4 := Same.new (o := .lst [V.str (SX.S (ws[sg] ++ [49]))]) hp2
    have e4 : (upd H3 p2 (.lst [V.str (SX.S (ws[sg] ++ [49]))])) p2 = some (.lst [V.str (SX.S (ws[sg] ++ [49]))]) := upd_same
    have e34 := s4 _ _ e3
    generalize upd H3 p2 (.lst [V.str (SX.S (ws[sg] ++ [49]))]) = H4 at s4 e4 e34
    have lus := wV_len us
    refine ⟨p1, p2, _, _, rfl, rfl, e34, e4, by rw [List.length_take, sizeLine_eq, List.length_singleton]; omega, fun p3 hp3 => ?_⟩
    have s5 := Same.new (o := .lst ((wV us).take r ++ [V.str (SX.S (ws[sg] ++ [49]))])) hp3
    have e5 : (upd H4 p3 (.lst ((wV us).take r ++ [V.str (SX.S (ws[sg] ++ [49]))]))) p3 = some (.lst ((wV us).take r ++ [V.str (SX.S (ws[sg] ++ [49]))])) := upd_same
    generalize upd H4 p3 (.lst ((wV us).take r ++ [V.str (SX.S (ws[sg] ++ [49]))])) = H5 at s5 e5
    refine ⟨.ref l, rfl, _, rfl, _, rfl, l, wV us, rfl, SqL.of (s5 _ _ (s4 _ _ (s3 _ _ el2))), fun p4 hp4 => ?_⟩
    rw [cut_from]
    have s6 := Same.new (o := .lst ((wV us).drop r)) hp4
    refine ⟨p3, p4, _, _, rfl, rfl, s6 _ _ e5, upd_same, by rw [List.length_append, List.length_take, List.length_drop, sizeLine_eq, List.length_singleton]; omega, fun p5 hp5 => ?_⟩
    have e7 : (wV us).take r ++ [V.str (SX.S (ws[sg] ++ [49]))] ++ (wV us).drop r = wV (putW ws sg r) := by
      rw [eput]
      unfold wV
      rw [List.map_append, List.map_append, List.map_take, List.map_drop]
      rfl
    rw [e7]
    have s7 := sm.trans (s3.trans (s4.trans (s5.trans (s6.trans (Same.new (o := .lst (wV (putW ws sg r))) hp5)))))
    exact ⟨p5, _, putW ws sg r, rfl, SqL.of upd_same, ok2, fun H8 v s8 h8 => q H8 v (s7.trans s8) h8⟩
end
end WV
end
section
set_option maxRecDepth 100000
set_option maxHeartbeats 4000000
namespace WV
open PySem PySem.Spec PyProof.Rows L2
section
variable {P : Program} {w : World} {K : PySem.W.Frag} {mg : Str → Option Value} {base : Heap}
theorem sc_put_sign : FnScope ["code", "counts", "rank"] ["code", "counts", "rank"] (defScope s_put_sign) := ⟨rfl, rfl, rfl, by decide +kernel, rfl, by decide +kernel, by decide +kernel⟩
/-- what a code and counts must keep for a sign put in, whichever is parted -/
def sp_put_sign (K : PySem.W.Frag) : Sp := fun vs H Q _ => ∃ (c : V) (a : Addr) (r : Nat) (ls : List Int) (ws : List (List Nat)) (ns : List Int), vs = [c, .ref a, .int r] ∧ CC K H c a ls (ws.map SX.S) ns ∧ SqT K H a (ns.map V.int) ∧ COk ls ws ∧ r ≤ ws.length ∧
  (∀ sg, sg < ws.length → COk (lensW (putW ws sg r)) (putW ws sg r)) ∧ ∀ H' v sg, Same H H' → sg < ws.length → CodeAt K H' v (lensW (putW ws sg r)) ((putW ws sg r).map SX.S) → Q v H'
theorem ok_put_sign (t : T K mg) : Okf P w K mg base 7 ("put_sign", none) ["code", "counts", "rank"] [] (sp_put_sign K) := by
  have O_check_pair := ok_check_pair (P := P) (w := w) (base := base) t
  have O_check_rank := ok_check_rank (P := P) (w := w) (base := base) t
  have O_check_signs := ok_check_signs (P := P) (w := w) (base := base) t
  have O_parted_sign := ok_parted_sign (P := P) (w := w) (base := base) t
  have O_parted_code := ok_parted_code (P := P) (w := w) (base := base) t
  refine okf (d := d_put_sign) t 26 rfl rfl sc_put_sign (fun _ _ _ _ _ _ us hl => match us, hl with | [_, _, _], _ => rfl) (fun vs H Q E h => ?_) (fun cdv A outer s H vs Q E hr h => ?_)
  · obtain ⟨c, a, r, ls, ws, ns, rfl, _⟩ := h
    rfl
  · obtain ⟨c, a, r, ls, ws, ns, rfl, hc, ha, ok, hr2, ok2, q⟩ := h
    refine ⟨_, (pss_cons (ps_expr (pe_f O_check_pair (hr.mono (by decide)) t.g_check_pair (pa_cons (pv 0) (pa_cons (pv 1) pa_nil))))
      (pss_cons (ps_expr (pe_f O_check_rank (hr.mono (by decide)) t.g_check_rank (pa_cons (pv 0) (pa_cons (pv 2) pa_nil))))
      (pss_cons (ps_expr (pe_f O_check_signs (hr.mono (by decide)) t.g_check_signs (pa_cons (pe_op op_add (pe_fld (pv 0) rfl) pe_int) pa_nil)))
      (pss_one (ps_ret (pe_f O_parted_code (hr.mono (by decide)) t.g_parted_code (pa_cons (pv 0) (pa_cons (pe_f O_parted_sign (hr.mono (by decide)) t.g_parted_sign (pa_cons (pv 1) pa_nil)) (pa_cons (pv 2) pa_nil))))))))), ?_⟩
    have lw := ok.lenW
    have l60 := ok.sixty
    have l2 := ok.two
    have ln := hc.len
    refine ⟨_, rfl, _, rfl, c, a, ls, _, ns, rfl, hc, fun H1 s1 => ?_⟩
    have hc1 := hc.mono s1
    refine ⟨_, rfl, _, rfl, c, r, ls, _, rfl, hc1.code, by omega, ?_⟩
    obtain ⟨ca, dx, tl, tw, m, ec, ho, _, hw⟩ := hc1.code.ex
    subst ec
    refine ⟨.ref ca, rfl, ca, _, dx, _, _, rfl, ho, t.c_Code, t.n_Code_size, codeF_s, _, _, rfl, rfl, _, rfl, by omega, ?_⟩
    refine ⟨_, rfl, _, rfl, a, ns, rfl, s1.tup ha, by omega, fun H2 sg s2 hsg => ?_⟩
    refine ⟨_, rfl, .ref ca, sg, r, ls, ws, rfl, (hc1.mono s2).code, ok, by omega, hr2, ok2 sg (by omega), fun H3 v s3 h3 => q H3 v sg ((s1.trans s2).trans s3) (by omega) h3⟩
theorem sc_strike_sign : FnScope ["code", "sign", "above", "last", "beside", "words", "other", "word"] ["code", "sign"] (defScope s_strike_sign) := ⟨rfl, rfl, rfl, by decide +kernel, rfl, by decide +kernel, by decide +kernel⟩
def sp_strike_sign (K : PySem.W.Frag) : Sp := fun vs H Q _ => ∃ (c : V) (s : Nat) (ls : List Int) (ws : List (List Nat)), vs = [c, .int s] ∧ CodeAt K H c ls (ws.map SX.S) ∧ COk ls ws ∧ 3 ≤ ws.length ∧ s < ws.length ∧ COk (lensW (strikeW ws s)) (strikeW ws s) ∧
  ∀ H' v, Same H H' → CodeAt K H' v (lensW (strikeW ws s)) ((strikeW ws s).map SX.S) → Q v H'
theorem erase_take {α : Type} {l : List α} {s i : Nat} {x : α} (hs : s < l.length) (h : l[i]? = some x) : (l.take (i + 1)).eraseIdx s = if i = s then (l.take i).eraseIdx s else (l.take i).eraseIdx s ++ [x] := by
  have hi := (List.getElem?_eq_some_iff.mp h).1
  rw [take_snoc h]
  have lt : (l.take i).length = i := by rw [List.length_take]; omega
  by_cases c : i = s
  · subst c
    have e1 : (l.take i).eraseIdx i = l.take i := List.eraseIdx_of_length_le (by omega)
    rw [if_pos rfl, List.eraseIdx_append_of_length_le (by omega), lt, Nat.sub_self, e1]
    show l.take i ++ [] = _
    rw [List.append_nil]
  · rw [if_neg c]
    by_cases d : s < i
    · rw [List.eraseIdx_append_of_lt_length (by omega)]
    · have e1 : (l.take i).eraseIdx s = l.take i := List.eraseIdx_of_length_le (by omega)
      have e2 : (l.take i ++ [x]).eraseIdx s = l.take i ++ [x] := List.eraseIdx_of_length_le (by rw [List.length_append, lt, List.length_singleton]; omega)
      rw [e1, e2]
theorem ok_strike_sign (t : T K mg) : Okf P w K mg base 6 ("strike_sign", none) ["code", "sign"] [] (sp_strike_sign K) := by
  have O_is_sign_of := ok_is_sign_of (P := P) (w := w) (base := base) t
  have O_check_signs := ok_check_signs (P := P) (w := w) (base := base) t
  have O_code_of := ok_code_of (P := P) (w := w) (base := base) t
  refine okf (d := d_strike_sign) t 27 rfl rfl sc_strike_sign (fun _ _ _ _ _ _ us hl => match us, hl with | [_, _], _ => rfl) (fun vs H Q E h => ?_) (fun cdv A outer s H vs Q E hr h => ?_)
  · obtain ⟨c, s, ls, ws, rfl, _⟩ := h
    rfl
  · obtain ⟨c, s0, ls, ws, rfl, hc, ok, h3, hs, ok2, q⟩ := h
    refine ⟨_, (pss_cons (ps_if (pt_not (pt_val (pe_f O_is_sign_of (hr.mono (by decide)) t.g_is_sign_of (pa_cons (pv 0) (pa_cons (pv 1) pa_nil)))))
        (pss_one ps_never)
        pss_nil)
      (pss_cons (ps_expr (pe_f O_check_signs (hr.mono (by decide)) t.g_check_signs (pa_cons (pe_op op_sub (pe_fld (pv 0) rfl) pe_int) pa_nil)))
      (pss_cons (ps_par (i := 2) (j := 3) rfl sc_strike_sign.nd rfl rfl (by decide) rfl rfl (pa_cons (pe_slice sl_str (pe_ix ix_tup (pe_fld (pv 0) rfl) (pv 1) (fun _ _ => rfl)) po_none (po_some (pe_un un_neg pe_int))) (pa_cons (pe_ix ix_str (pe_ix ix_tup (pe_fld (pv 0) rfl) (pv 1) (fun _ _ => rfl)) (pe_un un_neg pe_int) (fun _ _ => rfl)) pa_nil)) (by rfl))
      (pss_cons (ps_par (i := 4) (j := 5) rfl sc_strike_sign.nd rfl rfl (by decide) rfl rfl (pa_cons (pe_op op_add_str (pv 2) (pe_ifExp (pt_cmpR op_eq (pv 3) pe_str (nomark _)) pe_str pe_str)) (pa_cons (pe_lst pa_nil) pa_nil)) (by rfl))
      (pss_cons (ps_for PassesOwn.never rfl (pi_enumA (by rfl) t.b_enumerate (pa_cons (pe_fld (pv 0) rfl) pa_nil)) (pg_tup rfl (pgs_cons (pg_name (i := 6) sc_strike_sign.nd rfl (.inl rfl)) (pgs_cons (pg_name (i := 7) sc_strike_sign.nd rfl (.inl rfl)) pgs_nil)))
        (pss_one (ps_if (pt_cmpR op_ne (pv 6) (pv 1) (nomark _))
          (pss_one (ps_expr (pe_bm PySem.F.plainAttrs_list PySem.F.slot_list_append PySem.F.type_list_append mt_append (pv 5) (pa_cons (pe_ifExp (pt_val (pe_bm PySem.F.plainAttrs_str PySem.F.slot_str_startswith PySem.F.type_str_startswith mt_startswith (pv 7) (pa_cons (pv 4) pa_nil))) (pe_op op_add_str (pv 2) (pe_slice sl_str (pv 7) (po_some (pe_callB call_len_str (by rfl) t.b_len bt_len (pa_cons (pv 4) pa_nil))) po_none)) (pv 7)) pa_nil))))
          pss_nil)))
      (pss_one (ps_ret (pe_f O_code_of (hr.mono (by decide)) t.g_code_of (pa_cons (pv 5) pa_nil))))))))), ?_⟩
    obtain ⟨ca, dx, tl, tw, m, rfl, ho, hl0, hw⟩ := hc.ex
    have hc : CodeAt K H (.ref ca) ls (ws.map SX.S) := ⟨ca, dx, tl, tw, m, rfl, ho, hl0, hw⟩
    rw [wV_map] at hw
    have g1 : ws[s0]? = some ws[s0] := List.getElem?_eq_getElem hs
    have hm := ok.wlen (List.getElem_mem hs)
    have l60 := ok.sixty
    have lw := ok.lenW
    have hb := ok.wok.bits _ (List.getElem_mem hs)
    have eW : strikeW ws s0 = (ws.eraseIdx s0).map (strF ws[s0]) := by
      unfold strikeW
      rw [getD_at g1]
    have hmw : ∀ v ∈ ws, v.length ≤ 15 := fun v hv => (ok.wlen hv).2
    generalize hw0 : ws[s0] = w0 at *
    obtain ⟨cl, hcl⟩ : ∃ cl, w0.getLast? = some cl := by
      cases h : w0.getLast? with
      | some x => exact ⟨x, rfl⟩
      | none =>
        rw [List.getLast?_eq_none_iff] at h
        rw [h] at hm
        simp at hm
    refine ⟨_, rfl, _, rfl, .ref ca, s0, ls, _, rfl, hc, by omega, true, rfl, iteF ?_⟩
    refine ⟨.ref ca, rfl, ca, _, dx, _, _, rfl, ho, t.c_Code, t.n_Code_size, codeF_s, _, _, rfl, rfl, _, rfl, by omega, ?_⟩
    refine ⟨.ref ca, rfl, ca, _, dx, _, _, rfl, ho, t.c_Code, t.n_Code_words, codeF_w, _, rfl, tw, _, _, _, rfl, rfl, hw, atI_nat (wV_at g1), _, rfl, _, rfl, _, rfl, by rw [SX.S_len, sizeLine_eq]; omega, ?_⟩
    refine ⟨.ref ca, rfl, ca, _, dx, _, _, rfl, ho, t.c_Code, t.n_Code_words, codeF_w, _, rfl, tw, _, _, _, rfl, rfl, hw, atI_nat (wV_at g1), _, rfl, _, _, cl, rfl, rfl, by rw [SX.S_len, sizeLine_eq]; omega, atI_last hcl, _, _, rfl, ?_⟩
    rw [cutS_but]
    refine ⟨_, rfl, _, rfl, rfl, _, rfl, ?_⟩
    have e48 : Str.ofString "0" = SX.S [48] := by decide +kernel
    have e49 : Str.ofString "1" = SX.S [49] := by decide +kernel
    have ebes : ∀ c : Nat, c = (if w0.getLast? = some 49 then 48 else 49) → SX.S w0.dropLast ++ SX.S [c] = SX.S (besW w0) := fun c hc => by
      rw [SX.S_cat, hc]
      rfl
    have ld : w0.dropLast.length ≤ 15 := by
      rw [List.length_dropLast]
      omega
    have lbes : (besW w0).length ≤ 16 := by
      unfold besW
      rw [List.length_append, List.length_singleton]
      omega
    by_cases hcl2 : cl = 49
    rw [show decide (V.str ⟨#[cl]⟩ = V.str (Str.ofString "1")) = true from decide_eq_true (by rw [hcl2, e49])]
    refine iteT ⟨_, _, rfl, rfl, by rw [SX.S_len, sizeLine_eq]; show _ + 1 ≤ _; omega, by decide, fun D hD => ⟨_, _, rfl, ?_⟩⟩
    rw [e48, ebes 48 (by rw [hcl, hcl2]; rfl)]
    rotate_left
    rw [show decide (V.str ⟨#[cl]⟩ = V.str (Str.ofString "1")) = false from decide_eq_false (fun h => hcl2 (by rw [e49] at h; injection h with h; injection h with h; simpa using h))]
    refine iteF ⟨_, _, rfl, rfl, by rw [SX.S_len, sizeLine_eq]; show _ + 1 ≤ _; omega, by decide, fun D hD => ⟨_, _, rfl, ?_⟩⟩
    rw [e49, ebes 49 (by rw [hcl, if_neg (fun h => hcl2 (by injection h))])]
    all_goals
      refine ⟨.ref ca, rfl, ca, _, dx, _, _, rfl, (Same.new hD) _ _ ho, t.c_Code, t.n_Code_words, codeF_w, tw, wV ws, false, rfl, (Same.new hD).tup hw, ?_⟩
      refine for_it (walk_enumA (k := false) (xs := wV ws)) (fun i σ H' => Same H H' ∧ ∃ y z, σ = [some (.ref ca), some (.int s0), some (.str (SX.S w0.dropLast)), some (.str ⟨#[cl]⟩), some (.str (SX.S (besW w0))), some (.ref D), y, z] ∧ H' D = some (.lst (wV (((ws.take i).eraseIdx s0).map (strF w0)))))
        ⟨Same.new hD, none, none, rfl, upd_same⟩ (fun i σ H' _ p => p.1.tup hw) (fun i x σ H1 H2 hi p y => ?_) (fun σ H1 p => ?_)
      · obtain ⟨s1, y1, z1, rfl, eD⟩ := p
        obtain ⟨T, x', y', rfl, hT, rfl, e1, e2⟩ := y
        cases e1
        rw [wV_len] at hi
        have g2 : ws[i]? = some ws[i] := List.getElem?_eq_getElem hi
        have e2' : (wV ws)[i]? = some y' := e2
        rw [wV_at g2] at e2'
        injection e2' with e2'
        subst e2'
        have lv := hmw _ (List.getElem_mem hi)
        have et := erase_take hs g2
        generalize ws[i] = v at *
        have eD2 : (upd H1 T (.tup [V.int (i : Nat), V.str (SX.S v)])) D = some (.lst (wV (((ws.take i).eraseIdx s0).map (strF w0)))) := by
          rw [upd_ne (ne_of_none eD hT)]
          exact eD
        have sT := s1.trans (Same.new (o := .tup [V.int (i : Nat), V.str (SX.S v)]) hT)
        have lz : (wV (((ws.take i).eraseIdx s0).map (strF w0))).length < sizeLine := by
          have h1 := (List.eraseIdx_sublist (ws.take i) s0).length_le
          rw [wV_len, List.length_map, sizeLine_eq]
          rw [List.length_take] at h1
          omega
        refine g_two (SqT.of upd_same) ⟨_, rfl, _, rfl, rfl, _, rfl, ?_⟩
        by_cases c : i = s0
        · rw [show decide (V.int (i : Nat) = V.int (s0 : Nat)) = true from decide_eq_true (by rw [c])]
          refine iteF ⟨sT, _, _, rfl, ?_⟩
          rw [et, if_pos c]
          exact eD2
        · rw [show decide (V.int (i : Nat) = V.int (s0 : Nat)) = false from decide_eq_false (fun h => c (by injection h with h; omega))]
          rw [if_neg c] at et
          have enew : ∀ u, u = strF w0 v → (upd (upd H1 T (.tup [V.int (i : Nat), V.str (SX.S v)])) D (.lst (wV (((ws.take i).eraseIdx s0).map (strF w0)) ++ [V.str (SX.S u)]))) D = some (.lst (wV (((ws.take (i + 1)).eraseIdx s0).map (strF w0)))) := fun u hu => by
            rw [upd_same, et, hu]
            unfold wV
            rw [List.map_append, List.map_append]
            rfl
          refine iteT ⟨.ref D, rfl, .inl ⟨rfl, _, SqL.of eD2⟩, _, rfl, rfl, _, rfl, _, _, rfl, rfl, _, rfl, ?_⟩
          rw [starts_S]
          by_cases hp : preB (besW w0) v = true
          · rw [hp]
            refine iteT ⟨_, rfl, _, rfl, _, rfl, _, rfl, by rw [SX.S_len, sizeLine_eq]; omega, _, rfl, _, rfl, by rw [SX.S_len, sizeLine_eq]; omega, _, _, rfl, rfl, ?_, ?_⟩
            · rw [SX.S_len, SX.S_len, cutS_from, SX.S_len, List.length_drop, sizeLine_eq]
              omega
            · rw [SX.S_len, cutS_from, SX.S_cat]
              exact ⟨D, _, _, rfl, rfl, eD2, lz, sT.mut hD, _, _, rfl, enew _ (by unfold strF; rw [if_pos hp])⟩
          · rw [Bool.eq_false_iff.mpr hp]
            exact iteF ⟨_, rfl, D, _, _, rfl, rfl, eD2, lz, sT.mut hD, _, _, rfl, enew _ (by unfold strF; rw [if_neg hp])⟩
      · obtain ⟨s1, y1, z1, rfl, eD⟩ := p
        rw [wV_len, List.take_of_length_le (Nat.le_refl _), ← eW] at eD
        exact ⟨_, rfl, D, _, strikeW ws s0, rfl, SqL.of eD, ok2, fun H8 v s8 h8 => q H8 v (s1.trans s8) h8⟩
end
end WV
end
section
set_option maxRecDepth 100000
set_option maxHeartbeats 4000000
namespace WV
open PySem PySem.Spec PyProof.Rows L2
section
variable {P : Program} {w : World} {K : PySem.W.Frag} {mg : Str → Option Value} {base : Heap}
theorem dp_strs {H : Hp} : ∀ ws : List Str, DpAll K H (ws.map V.str) (ws.map PyData.str)
  | [] => .nil
  | x :: ws => .cons (.str x) (dp_strs ws)
theorem eqv_strs : ∀ ws : List Str, PyData.eqvAll (ws.map PyData.str) (ws.map PyData.str) = true
  | [] => by
    show PyData.eqvAll [] [] = true
    rw [PyData.eqvAll]
  | x :: ws => by
    show PyData.eqvAll (.str x :: ws.map PyData.str) (.str x :: ws.map PyData.str) = true
    rw [PyData.eqvAll, eqv_strs ws, PyData.eqv, beq_self_eq_true]
    rfl
theorem lay_strs : ∀ ws : List Str, (∀ w ∈ ws, w.cps.all (· < 0x110000) = true) → PyData.canLayAll0 (ws.map PyData.str) = true
  | [], _ => by
    show PyData.canLayAll0 [] = true
    rw [PyData.canLayAll0]
  | x :: ws, h => by
    show PyData.canLayAll0 (.str x :: ws.map PyData.str) = true
    rw [PyData.canLayAll0, lay_strs ws fun w hw => h w (List.mem_cons_of_mem _ hw), Bool.and_true, PyData.canLay0]
    exact h x List.mem_cons_self
theorem dep_strs : ∀ ws : List Str, PyData.depthAll (ws.map PyData.str) = 0
  | [] => by
    show PyData.depthAll [] = 0
    rw [PyData.depthAll]
  | x :: ws => by
    show PyData.depthAll (.str x :: ws.map PyData.str) = 0
    rw [PyData.depthAll, dep_strs ws, PyData.depth]
    rfl
theorem shaped_strs {ws : List Str} (h : ∀ w ∈ ws, w.cps.all (· < 0x110000) = true) : SeqAt.shaped (.tuple (ws.map PyData.str)) = true := by
  unfold SeqAt.shaped
  rw [PyData.canLay0, lay_strs ws h, PyData.depth, dep_strs ws]
  rfl
theorem bits_fit {ls : List Int} {ws : List (List Nat)} (h : WOk ls ws) : ∀ w ∈ ws.map SX.S, w.cps.all (· < 0x110000) = true := fun w hw => by
  obtain ⟨v, hv, rfl⟩ := List.mem_map.mp hw
  rw [← Array.all_toList]
  refine List.all_eq_true.mpr fun c hc => ?_
  rcases h.bits v hv c hc with rfl | rfl <;> decide
theorem kit_self (K : PySem.W.Frag) (v : Value) : PySem.W.kitOne K v v = some true := by
  unfold PySem.W.kitOne
  rw [if_pos (beq_self_eq_true v)]
theorem sc_Code_eq : FnScope ["self", "other"] ["self", "other"] (defScope s_Code_eq) := ⟨rfl, rfl, rfl, by decide +kernel, rfl, by decide +kernel, by decide +kernel⟩
def REq (K : PySem.W.Frag) : Addr → Addr → Hp → Prop := fun a b H => ∃ ls ms ws, CodeAt K H (.ref a) ls (ws.map SX.S) ∧ CodeAt K H (.ref b) ms (ws.map SX.S) ∧ WOk ls ws
theorem ok_Code_eq (t : T K mg) : Okf P w K mg base 1 ("Code", some "__eq__") ["self", "other"] [] (spEq (REq K)) := by
  refine okf (d := d_Code_eq) t 9 rfl rfl sc_Code_eq (fun _ _ _ _ _ _ us hl => match us, hl with | [_, _], _ => rfl) (fun vs H Q E h => ?_) (fun cdv A outer s H vs Q E hr h => ?_)
  · obtain ⟨a, b, rfl, _⟩ := h
    rfl
  · obtain ⟨a, b, rfl, ⟨ls, ms, ws, h1, h2, wok⟩, q⟩ := h
    refine ⟨_, (pss_one (ps_ret (pe_and (pe_callB call_isi (by rfl) t.b_isinstance bt_isinstance (pa_cons (pv 1) (pa_cons (pe_cls t.g_Code) pa_nil))) (pe_one (pe_cmpR (op_eqD hr.units) (pe_fld (pv 0) rfl) (pe_fld (pv 1) rfl) (nomark _)))))), ?_⟩
    obtain ⟨ca, dx, tl, tw, m, e1, ho, _, hw⟩ := h1.ex
    obtain ⟨cb, dx2, tl2, tw2, m2, e2, ho2, _, hw2⟩ := h2.ex
    injection e1 with e1
    injection e2 with e2
    subst e1 e2
    refine ⟨_, rfl, _, _, _, _, true, rfl, .own _, t.tyOf t.xC t.c_Code ho2, ?_, true, rfl, ?_⟩
    · exact kit_self K _
    have sh := shaped_strs (bits_fit wok)
    generalize ws.map SX.S = us at *
    refine ⟨.ref a, rfl, a, _, dx, _, _, rfl, ho, t.c_Code, t.n_Code_words, codeF_w, .ref b, rfl, b, _, dx2, _, _, rfl, ho2, t.c_Code, t.n_Code_words, codeF_w, ?_⟩
    refine ⟨_, _, .tup hw (dp_strs us), .tup hw2 (dp_strs us), sh, sh, ?_⟩
    have ee : PyData.eqv (.tuple (us.map PyData.str)) (.tuple (us.map PyData.str)) = true := by
      rw [PyData.eqv]
      exact eqv_strs us
    rw [ee]
    exact q _ Ext.rfl'
/-- == of two codes with the same words -/
def DCode (K : PySem.W.Frag) : Eqv := DIns (He.ga K "Code") (REq K)
theorem op_eqCode {X : Cx} {j : Nat} (t : T X.K mg) (O : Okf X.prog X.w X.K X.mg X.base 1 ("Code", some "__eq__") ["self", "other"] [] (spEq (REq X.K))) (hr : Room j X.A) (hj : 1 ≤ j) : OpR X (compareOp .Eq) (rEqG (DCode X.K)) := by
  obtain ⟨⟨fd, ds, F, b, v⟩, kp⟩ := O
  cases v
  exact op_eqG (rcG_ins (E := E0) F t.h_Code_eq.at_ t.h_Code_eq.fn b pass0) (hr.mono hj)
end
end WV
end
section
set_option maxRecDepth 100000
set_option maxHeartbeats 4000000
namespace WV
open PySem PySem.Spec PyProof.Rows L2
/-! ### a list or a tuple walked -/
def ItQ (k : Bool) (K : PySem.W.Frag) (a : Addr) : It := if k = true then Itl K a else Itt K a
def iSeq (K : PySem.W.Frag) (tl : TE) : TI := fun σ H R => tl σ H fun x H1 => ∃ a k xs, x = .ref a ∧ SeqK k K H1 a xs ∧ R (ItQ k K a) H1
theorem pi_seq {X : Cx} {tg l : Expr} {tl : TE} (hl : PE X l tl) : PI X tg l (iSeq X.K tl) := by
  refine ⟨fun pins s σ H R I h => ?_⟩
  refine thn (hl.run pins s σ H _ I h) fun v s1 ⟨x, H1, I1, r1, q1⟩ => ?_
  obtain ⟨a, k, xs, e, hq, q⟩ := q1
  subst e
  cases r1
  cases k with
  | true =>
    have q : R (Itl X.K a) H1 := q
    obtain ⟨its, rv, p, hz⟩ := I1.list hq
    refine wpAny_pyIter_list p.isList ?_
    refine ⟨s1.heap.objs.size, [s1.heap.objs.size], _, _, H1, rfl, I1.kept (t' := s1.toks) fun b o e => Heap.get?_push_of_some _ e, turn_list a _, ⟨_, Heap.get?_push_size _ rfl, rfl, rfl⟩, fun b hb => ?_, q⟩
    have e : b = s1.heap.objs.size := by simpa using hb
    subst e
    exact I1.fpOk (Nat.le_refl _) (I1.hok.fresh (Nat.le_refl _))
  | false =>
    have q : R (Itt X.K a) H1 := q
    obtain ⟨its, rv, p, hz⟩ := I1.tuple hq
    refine wpAny_pyIter_tuple (show s1.heap.IsTuple a its.toArray from p) ?_
    refine ⟨s1.heap.objs.size, [s1.heap.objs.size], _, _, H1, rfl, I1.kept (t' := s1.toks) fun b o e => Heap.get?_push_of_some _ e, turn_tuple a _, ⟨_, Heap.get?_push_size _ rfl, rfl, rfl⟩, fun b hb => ?_, q⟩
    have e : b = s1.heap.objs.size := by simpa using hb
    subst e
    exact I1.fpOk (Nat.le_refl _) (I1.hok.fresh (Nat.le_refl _))
theorem walk_seq {k : Bool} {K : PySem.W.Frag} {a : Addr} {xs : List V} : Walk (ItQ k K a) xs.length (fun H => SeqK k K H a xs) (YAt xs) := by
  cases k with
  | true => exact walk_list
  | false => exact walk_tup
/-! ### zip of three -/
def ItZ3 (k k2 k3 : Bool) (K : PySem.W.Frag) (a b c : Addr) : It :=
  ⟨fun i H => ∃ (xs ys zs : List V) (x y z : V), SeqK k K H a xs ∧ SeqK k2 K H b ys ∧ SeqK k3 K H c zs ∧ xs[i]? = some x ∧ ys[i]? = some y ∧ zs[i]? = some z,
    fun i H v H' => ∃ T x y z, v = .ref T ∧ H T = none ∧ H' = upd H T (.tup [x, y, z]) ∧ (∀ xs, SeqK k K H a xs → xs[i]? = some x) ∧ (∀ ys, SeqK k2 K H b ys → ys[i]? = some y) ∧ ∀ zs, SeqK k3 K H c zs → zs[i]? = some z,
    fun i H => ∃ xs ys zs : List V, SeqK k K H a xs ∧ SeqK k2 K H b ys ∧ SeqK k3 K H c zs ∧ i = min (min xs.length ys.length) zs.length⟩
theorem it_ne {k : Bool} {h : Heap} {a i1 : Addr} {i : Nat} {its : Array Value} (ob : ObK k h a its) (h1 : ItK k h i1 a i) : a ≠ i1 := fun e => by
  cases k with
  | true =>
    obtain ⟨o1, q1, c1, _⟩ := ob
    obtain ⟨o2, q2, c2, _⟩ := h1
    rw [e, q2] at q1
    cases q1
    rw [c1] at c2
    exact absurd c2 (by decide)
  | false =>
    obtain ⟨o1, q1, c1, _⟩ := ob
    obtain ⟨o2, q2, c2, _⟩ := h1
    rw [e, q2] at q1
    cases q1
    rw [c1] at c2
    exact absurd c2 (by decide)
theorem turn_zip3A {P : Program} {w : World} {K : PySem.W.Frag} {elts : List Expr} {kk : Nat} {tpos : Pos} {k k2 k3 : Bool} {a b c z TI TO i1 i2 i3 : Addr} (D : ZipSep3 z TI TO i1 i2 i3 [i1, a] [i2, b] [i3, c]) :
    Turn P w K (.Tuple elts kk tpos) (ItZ3 k k2 k3 K a b c) [z, TI, TO, i1, i2, i3] z (fun i h => IsZip h z TI TO .none ∧ IsTupOf3 h TI (.ref i1) (.ref i2) (.ref i3) ∧ (∃ a1 a2 a3, IsTupOf3 h TO a1 a2 a3) ∧ ItK k h i1 a i ∧ ItK k2 h i2 b i ∧ ItK k3 h i3 c i) := by
  refine turn_ofT (wr := [z, TO, i1, i2, i3]) (by simp) (fun c hc => ?_) (fun i h st c hc => ?_) (fun i h h' st kp => ?_) (fun A i s Q E st h => wpAny_pyIter_zip st.1 h) (fun X hP hW hK hc i pins s σ H I st hg => ?_)
  · have e' : c = z ∨ c = TO ∨ c = i1 ∨ c = i2 ∨ c = i3 := by simpa using hc
    rcases e' with q | q | q | q | q <;> simp [q]
  · obtain ⟨hz, hT, ⟨a1, a2, a3, hO⟩, h1, h2, h3⟩ := st
    have e' : c = z ∨ c = TI ∨ c = TO ∨ c = i1 ∨ c = i2 ∨ c = i3 := by simpa using hc
    rcases e' with q | q | q | q | q | q
    · rw [q]
      exact ⟨_, hz, fun v q => nomatch q⟩
    · rw [q]
      exact ⟨_, hT, fun v q => nomatch q⟩
    · rw [q]
      exact ⟨_, hO, fun v q => nomatch q⟩
    · rw [q]
      exact h1.live
    · rw [q]
      exact h2.live
    · rw [q]
      exact h3.live
  · obtain ⟨hz, hT, ⟨a1, a2, a3, hO⟩, h1, h2, h3⟩ := st
    exact ⟨kp z (by simp) _ hz, kp TI (by simp) _ hT, ⟨a1, a2, a3, kp TO (by simp) _ hO⟩, h1.keep fun o q => kp i1 (by simp) o q, h2.keep fun o q => kp i2 (by simp) o q, h3.keep fun o q => kp i3 (by simp) o q⟩
  · subst hP hW hK
    obtain ⟨hz, hT, hO, h1, h2, h3⟩ := st
    have hq : ∃ xs ys zs, SeqK k X.K H a xs ∧ SeqK k2 X.K H b ys ∧ SeqK k3 X.K H c zs := by
      rcases hg with ⟨xs, ys, zs, _, _, _, q, q2, q3, _⟩ | ⟨xs, ys, zs, q, q2, q3, _⟩ <;> exact ⟨xs, ys, zs, q, q2, q3⟩
    obtain ⟨xs, ys, zs, hx, hy, hw⟩ := hq
    obtain ⟨its, rv, ob, _⟩ := inv_k I hx
    obtain ⟨its2, rv2, ob2, _⟩ := inv_k I hy
    obtain ⟨its3, rv3, ob3, _⟩ := inv_k I hw
    have hh : X.A.in1.handled = none := I.ok.hd hc
    have l1 := rv.length
    have l2 := rv2.length
    have l3 := rv3.length
    refine ⟨_, _, _, _, _, WalksT.zipD3 D (draws_k hh k (it_ne ob h1) its.toArray) (draws_k hh k2 (it_ne ob2 h2) its2.toArray) (draws_k hh k3 (it_ne ob3 h3) its3.toArray), ⟨hz, hT, hO, ⟨h1, ob⟩, ⟨h2, ob2⟩, ⟨h3, ob3⟩⟩, fun h st => ⟨st.1, st.2.1, st.2.2.1, st.2.2.2.1.1, st.2.2.2.2.1.1, st.2.2.2.2.2.1⟩, fun hs => ?_, fun hgo => ⟨?_, fun vals hv => ?_⟩⟩
    · obtain ⟨xs', ys', zs', q, q2, q3, e⟩ := hs
      rw [inv_k_inj I q hx, inv_k_inj I q2 hy, inv_k_inj I q3 hw] at e
      simp only [List.size_toArray]
      rw [e, l1, l2, l3]
    · obtain ⟨xs', ys', zs', x, y, v, q, q2, q3, e, e2, e3⟩ := hgo
      rw [inv_k_inj I q hx] at e
      rw [inv_k_inj I q2 hy] at e2
      rw [inv_k_inj I q3 hw] at e3
      have := (List.getElem?_eq_some_iff.mp e).1
      have := (List.getElem?_eq_some_iff.mp e2).1
      have := (List.getElem?_eq_some_iff.mp e3).1
      simp only [List.size_toArray]
      omega
    · obtain ⟨u, u2, u3, hu, hu2, hu3, rfl⟩ := hv
      obtain ⟨xs', ys', zs', x, y, v, q, q2, q3, e, e2, e3⟩ := hgo
      rw [inv_k_inj I q hx] at e
      rw [inv_k_inj I q2 hy] at e2
      rw [inv_k_inj I q3 hw] at e3
      obtain ⟨u', w1, ru⟩ := rv.get e
      obtain ⟨u2', w2, ru2⟩ := rv2.get e2
      obtain ⟨u3', w3, ru3⟩ := rv3.get e3
      have z1 : u' = u := Option.some.inj (w1.symm.trans (by simpa using hu))
      have z2 : u2' = u2 := Option.some.inj (w2.symm.trans (by simpa using hu2))
      have z3 : u3' = u3 := Option.some.inj (w3.symm.trans (by simpa using hu3))
      rw [z1] at ru
      rw [z2] at ru2
      rw [z3] at ru3
      exact ⟨[x, y, v], .cons ru (.cons ru2 (.cons ru3 .nil)), by show 3 ≤ sizeLine; decide, fun T hT => ⟨T, x, y, v, rfl, hT, rfl, fun zs hz => by rw [inv_k_inj I hz hx]; exact e, fun zs hz => by rw [inv_k_inj I hz hy]; exact e2, fun zs hz => by rw [inv_k_inj I hz hw]; exact e3⟩⟩
def iZ3 (K : PySem.W.Frag) (ta : TA) : TI := fun σ H R => ta σ H fun vs H1 => ∃ a b c xs ys zs k k2 k3, vs = [.ref a, .ref b, .ref c] ∧ SeqK k K H1 a xs ∧ SeqK k2 K H1 b ys ∧ SeqK k3 K H1 c zs ∧ R (ItZ3 k k2 k3 K a b c) H1
theorem vals3' {x y z : V} {us : List Value} (r : Vals [x, y, z] us) : ∃ u w' t', us = [u, w', t'] ∧ RelV x u ∧ RelV y w' ∧ RelV z t' := by
  cases r with
  | cons h r => cases r with
    | cons h2 r => cases r with
      | cons h3 r => cases r; exact ⟨_, _, _, rfl, h, h2, h3⟩
theorem pi_zip3A {X : Cx} {e e2 e3 : Expr} {ta : TA} {p pos tpos : Pos} {elts : List Expr} {kk : Nat} (hg : Gl X "zip") (hm : X.mg "zip" = none) (ha : PA X [e, e2, e3] ta)
    (hs : starEach [e, e2, e3] X.env = (false, eval e X.env) :: starEach [e2, e3] X.env := by rfl) (hpl : (backTo pos (starEach [e2, e3] X.env)).any (·.1) = false := by rfl) :
    PI X (.Tuple elts kk tpos) (.Call (.Name "zip" p) [e, e2, e3] [] pos) (iZ3 X.K ta) := by
  refine ⟨fun pins s σ H R I h => Call_ (ld_blt I hg hm bt_zip (PyProof.Rows.callWith_type1 (thn (ha.run pos pins s σ H _ I h) fun us s1 ⟨vs, H1, I1, r1, q1⟩ => ?_) hs hpl))⟩
  obtain ⟨a, b, c, xs, ys, zs, k, k2, k3, rfl, hq, hq2, hq3, q⟩ := q1
  obtain ⟨u, u2, u3, rfl, ru, ru2, ru3⟩ := vals3' r1
  cases ru
  cases ru2
  cases ru3
  obtain ⟨its, rv, ob, _⟩ := inv_k I1 hq
  obtain ⟨its2, rv2, ob2, _⟩ := inv_k I1 hq2
  obtain ⟨its3, rv3, ob3, _⟩ := inv_k I1 hq3
  have D := zip_sep3 (N := s1.heap.objs.size) (fp1 := [a]) (fp2 := [b]) (fp3 := [c]) (by simpa using ob.lt) (by simpa using ob2.lt) (by simpa using ob3.lt)
  refine zip_begins3 (begins_k k a its.toArray) (begins_k k2 b its2.toArray) (begins_k k3 c its3.toArray) ob ob2 ob3 fun h' hz hT hO g1 g2 g3 _ hk => wpAny_pyIter_zip hz ?_
  refine ⟨s1.heap.objs.size + 5, [s1.heap.objs.size + 5, s1.heap.objs.size + 3, s1.heap.objs.size + 4, s1.heap.objs.size, s1.heap.objs.size + 1, s1.heap.objs.size + 2], _, _, H1, rfl, I1.kept (t' := s1.toks) hk, turn_zip3A D, ⟨hz, hT, ⟨_, _, _, hO⟩, ItK.start g1, ItK.start g2, ItK.start g3⟩, fun c hc => ?_, q⟩
  have hle : s1.heap.objs.size ≤ c := by
    have e' : c = s1.heap.objs.size + 5 ∨ c = s1.heap.objs.size + 3 ∨ c = s1.heap.objs.size + 4 ∨ c = s1.heap.objs.size ∨ c = s1.heap.objs.size + 1 ∨ c = s1.heap.objs.size + 2 := by simpa using hc
    rcases e' with z | z | z | z | z | z <;> rw [z] <;> first | exact Nat.le_add_right _ _ | exact Nat.le_refl _
  exact I1.fpOk hle (I1.hok.fresh hle)
def YTri (xs ys zs : Nat → Option V) : Nat → Hp → V → Hp → Prop := fun i H v H' => ∃ T x y z, v = .ref T ∧ H T = none ∧ H' = upd H T (.tup [x, y, z]) ∧ xs i = some x ∧ ys i = some y ∧ zs i = some z
theorem walk_zip3A {k k2 k3 : Bool} {K : PySem.W.Frag} {a b c : Addr} {xs ys zs : List V} {n : Nat} (hn : n = min (min xs.length ys.length) zs.length) : Walk (ItZ3 k k2 k3 K a b c) n (fun H => SeqK k K H a xs ∧ SeqK k2 K H b ys ∧ SeqK k3 K H c zs) (YTri (fun i => xs[i]?) (fun i => ys[i]?) (fun i => zs[i]?)) := by
  subst hn
  refine ⟨fun i _ hi q => ?_, fun _ q => ⟨xs, ys, zs, q.1, q.2.1, q.2.2, rfl⟩, fun i H v H' _ q y => ?_⟩
  · have h1 : i < xs.length := by omega
    have h2 : i < ys.length := by omega
    have h3 : i < zs.length := by omega
    exact ⟨xs, ys, zs, xs[i], ys[i], zs[i], q.1, q.2.1, q.2.2, by simp [h1], by simp [h2], by simp [h3]⟩
  · obtain ⟨T, x, z, u, h1, h2, h3, h4, h5, h6⟩ := y
    exact ⟨T, x, z, u, h1, h2, h3, h4 xs q.1, h5 ys q.2.1, h6 zs q.2.2⟩
end WV
end
section
set_option maxRecDepth 100000
set_option maxHeartbeats 4000000
namespace WV
open PySem PySem.Spec PyProof.Rows L2
/-! ### what is a list, what is a tuple -/
theorem tyx_T {K : PySem.W.Frag} {H : Hp} {a : Addr} {xs : List V} (h : SqT K H a xs) : TyX K H (.ref a) (.type "tuple") := by
  rcases h with (h | ⟨o, h⟩) | ⟨o, its, n, e, c, _⟩
  · exact .base (.tup h)
  · exact .fTuple h
  · exact .kTuple e c
theorem tyx_L {K : PySem.W.Frag} {H : Hp} {a : Addr} {xs : List V} (h : SqL K H a xs) : TyX K H (.ref a) (.type "list") := by
  rcases h with (h | ⟨o, h⟩) | ⟨o, its, n, e, c, _⟩
  · exact .base (.lst h)
  · exact .base (.frz h)
  · exact .kList e c
theorem kit2 {K : PySem.W.Frag} {a b c : String} {x y : Bool} (h1 : kitB a b = some x) (h2 : kitB a c = some y) : PySem.W.kitAny K (.type a) [.type b, .type c] = some (x || y) := by
  cases x with
  | true => exact kitAny_cons (kit_ty h1) (fun h => by cases h) (fun _ => rfl)
  | false => exact kitAny_cons (kit_ty h1) (fun _ => by
      cases y with
      | true => exact kitAny_cons (kit_ty h2) (fun h => by cases h) (fun _ => rfl)
      | false => exact kitAny_cons (kit_ty h2) (fun _ => rfl) (fun h => by cases h)) (fun h => by cases h)
theorem pair2 {a b : String} : Paired ClsV [V.ty a, V.ty b] [.type a, .type b] := .cons (.ty a) (.cons (.ty b) .nil)
/-! ### data that as_frozen takes -/
mutual
def frz : Dat → Dat
  | .v x => .v x
  | .L xs => .T (frzs xs)
  | .T xs => .T (frzs xs)
def frzs : List Dat → List Dat
  | [] => []
  | d :: ds => frz d :: frzs ds
end
theorem frzs_map : ∀ ds : List Dat, frzs ds = ds.map frz
  | [] => rfl
  | d :: ds => by
    show frz d :: frzs ds = _
    rw [frzs_map ds]
    rfl
mutual
theorem frz_noL : ∀ d : Dat, noL (frz d) = true
  | .v x => rfl
  | .L xs => frzs_noL xs
  | .T xs => frzs_noL xs
theorem frzs_noL : ∀ ds : List Dat, noLs (frzs ds) = true
  | [] => rfl
  | d :: ds => by
    show (noL (frz d) && noLs (frzs ds)) = true
    rw [frz_noL d, frzs_noL ds]
    rfl
end
/-- a leaf -/
def Leaf (K : PySem.W.Frag) (H : Hp) (x : V) : Prop := (∃ i, x = .int i) ∨ (∃ s, x = .str s) ∨ ∃ a dx fs, x = .ref a ∧ H a = some (.ins (He.ga K "Code") dx fs)
theorem Leaf.mono {K : PySem.W.Frag} {H H' : Hp} {x : V} (e : Same H H') (h : Leaf K H x) : Leaf K H' x := by
  rcases h with h | h | ⟨a, dx, fs, h1, h2⟩
  · exact .inl h
  · exact .inr (.inl h)
  · exact .inr (.inr ⟨a, dx, fs, h1, e _ _ h2⟩)
inductive FzOk (K : PySem.W.Frag) (H : Hp) : Nat → Dat → Prop
  | v {n : Nat} {x : V} : Leaf K H x → FzOk K H n (.v x)
  | L {n : Nat} {xs : List Dat} : xs.length ≤ 10000 → (∀ d ∈ xs, FzOk K H n d) → FzOk K H (n + 1) (.L xs)
  | T {n : Nat} {xs : List Dat} : xs.length ≤ 10000 → (∀ d ∈ xs, FzOk K H n d) → FzOk K H (n + 1) (.T xs)
theorem FzOk.mono {K : PySem.W.Frag} {H H' : Hp} (e : Same H H') {n : Nat} {d : Dat} (h : FzOk K H n d) : FzOk K H' n d := by
  induction h with
  | v h => exact .v (h.mono e)
  | L h _ ih => exact .L h ih
  | T h _ ih => exact .T h ih
section
variable {P : Program} {w : World} {K : PySem.W.Frag} {mg : Str → Option Value} {base : Heap}
theorem sc_as_frozen : FnScope ["value", "one"] ["value"] (defScope s_as_frozen) := ⟨rfl, rfl, rfl, by decide +kernel, rfl, by decide +kernel, by decide +kernel⟩
def sp_as_frozen (K : PySem.W.Frag) (n : Nat) : Sp := fun vs H Q _ => ∃ v d, vs = [v] ∧ Rp K H v d ∧ FzOk K H n d ∧ ∀ H' u, Same H H' → Rp K H' u (frz d) → Q u H'
theorem frozen_leaf {t : T K mg} {H : Hp} {x : V} (h : Leaf K H x) : ∃ ty, TyX K H x ty ∧ PySem.W.kitAny K ty [.type "list", .type "tuple"] = some false := by
  rcases h with ⟨i, rfl⟩ | ⟨s, rfl⟩ | ⟨a, dx, fs, rfl, h⟩
  · exact ⟨_, .base (.int i), kit2 (x := false) (y := false) (by decide +kernel) (by decide +kernel)⟩
  · exact ⟨_, .base (.str s), kit2 (x := false) (y := false) (by decide +kernel) (by decide +kernel)⟩
  · exact ⟨_, t.tyOf t.xC t.c_Code h, t.xCL⟩
/-- the body, whatever stands for the calls below -/
theorem frozen_body {t : T K mg} {k : Nat} {sp : Sp} (O_as_frozen : Okf P w K mg base k ("as_frozen", none) ["value"] [] sp) {cdv : Value} {A : Around} {outer : List Env} {s : Shared} {H : Hp} {n : Nat} {vs : List V} {Q : VK} {E : XK} (hr : Room k (A.deeper (envOfC d_as_frozen.qual d_as_frozen.scope s.heap.objs.size (He.fAd K d_as_frozen.at_) cdv))) (h : sp_as_frozen K n vs H Q E) (hlow : ∀ m, n = m + 1 → sp = sp_as_frozen K m) :
    ∃ t, PSs (cxOf CX0 P w K mg base ["value", "one"] d_as_frozen.qual d_as_frozen.scope (He.fAd K d_as_frozen.at_) cdv A outer s H E).nox d_as_frozen.body t ∧ t { nx := fun _ H' => Q .non H', rt := Q } (start ["value", "one"] vs) H := by
  obtain ⟨v, d, rfl, hd, hf, q⟩ := h
  refine ⟨_, (pss_one (ps_ret (pe_ifExp (pt_val (pe_callB call_isiT (by rfl) t.b_isinstance bt_isinstance (pa_cons (pv 0) (pa_cons (pe_tup (pa_cons (pe_bt t.b_list bt_list) (pa_cons (pe_bt t.b_tuple bt_tuple) pa_nil))) pa_nil)))) (pe_callTy call_tuple_of (by rfl) t.b_tuple bt_tuple (pa_cons (pe_lc (own := [("one", 1)]) (g := gName 1) (tt := tYes) rfl sc_as_frozen.nd (pi_seq (pv 0)) (blkOk_by (own := [("one", 1)]) (N := ["value", "one"]) (sc := defScope s_as_frozen) (by decide +kernel)) (fun _ _ _ _ _ => (pg_name (i := 1) sc_as_frozen.nd rfl (.inl rfl))) (fun _ _ _ _ _ => pts_nil) (fun _ _ _ _ _ => (pe_f O_as_frozen (hr.mono (Nat.le_refl _)) t.g_as_frozen (pa_cons (pv 1) pa_nil)))) pa_nil)) (pv 0)))), ?_⟩
  refine ⟨v, rfl, by show 2 ≤ sizeLine; decide, fun tp htp => ?_⟩
  have s1 := Same.new (o := .tup [V.ty "list", V.ty "tuple"]) htp
  have key : (∃ x, v = x ∧ d = .v x ∧ Leaf K H x) ∨ ∃ k ds a xs m ty, v = .ref a ∧ SeqK k K H a xs ∧ RpA K H xs ds ∧ ds.length ≤ 10000 ∧ n = m + 1 ∧ (∀ d ∈ ds, FzOk K H m d) ∧ frz d = .T (frzs ds) ∧ (∀ H', Same H H' → TyX K H' v ty) ∧ PySem.W.kitAny K ty [.type "list", .type "tuple"] = some true := by
    cases hf with
    | v hl => exact .inl ⟨_, hd.unv, rfl, hl⟩
    | L hn hx =>
      obtain ⟨a, xs, rfl, ha, hr2⟩ := hd.unL
      exact .inr ⟨true, _, a, xs, _, _, rfl, ha, hr2, hn, rfl, hx, rfl, fun H' e => tyx_L (e.seq ha), kit2 (x := true) (y := false) (by decide +kernel) (by decide +kernel)⟩
    | T hn hx =>
      obtain ⟨a, xs, rfl, ha, hr2⟩ := hd.unT
      exact .inr ⟨false, _, a, xs, _, _, rfl, ha, hr2, hn, rfl, hx, rfl, fun H' e => tyx_T (e.tup ha), kit2 (x := false) (y := true) (by decide +kernel) (by decide +kernel)⟩
  rcases key with ⟨x, rfl, rfl, hl⟩ | ⟨kk, ds, a, xs, m, ty, rfl, ha, hxs, hn, rfl, hx, ef, hty, hk⟩
  · obtain ⟨ty, h1, h2⟩ := frozen_leaf (t := t) (hl.mono s1)
    exact ⟨v, tp, _, ty, _, false, rfl, upd_same, pair2, h1, h2, false, rfl, iteF ⟨v, rfl, q _ v s1 (.v v)⟩⟩
  · have esp := hlow m rfl
    subst esp
    rw [ef] at q
    refine ⟨_, tp, _, ty, _, true, rfl, upd_same, pair2, hty _ s1, hk, true, rfl, iteT ⟨.ref a, rfl, a, kk, xs, rfl, s1.seqk ha, fun D hD => ?_⟩⟩
    have hl : xs.length = ds.length := hxs.len
    refine lc_all (K := K) (walk_seq (xs := xs)) hD (by omega) (fun H' s2 => (s1.trans s2).seqk ha) (fun i => frz (ds.getD i (.v .non))) (fun i => frz_noL _) (fun i x H2 H3 hi s2 y Qk kq => ?_) (fun H4 ys s2 e r => ?_)
    · obtain ⟨rfl, hx2⟩ := y
      have hd2 : ds[i]? = some (ds[i]'(by omega)) := List.getElem?_eq_getElem (by omega)
      obtain ⟨u, hu, hr3⟩ := hxs.get hd2
      have eu : u = x := Option.some.inj (hu.symm.trans hx2)
      subst eu
      refine ⟨rfl, _, rfl, u, ds[i]'(by omega), rfl, hr3.mono (s1.trans s2), (hx _ (List.getElem_mem (by omega))).mono (s1.trans s2), fun H5 w s5 h5 => kq _ _ s5 ?_⟩
      rw [getD_at hd2]
      exact h5
    · have e3 : (List.range xs.length).map (fun i => frz (ds.getD i (.v .non))) = frzs ds := by
        rw [hl, frzs_map]
        rw [← range_get (xs := ds.map frz) (fun i => frz (ds.getD i (.v .non))) fun i x hx => by
          rw [List.getElem?_map] at hx
          obtain ⟨z, hz, rfl⟩ := Option.map_eq_some_iff.mp hx
          rw [getD_at hz]]
        rw [List.length_map]
      rw [e3] at r
      exact ⟨D, ys, rfl, .inl ⟨SqL.of e, fun l hl => q _ _ ((s1.trans s2).trans (Same.new hl)) (.T (SqT.of upd_same) (r.mono (Same.new hl)))⟩⟩
theorem ok_as_frozen (t : T K mg) : ∀ n : Nat, Okf P w K mg base (n + 2) ("as_frozen", none) ["value"] [] (sp_as_frozen K n)
  | 0 => by
    refine okf (d := d_as_frozen) t 21 rfl rfl sc_as_frozen (fun _ _ _ _ _ _ us hl => match us, hl with | [_], _ => rfl) (fun vs H Q E h => ?_) (fun cdv A outer s H vs Q E hr h => ?_)
    · obtain ⟨v, d, rfl, _⟩ := h
      rfl
    · refine frozen_body (t := t) (k := 1) (sp := fun _ _ _ _ => False) ?_ hr h fun m e => by cases e
      exact okf (d := d_as_frozen) t 21 rfl rfl sc_as_frozen (fun _ _ _ _ _ _ us hl => match us, hl with | [_], _ => rfl) (fun vs H Q E h => h.elim) (fun cdv A outer s H vs Q E hr h => h.elim)
  | n + 1 => by
    refine okf (d := d_as_frozen) t 21 rfl rfl sc_as_frozen (fun _ _ _ _ _ _ us hl => match us, hl with | [_], _ => rfl) (fun vs H Q E h => ?_) (fun cdv A outer s H vs Q E hr h => ?_)
    · obtain ⟨v, d, rfl, _⟩ := h
      rfl
    · exact frozen_body (t := t) (ok_as_frozen t n) hr h fun m e => by
        injection e with e
        rw [e]
theorem sc_is_tally : FnScope ["value", "many", "one"] ["value", "many"] (defScope s_is_tally) := ⟨rfl, rfl, rfl, by decide +kernel, rfl, by decide +kernel, by decide +kernel⟩
def sp_is_tally (K : PySem.W.Frag) : Sp := fun vs H Q _ => ∃ (a : Addr) (n : Int) (ns : List Int), vs = [.ref a, .int n] ∧ SqT K H a (ns.map V.int) ∧ n = ns.length ∧ ns.length ≤ 100 ∧ (∀ x ∈ ns, 0 ≤ x) ∧ ∀ H', Same H H' → Q (.bl true) H'
theorem ok_is_tally (t : T K mg) : Okf P w K mg base 2 ("is_tally", none) ["value", "many"] [] (sp_is_tally K) := by
  have O_is_count := ok_is_count (P := P) (w := w) (base := base) t
  refine okf (d := d_is_tally) t 28 rfl rfl sc_is_tally (fun _ _ _ _ _ _ us hl => match us, hl with | [_, _], _ => rfl) (fun vs H Q E h => ?_) (fun cdv A outer s H vs Q E hr h => ?_)
  · obtain ⟨a, n, ns, rfl, _⟩ := h
    rfl
  · obtain ⟨a, n, ns, rfl, ha, rfl, hn, hp, q⟩ := h
    refine ⟨_, (pss_one (ps_ret (pe_and (pe_callB call_isiT (by rfl) t.b_isinstance bt_isinstance (pa_cons (pv 0) (pa_cons (pe_tup (pa_cons (pe_bt t.b_tuple bt_tuple) (pa_cons (pe_bt t.b_list bt_list) pa_nil))) pa_nil))) (pe_and (pe_cmpR op_eq (pe_callB call_len_seq (by rfl) t.b_len bt_len (pa_cons (pv 0) pa_nil)) (pv 1) (nomark _)) (pe_one (pe_callB (cr_all rfl) (by rfl) t.b_all bt_all (pa_cons (pe_lc (own := [("one", 2)]) (g := gName 2) (tt := tYes) rfl sc_is_tally.nd (pi_seq (pv 0)) (blkOk_by (own := [("one", 2)]) (N := ["value", "many", "one"]) (sc := defScope s_is_tally) (by decide +kernel)) (fun _ _ _ _ _ => (pg_name (i := 2) sc_is_tally.nd rfl (.inl rfl))) (fun _ _ _ _ _ => pts_nil) (fun _ _ _ _ _ => (pe_f O_is_count (hr.mono (by decide)) t.g_is_count (pa_cons (pv 2) pa_nil)))) pa_nil))))))), ?_⟩
    refine ⟨.ref a, rfl, by show 2 ≤ sizeLine; decide, fun tp htp => ?_⟩
    have s1 := Same.new (o := .tup [V.ty "tuple", V.ty "list"]) htp
    refine ⟨_, tp, _, _, _, true, rfl, upd_same, pair2, tyx_T (s1.tup ha), kit2 (x := true) (y := false) (by decide +kernel) (by decide +kernel), true, rfl, ?_⟩
    refine ⟨.ref a, rfl, a, _, rfl, .inr (s1.tup ha), _, rfl, rfl, true, ?_, ?_⟩
    · rw [List.length_map, decide_eq_true rfl]
    refine ⟨.ref a, rfl, a, false, _, rfl, s1.tup ha, fun D hD => ?_⟩
    refine lc_all (K := K) (walk_seq (k := false) (xs := ns.map V.int)) hD (by rw [List.length_map]; omega) (fun H' s2 => (s1.trans s2).tup ha) (fun i => .v (.bl true)) (fun i => rfl) (fun i x H2 H3 hi s2 y Qk kq => ?_) (fun H4 ys s2 e r => ?_)
    · obtain ⟨rfl, hx⟩ := y
      obtain ⟨z, hz, rfl⟩ := ints_at hx
      refine ⟨rfl, _, rfl, z, rfl, kq _ _ (Same.refl _) ?_⟩
      rw [decide_eq_true (hp z (List.mem_of_getElem? hz))]
      exact .v _
    · have e3 : (List.range (ns.map V.int).length).map (fun i => Dat.v (.bl true)) = fD ((List.replicate ns.length true).map V.bl) := by
        unfold fD
        rw [List.map_map, List.map_replicate, List.map_const', List.length_range, List.length_map]
        rfl
      rw [e3] at r
      rw [r.unflat] at e
      refine ⟨D, _, rfl, SqL.of e, ?_⟩
      rw [show (List.replicate ns.length true).all id = true by simp]
      exact q H4 (s1.trans s2)
/-- one pair of a history: a tally -/
def evD (ns : List Int) : Dat := .T [.v (.str "tally"), .T (iD ns)]
def hD (ts : List (List Int)) : List Dat := ts.map evD
theorem evD_un {H : Hp} {v : V} {ns : List Int} (h : Rp K H v (evD ns)) : ∃ a b, v = .ref a ∧ SqT K H a [.str "tally", .ref b] ∧ SqT K H b (ns.map V.int) := by
  obtain ⟨a, xs, rfl, ha, r⟩ := h.unT
  cases r with
  | cons h1 r => cases r with
    | cons h2 r =>
      cases r
      have e := h1.unv
      subst e
      obtain ⟨b, rfl, hb⟩ := h2.unTi
      exact ⟨a, b, rfl, ha, hb⟩
theorem sc_is_event : FnScope ["value", "many"] ["value", "many"] (defScope s_is_event) := ⟨rfl, rfl, rfl, by decide +kernel, rfl, by decide +kernel, by decide +kernel⟩
def sp_is_event (K : PySem.W.Frag) : Sp := fun vs H Q _ => ∃ (v : V) (n : Int) (ns : List Int), vs = [v, .int n] ∧ Rp K H v (evD ns) ∧ n = ns.length ∧ ns.length ≤ 100 ∧ (∀ x ∈ ns, 0 ≤ x) ∧ ∀ H', Same H H' → Q (.bl true) H'
theorem ok_is_event (t : T K mg) : Okf P w K mg base 3 ("is_event", none) ["value", "many"] [] (sp_is_event K) := by
  have O_is_count := ok_is_count (P := P) (w := w) (base := base) t
  have O_is_tally := ok_is_tally (P := P) (w := w) (base := base) t
  refine okf (d := d_is_event) t 29 rfl rfl sc_is_event (fun _ _ _ _ _ _ us hl => match us, hl with | [_, _], _ => rfl) (fun vs H Q E h => ?_) (fun cdv A outer s H vs Q E hr h => ?_)
  · obtain ⟨a, n, ns, rfl, _⟩ := h
    rfl
  · obtain ⟨v, n, ns, rfl, hv, rfl, hn, hp, q⟩ := h
    obtain ⟨a, b, rfl, ha, hb⟩ := evD_un hv
    refine ⟨_, (pss_cons (ps_if (PW.pt (pw_or (pt_not (pt_val (pe_callB call_isi (by rfl) t.b_isinstance bt_isinstance (pa_cons (pv 0) (pa_cons (pe_bt t.b_tuple bt_tuple) pa_nil))))) (pw_or1 (pt_cmpR op_ne (pe_callB call_len_seq (by rfl) t.b_len bt_len (pa_cons (pv 0) pa_nil)) pe_int (nomark _)))))
        (pss_one (ps_ret pe_bl))
        pss_nil)
      (pss_cons (ps_if (pt_cmpR op_eq (pe_ix ix_tup (pv 0) pe_int (fun _ _ => rfl)) pe_str (nomark _))
        (pss_one (ps_ret (pe_f O_is_tally (hr.mono (by decide)) t.g_is_tally (pa_cons (pe_ix ix_tup (pv 0) pe_int (fun _ _ => rfl)) (pa_cons (pv 1) pa_nil)))))
        pss_nil)
      (pss_one (ps_ret (pe_and (pe_cmpR op_eq (pe_ix ix_tup (pv 0) pe_int (fun _ _ => rfl)) pe_str (nomark _)) (pe_and (pe_f O_is_count (hr.mono (by decide)) t.g_is_count (pa_cons (pe_ix ix_tup (pv 0) pe_int (fun _ _ => rfl)) pa_nil)) (pe_one (pe_cmpR op_le (pe_ix ix_tup (pv 0) pe_int (fun _ _ => rfl)) (pv 1) (nomark _))))))))), ?_⟩
    refine ⟨.ref a, rfl, _, _, _, _, true, rfl, .ty _, tyx_T ha, kit_ty (by decide +kernel), true, rfl, iteF ?_⟩
    refine ⟨.ref a, rfl, a, _, rfl, .inr ha, rfl, false, rfl, iteF ?_⟩
    refine ⟨.ref a, rfl, a, _, _, _, rfl, rfl, ha, rfl, rfl, true, rfl, iteT ?_⟩
    exact ⟨.ref a, rfl, a, _, _, _, rfl, rfl, ha, rfl, _, rfl, b, _, ns, rfl, hb, rfl, hn, hp, q⟩
theorem sc_is_beginning : FnScope ["value"] ["value"] (defScope s_is_beginning) := ⟨rfl, rfl, rfl, by decide +kernel, rfl, by decide +kernel, by decide +kernel⟩
def sp_is_beginning (K : PySem.W.Frag) : Sp := fun vs H Q _ => ∃ (v : V) (ns : List Int), vs = [v] ∧ Rp K H v (evD ns) ∧ ns.length ≤ 100 ∧ (∀ x ∈ ns, 0 ≤ x) ∧ ∀ H', Same H H' → Q (.bl true) H'
theorem ok_is_beginning (t : T K mg) : Okf P w K mg base 3 ("is_beginning", none) ["value"] [] (sp_is_beginning K) := by
  have O_is_tally := ok_is_tally (P := P) (w := w) (base := base) t
  refine okf (d := d_is_beginning) t 30 rfl rfl sc_is_beginning (fun _ _ _ _ _ _ us hl => match us, hl with | [_], _ => rfl) (fun vs H Q E h => ?_) (fun cdv A outer s H vs Q E hr h => ?_)
  · obtain ⟨a, ns, rfl, _⟩ := h
    rfl
  · obtain ⟨v, ns, rfl, hv, hn, hp, q⟩ := h
    obtain ⟨a, b, rfl, ha, hb⟩ := evD_un hv
    refine ⟨_, (pss_cons (ps_if (PW.pt (pw_or (pt_not (pt_val (pe_callB call_isi (by rfl) t.b_isinstance bt_isinstance (pa_cons (pv 0) (pa_cons (pe_bt t.b_tuple bt_tuple) pa_nil))))) (pw_or (pt_cmpR op_ne (pe_callB call_len_seq (by rfl) t.b_len bt_len (pa_cons (pv 0) pa_nil)) pe_int (nomark _)) (pw_or1 (pt_cmpR op_ne (pe_ix ix_tup (pv 0) pe_int (fun _ _ => rfl)) pe_str (nomark _))))))
        (pss_one (ps_ret pe_bl))
        pss_nil)
      (pss_one (ps_ret (pe_and (pe_callB call_isiT (by rfl) t.b_isinstance bt_isinstance (pa_cons (pe_ix ix_tup (pv 0) pe_int (fun _ _ => rfl)) (pa_cons (pe_tup (pa_cons (pe_bt t.b_tuple bt_tuple) (pa_cons (pe_bt t.b_list bt_list) pa_nil))) pa_nil))) (pe_one (pe_f O_is_tally (hr.mono (by decide)) t.g_is_tally (pa_cons (pe_ix ix_tup (pv 0) pe_int (fun _ _ => rfl)) (pa_cons (pe_callB call_len_seq (by rfl) t.b_len bt_len (pa_cons (pe_ix ix_tup (pv 0) pe_int (fun _ _ => rfl)) pa_nil)) pa_nil)))))))), ?_⟩
    refine ⟨.ref a, rfl, _, _, _, _, true, rfl, .ty _, tyx_T ha, kit_ty (by decide +kernel), true, rfl, iteF ?_⟩
    refine ⟨.ref a, rfl, a, _, rfl, .inr ha, rfl, false, rfl, iteF ?_⟩
    refine ⟨.ref a, rfl, a, _, _, _, rfl, rfl, ha, rfl, rfl, false, rfl, iteF ?_⟩
    refine ⟨.ref a, rfl, a, _, _, _, rfl, rfl, ha, rfl, by show 2 ≤ sizeLine; decide, fun tp htp => ?_⟩
    have s1 := Same.new (o := .tup [V.ty "tuple", V.ty "list"]) htp
    refine ⟨_, tp, _, _, _, true, rfl, upd_same, pair2, tyx_T (s1.tup hb), kit2 (x := true) (y := false) (by decide +kernel) (by decide +kernel), true, rfl, ?_⟩
    refine ⟨.ref a, rfl, a, _, _, _, rfl, rfl, s1.tup ha, rfl, .ref a, rfl, a, _, _, _, rfl, rfl, s1.tup ha, rfl, b, _, rfl, .inr (s1.tup hb), b, _, ns, rfl, s1.tup hb, by rw [List.length_map], hn, hp, fun H2 s2 => q _ (s1.trans s2)⟩
end
end WV
end
section
set_option maxRecDepth 100000
set_option maxHeartbeats 4000000
namespace WV
open PySem PySem.Spec PyProof.Rows L2
/-! ### lists of ints in a list -/
structure LsV (H : Hp) (vs : List V) (ts : List (List Int)) : Prop where
  len : vs.length = ts.length
  get : ∀ (i : Nat) ns, ts[i]? = some ns → ∃ b, vs[i]? = some (.ref b) ∧ H b = some (.lst (ns.map V.int))
theorem LsV.mono {H H' : Hp} {vs : List V} {ts : List (List Int)} (e : Same H H') (h : LsV H vs ts) : LsV H' vs ts :=
  ⟨h.len, fun i ns hx => let ⟨t, h1, h2⟩ := h.get i ns hx; ⟨t, h1, e _ _ h2⟩⟩
theorem LsV.updL {H : Hp} {vs : List V} {ts : List (List Int)} {D : Addr} {o : HO} (hD : H D = some (.lst vs)) (h : LsV H vs ts) : LsV (upd H D o) vs ts :=
  ⟨h.len, fun i ns hx => by
    obtain ⟨t, h1, h2⟩ := h.get i ns hx
    refine ⟨t, h1, ?_⟩
    have ne : t ≠ D := fun e => by
      rw [e, hD] at h2
      injection h2 with h2
      injection h2 with h2
      rw [h2, List.getElem?_map] at h1
      obtain ⟨z, _, hz⟩ := Option.map_eq_some_iff.mp h1
      cases hz
    rw [upd_ne ne]
    exact h2⟩
theorem LsV.snoc {H : Hp} {vs : List V} {ts : List (List Int)} {t : Addr} {x : List Int} (h : LsV H vs ts) (ht : H t = some (.lst (x.map V.int))) : LsV H (vs ++ [.ref t]) (ts ++ [x]) := by
  refine ⟨by simp [h.len], fun i y hy => ?_⟩
  by_cases hi : i < ts.length
  · rw [List.getElem?_append_left hi] at hy
    obtain ⟨u, h1, h2⟩ := h.get i y hy
    exact ⟨u, by rw [List.getElem?_append_left (by rw [h.len]; exact hi)]; exact h1, h2⟩
  · rw [List.getElem?_append_right (by omega)] at hy
    have h1 := (List.getElem?_eq_some_iff.mp hy).1
    have h2 : i - ts.length = 0 := by
      simp at h1
      omega
    rw [h2] at hy
    injection hy with hy
    subst hy
    refine ⟨t, ?_, ht⟩
    rw [List.getElem?_append_right (by rw [h.len]; omega), h.len, h2]
    rfl
theorem LsV.last {H : Hp} {vs : List V} {ts : List (List Int)} (h : LsV H vs ts) (hne : ts ≠ []) : ∃ b ns, ns ∈ ts ∧ atI vs (-1) = some (.ref b) ∧ H b = some (.lst (ns.map V.int)) := by
  have hp : 0 < ts.length := List.length_pos_iff.mpr hne
  obtain ⟨b, h1, h2⟩ := h.get (ts.length - 1) _ (List.getElem?_eq_getElem (by omega))
  refine ⟨b, _, List.getElem_mem (by omega), atI_last ?_, h2⟩
  rw [List.getLast?_eq_getElem?, h.len]
  exact h1
/-- tallies that go together -/
structure TOk (m : Nat) (ts : List (List Int)) : Prop where
  row : ∀ ns ∈ ts, ns.length = m ∧ ∀ x ∈ ns, 0 ≤ x
  two : 2 ≤ m
  many : m ≤ 60
  ne : 1 ≤ ts.length
  few : ts.length ≤ 100
section
variable {P : Program} {w : World} {K : PySem.W.Frag} {mg : Str → Option Value} {base : Heap}
theorem sc_tallies_of : FnScope ["history", "found", "index", "event", "counts"] ["history"] (defScope s_tallies_of) := ⟨rfl, rfl, rfl, by decide +kernel, rfl, by decide +kernel, by decide +kernel⟩
def sp_tallies_of (K : PySem.W.Frag) : Sp := fun vs H Q _ => ∃ (h : Addr) (es : List V) (m : Nat) (ts : List (List Int)), vs = [.ref h] ∧ SqA K H h es ∧ RpA K H es (hD ts) ∧ TOk m ts ∧ ∀ H' D us, Same H H' → H' D = some (.lst us) → LsV H' us ts → Q (.ref D) H'
theorem ok_tallies_of (t : T K mg) : Okf P w K mg base 4 ("tallies_of", none) ["history"] [] (sp_tallies_of K) := by
  have O_is_event := ok_is_event (P := P) (w := w) (base := base) t
  have O_is_beginning := ok_is_beginning (P := P) (w := w) (base := base) t
  refine okf (d := d_tallies_of) t 31 rfl rfl sc_tallies_of (fun _ _ _ _ _ _ us hl => match us, hl with | [_], _ => rfl) (fun vs H Q E h => ?_) (fun cdv A outer s H vs Q E hr h => ?_)
  · obtain ⟨a, es, m, ts, rfl, _⟩ := h
    rfl
  · obtain ⟨h, es, m, ts, rfl, hh, he, tok, q⟩ := h
    have hl := he.len
    have hl2 : (WV.hD ts).length = ts.length := by unfold WV.hD; rw [List.length_map]
    obtain ⟨kk, hk⟩ := sqa_k hh
    have t1 := tok.ne
    have t2 := tok.few
    have t3 := tok.two
    have t4 := tok.many
    refine ⟨_, (pss_cons (ps_if (pt_not (pt_chain op_le op_le pe_int (pe_callB call_len_seq (by rfl) t.b_len bt_len (pa_cons (pv 0) pa_nil)) (pe_k t.i_MOST_PAIRS)))
        (pss_one ps_never)
        pss_nil)
      (pss_cons (ps_set (i := 1) sc_tallies_of.nd rfl (.inl rfl) (pe_lst pa_nil))
      (pss_cons (ps_for PassesOwn.never rfl (pi_enumA (by rfl) t.b_enumerate (pa_cons (pv 0) pa_nil)) (pg_tup rfl (pgs_cons (pg_name (i := 2) sc_tallies_of.nd rfl (.inl rfl)) (pgs_cons (pg_name (i := 3) sc_tallies_of.nd rfl (.inl rfl)) pgs_nil)))
        (pss_cons (ps_if (PW.pt (pw_or (PW.pt (pw_and (pt_cmpR op_eq (pv 2) pe_int (nomark _)) (pw_and1 (pt_not (pt_val (pe_f O_is_beginning (hr.mono (by decide)) t.g_is_beginning (pa_cons (pv 3) pa_nil))))))) (pw_or1 (PW.pt (pw_and (pt_cmpR op_gt (pv 2) pe_int (nomark _)) (pw_and1 (pt_not (pt_val (pe_f O_is_event (hr.mono (by decide)) t.g_is_event (pa_cons (pv 3) (pa_cons (pe_callB call_len_seq (by rfl) t.b_len bt_len (pa_cons (pe_ix ix_list (pv 1) (pe_un un_neg pe_int) (fun _ _ => rfl)) pa_nil)) pa_nil)))))))))))
          (pss_one ps_never)
          pss_nil)
        (pss_cons (ps_set (i := 4) sc_tallies_of.nd rfl (.inl rfl) (pe_ifExp (pt_cmpR op_eq (pe_ix ix_tup (pv 3) pe_int (fun _ _ => rfl)) pe_str (nomark _)) (pe_callTy call_list_of (by rfl) t.b_list bt_list (pa_cons (pe_ix ix_tup (pv 3) pe_int (fun _ _ => rfl)) pa_nil)) pe_non))
        (pss_cons (ps_if (pt_cmpR op_isN (pv 4) pe_non (nomark _))
          (pss_one (ps_set (i := 4) sc_tallies_of.nd rfl (.inl rfl) (pe_op op_cat (pe_op op_cat (pe_slice sl_list (pe_ix ix_list (pv 1) (pe_un un_neg pe_int) (fun _ _ => rfl)) po_none (po_some (pe_ix ix_tup (pv 3) pe_int (fun _ _ => rfl)))) (pe_lst (pa_cons pe_int pa_nil))) (pe_slice sl_list (pe_ix ix_list (pv 1) (pe_un un_neg pe_int) (fun _ _ => rfl)) (po_some (pe_ix ix_tup (pv 3) pe_int (fun _ _ => rfl))) po_none))))
          pss_nil)
        (pss_cons (ps_if (pt_not (pt_chain op_le op_le pe_int (pe_callB call_len_seq (by rfl) t.b_len bt_len (pa_cons (pv 4) pa_nil)) (pe_k t.i_MOST_SIGNS)))
          (pss_one ps_never)
          pss_nil)
        (pss_one (ps_expr (pe_bm PySem.F.plainAttrs_list PySem.F.slot_list_append PySem.F.type_list_append mt_append (pv 1) (pa_cons (pv 4) pa_nil)))))))))
      (pss_one (ps_ret (pv 1)))))), ?_⟩
    refine ⟨.ref h, rfl, h, es, rfl, hh, 1, _, rfl, rfl, true, congrArg V.bl (decide_eq_true (by omega)), iteT ⟨_, 400, rfl, rfl, true, congrArg V.bl (decide_eq_true (by omega)), ?_⟩⟩
    refine ⟨by decide, fun D hD => ?_⟩
    have s1 := Same.new (o := .lst []) hD
    refine ⟨.ref h, rfl, h, es, kk, rfl, s1.seqk hk, for_it (walk_enumA (xs := es)) (fun i σ H' => Same H H' ∧ ∃ u2 u3 u4 us, σ = [some (.ref h), some (.ref D), u2, u3, u4] ∧ H' D = some (.lst us) ∧ LsV H' us (ts.take i)) ⟨s1, none, none, none, [], rfl, upd_same, ⟨by simp, fun i ns hi => by simp at hi⟩⟩ (fun i σ H' _ p => p.1.seqk hk) (fun i x σ H1 H2 hi p y => ?_) (fun σ H1 p => ?_)⟩
    · obtain ⟨s2, u2, u3, u4, us, rfl, eu, lv⟩ := p
      obtain ⟨T, x', y', rfl, hT, rfl, e1, e2⟩ := y
      cases e1
      have hi2 : i < ts.length := by omega
      have g1 : ts[i]? = some ts[i] := List.getElem?_eq_getElem hi2
      obtain ⟨v, hv, hr3⟩ := he.get (i := i) (d := evD ts[i]) (by unfold WV.hD; rw [List.getElem?_map, g1]; rfl)
      have ev : v = y' := Option.some.inj (hv.symm.trans e2)
      subst ev
      have sT := Same.new (o := .tup [V.int (i : Nat), v]) hT
      obtain ⟨r1, r2⟩ := tok.row _ (List.getElem_mem hi2)
      have lt : (ts.take i).length = i := by rw [List.length_take]; omega
      have tk := take_snoc g1
      have mem : ∀ ns ∈ ts.take i, ns ∈ ts := fun ns h => List.mem_of_mem_take h
      generalize ts[i] = ns at *
      have eu1 := sT _ _ eu
      have lv1 := lv.mono sT
      have hev := hr3.mono (s2.trans sT)
      refine g_two (SqT.of upd_same) ?_
      generalize upd H1 T (.tup [V.int (i : Nat), v]) = H2 at sT eu1 lv1 hev
      have s3 := s2.trans sT
      by_cases c : i = 0
      refine ⟨_, rfl, rfl, true, congrArg V.bl (decide_eq_true (by rw [c]; rfl)), iteT ⟨_, rfl, v, ns, rfl, hev, by omega, r2, fun H3 s4 => ⟨true, rfl, iteF ⟨_, rfl, _, _, rfl, rfl, false, congrArg V.bl (decide_eq_false (by omega)), iteF (iteF ?_)⟩⟩⟩⟩
      rotate_left
      obtain ⟨b, ms, hm, hb1, hb2⟩ := lv1.last (fun e => by rw [e] at lt; simp at lt; omega)
      have rm := (tok.row ms (mem ms hm)).1
      refine ⟨_, rfl, rfl, false, congrArg V.bl (decide_eq_false (fun h => c (by injection h with h; omega))), iteF (iteF ⟨_, rfl, _, _, rfl, rfl, true, congrArg V.bl (decide_eq_true (by omega)), iteT ⟨_, rfl, .ref D, rfl, _, rfl, D, us, _, _, rfl, rfl, SqL.of eu1, hb1, b, _, rfl, .inl (SqL.of hb2), v, _, ns, rfl, hev, by rw [List.length_map]; omega, by omega, r2, fun H3 s4 => ⟨true, rfl, iteF ?_⟩⟩⟩)⟩
      all_goals
        have hev3 := hev.mono s4
        obtain ⟨a, b, ev, ha, hb⟩ := evD_un hev3
        subst ev
        have eu3 := s4 _ _ eu1
        have lv3 := lv1.mono s4
        refine ⟨_, rfl, a, _, _, _, rfl, rfl, ha, rfl, rfl, true, congrArg V.bl (decide_eq_true rfl), iteT ⟨_, rfl, a, _, _, _, rfl, rfl, ha, rfl, b, _, rfl, .inr hb, fun l hl5 => ?_⟩⟩
        have s5 := Same.new (o := .lst (ns.map V.int)) hl5
        have eu5 := s5 _ _ eu3
        have lv5 := lv3.mono s5
        have el5 : (upd H3 l (.lst (ns.map V.int))) l = some (.lst (ns.map V.int)) := upd_same
        generalize upd H3 l (.lst (ns.map V.int)) = H5 at s5 eu5 lv5 el5
        refine ⟨_, rfl, rfl, false, congrArg V.bl (decide_eq_false (by intro h; cases h)), iteF ?_⟩
        refine ⟨.ref l, rfl, l, _, rfl, .inl (SqL.of el5), 2, _, rfl, rfl, true, congrArg V.bl (decide_eq_true (by rw [List.length_map]; omega)), iteT ⟨_, 2000, rfl, rfl, true, congrArg V.bl (decide_eq_true (by rw [List.length_map]; omega)), ?_⟩⟩
        have lus : us.length = i := by rw [lv.len, lt]
        refine ⟨.ref D, rfl, .inl ⟨rfl, _, SqL.of eu5⟩, .ref l, rfl, D, us, _, rfl, rfl, eu5, by rw [sizeLine_eq]; omega, ?_⟩
        refine ⟨((s3.trans s4).trans s5).mut hD, _, _, _, _, rfl, upd_same, ?_⟩
        rw [tk]
        refine (lv5.updL eu5).snoc ?_
        rw [upd_ne (fun e => by rw [e, eu3] at hl5; cases hl5)]
        exact el5
    · obtain ⟨s2, u2, u3, u4, us, rfl, eu, lv⟩ := p
      rw [List.take_of_length_le (by omega)] at lv
      exact ⟨_, rfl, q H1 D us s2 eu lv⟩
end
end WV
end
section
set_option maxRecDepth 100000
set_option maxHeartbeats 4000000
namespace WV
open PySem PySem.Spec PyProof.Rows L2
def addL (a b : List Int) : List Int := List.zipWith (· + ·) a b
def strF5 (gl dl tl : Addr) (n : Int) (ll : Addr) : List (Str × V) := [("groups", .ref gl), ("depths", .ref dl), ("total", .ref tl), ("least", .int n), ("last", .ref ll)]
/-- a stretch as it stands -/
structure StrAt (K : PySem.W.Frag) (H : Hp) (x : Addr) (tot : List Int) (n : Int) : Prop where
  ex : ∃ dx gl dl tl ll, H x = some (.ins (He.ga K "Stretch") dx (strF5 gl dl tl n ll)) ∧ H gl = some (.lst (rgV 0 tot.length)) ∧ H dl = some (.lst (List.replicate tot.length (.int 0))) ∧ H tl = some (.lst (tot.map V.int))
theorem StrAt.mono {K : PySem.W.Frag} {H H' : Hp} {x : Addr} {tot : List Int} {n : Int} (e : Same H H') (h : StrAt K H x tot n) : StrAt K H' x tot n :=
  let ⟨dx, gl, dl, tl, ll, h1, h2, h3, h4⟩ := h.ex; ⟨dx, gl, dl, tl, ll, e _ _ h1, e _ _ h2, e _ _ h3, e _ _ h4⟩
theorem SameX.at {x : Addr} {H H' : Hp} {b C dx : Addr} {fs : List (Str × V)} {xs : List V} (s : SameX x H H') (hx : H x = some (.ins C dx fs)) (h : H b = some (.lst xs)) : H' b = some (.lst xs) := s b _ (fun e => by rw [e, hx] at h; cases h) h
section
variable {P : Program} {w : World} {K : PySem.W.Frag} {mg : Str → Option Value} {base : Heap}
theorem sc_Stretch_init : FnScope ["self", "counts"] ["self", "counts"] (defScope s_Stretch_init) := ⟨rfl, rfl, rfl, by decide +kernel, rfl, by decide +kernel, by decide +kernel⟩
def sp_Stretch (K : PySem.W.Frag) : Sp := fun vs H Q _ => ∃ (x dx a : Addr) (ns : List Int), vs = [.ref x, .ref a] ∧ H x = some (.ins (He.ga K "Stretch") dx []) ∧ H a = some (.lst (ns.map V.int)) ∧ (2 ≤ ns.length ∧ ns.length ≤ 60) ∧ (∀ n ∈ ns, 0 ≤ n) ∧
  ∀ H', SameX x H H' → StrAt K H' x ns (lo ns) → Q .non H'
theorem ok_Stretch (t : T K mg) : Okf P w K mg base 3 ("Stretch", some "__init__") ["self", "counts"] [] (sp_Stretch K) := by
  have O_least_of := ok_least_of (P := P) (w := w) (base := base) t
  refine okf (d := d_Stretch_init) t 32 rfl rfl sc_Stretch_init (fun _ _ _ _ _ _ us hl => match us, hl with | [_, _], _ => rfl) (fun vs H Q E h => ?_) (fun cdv A outer s H vs Q E hr h => ?_)
  · obtain ⟨x, dx, a, ns, rfl, _⟩ := h
    rfl
  · obtain ⟨x, dx, a, ns, rfl, hx, ha, hl, hp, q⟩ := h
    have ax : a ≠ x := fun e => by rw [e, hx] at ha; cases ha
    have lm : (ns.map V.int).length = ns.length := List.length_map ..
    refine ⟨_, (pss_cons (ps_fld (pv 0) (pe_listRg rfl (by rfl) t.b_list (prg_1 (by rfl) t.b_range (pe_callB call_len_seq (by rfl) t.b_len bt_len (pa_cons (pv 1) pa_nil)))) rfl)
      (pss_cons (ps_fld (pv 0) (pe_op op_rep (pe_lst (pa_cons pe_int pa_nil)) (pe_callB call_len_seq (by rfl) t.b_len bt_len (pa_cons (pv 1) pa_nil))) rfl)
      (pss_cons (ps_fld (pv 0) (pe_callTy call_list_of (by rfl) t.b_list bt_list (pa_cons (pv 1) pa_nil)) rfl)
      (pss_cons (ps_fld (pv 0) (pe_f O_least_of (hr.mono (by decide)) t.g_least_of (pa_cons (pv 1) pa_nil)) rfl)
      (pss_one (ps_fld (pv 0) (pe_callTy call_list_of (by rfl) t.b_list bt_list (pa_cons (pv 1) pa_nil)) rfl)))))), ?_⟩
    refine ⟨.ref a, rfl, a, _, rfl, .inl (SqL.of ha), _, rfl, ⟨by decide, by decide, by omega, by omega, by omega⟩, fun gl hgl => ?_⟩
    rw [lm]
    have s1 := Same.new (o := .lst (rgV 0 ns.length)) hgl
    have egl : (upd H gl (.lst (rgV 0 ns.length))) gl = some (.lst (rgV 0 ns.length)) := upd_same
    have hx1 := s1 _ _ hx
    have ha1 := s1 _ _ ha
    generalize upd H gl (.lst (rgV 0 ns.length)) = H1 at s1 egl hx1 ha1
    refine ⟨.ref x, rfl, x, _, dx, _, rfl, hx1, t.c_Stretch, t.n_Stretch_groups, (by decide : (0 : Nat) < 1000), ?_⟩
    have sx : SameX x H (upd H1 x (.ins (He.ga K "Stretch") dx (putF "groups" (.ref gl) []))) := (SameX.of s1).mut
    have hx2 : (upd H1 x (.ins (He.ga K "Stretch") dx (putF "groups" (.ref gl) []))) x = some (.ins (He.ga K "Stretch") dx (putF "groups" (.ref gl) [])) := upd_same
    have egl2 := (SameX.refl H1).mut (o := .ins (He.ga K "Stretch") dx (putF "groups" (.ref gl) [])) |>.at hx1 egl
    have ha2 := (SameX.refl H1).mut (o := .ins (He.ga K "Stretch") dx (putF "groups" (.ref gl) [])) |>.at hx1 ha1
    generalize upd H1 x (.ins (He.ga K "Stretch") dx (putF "groups" (.ref gl) [])) = H2 at sx hx2 egl2 ha2
    refine ⟨by decide, fun zl hzl => ?_⟩
    have s3 := Same.new (o := .lst [V.int 0]) hzl
    have ezl : (upd H2 zl (.lst [V.int 0])) zl = some (.lst [V.int 0]) := upd_same
    have hx3 := s3 _ _ hx2
    have ha3 := s3 _ _ ha2
    have egl3 := s3 _ _ egl2
    generalize upd H2 zl (.lst [V.int 0]) = H3 at s3 ezl hx3 ha3 egl3
    refine ⟨.ref a, rfl, a, _, rfl, .inl (SqL.of ha3), zl, _, _, rfl, rfl, ezl, by omega, by omega, by rw [List.length_singleton, sizeLine_eq]; omega, fun dl hdl => ?_⟩
    have erep : (List.replicate (((ns.map V.int).length : Nat) : Int).toNat [V.int 0]).flatten = List.replicate ns.length (V.int 0) := by
      rw [lm, Int.toNat_natCast]
      induction ns.length with
      | zero => rfl
      | succ k ih =>
        rw [List.replicate_succ, List.flatten_cons, ih, List.replicate_succ]
        rfl
    rw [erep]
    have s4 := Same.new (o := .lst (List.replicate ns.length (V.int 0))) hdl
    have edl : (upd H3 dl (.lst (List.replicate ns.length (V.int 0)))) dl = some (.lst (List.replicate ns.length (V.int 0))) := upd_same
    have hx4 := s4 _ _ hx3
    have ha4 := s4 _ _ ha3
    have egl4 := s4 _ _ egl3
    generalize upd H3 dl (.lst (List.replicate ns.length (V.int 0))) = H4 at s4 edl hx4 ha4 egl4
    have sx4 := (sx.trans (SameX.of s3)).trans (SameX.of s4)
    refine ⟨.ref x, rfl, x, _, dx, _, rfl, hx4, t.c_Stretch, t.n_Stretch_depths, (by decide : (1 : Nat) < 1000), ?_⟩
    have m5 := (SameX.refl H4).mut (x := x) (o := .ins (He.ga K "Stretch") dx (putF "depths" (.ref dl) (putF "groups" (.ref gl) [])))
    have hx5 : (upd H4 x (.ins (He.ga K "Stretch") dx (putF "depths" (.ref dl) (putF "groups" (.ref gl) [])))) x = some (.ins (He.ga K "Stretch") dx (putF "depths" (.ref dl) (putF "groups" (.ref gl) []))) := upd_same
    generalize upd H4 x (.ins (He.ga K "Stretch") dx (putF "depths" (.ref dl) (putF "groups" (.ref gl) []))) = H5 at m5 hx5
    have egl5 := m5.at hx4 egl4
    have edl5 := m5.at hx4 edl
    have ha5 := m5.at hx4 ha4
    have sx5 := sx4.trans m5
    refine ⟨.ref a, rfl, a, _, rfl, .inl (SqL.of ha5), fun tl htl => ?_⟩
    have s6 := Same.new (o := .lst (ns.map V.int)) htl
    have etl : (upd H5 tl (.lst (ns.map V.int))) tl = some (.lst (ns.map V.int)) := upd_same
    generalize upd H5 tl (.lst (ns.map V.int)) = H6 at s6 etl
    refine ⟨.ref x, rfl, x, _, dx, _, rfl, s6 _ _ hx5, t.c_Stretch, t.n_Stretch_total, (by decide : (2 : Nat) < 1000), ?_⟩
    have m7 := (SameX.refl H6).mut (x := x) (o := .ins (He.ga K "Stretch") dx (putF "total" (.ref tl) (putF "depths" (.ref dl) (putF "groups" (.ref gl) []))))
    have hx7 : (upd H6 x (.ins (He.ga K "Stretch") dx (putF "total" (.ref tl) (putF "depths" (.ref dl) (putF "groups" (.ref gl) []))))) x = some (.ins (He.ga K "Stretch") dx (putF "total" (.ref tl) (putF "depths" (.ref dl) (putF "groups" (.ref gl) [])))) := upd_same
    generalize upd H6 x (.ins (He.ga K "Stretch") dx (putF "total" (.ref tl) (putF "depths" (.ref dl) (putF "groups" (.ref gl) [])))) = H7 at m7 hx7
    have m57 := (SameX.of (x := x) s6).trans m7
    have egl7 := m57.at hx5 egl5
    have edl7 := m57.at hx5 edl5
    have ha7 := m57.at hx5 ha5
    have etl7 := m7.at (s6 _ _ hx5) etl
    refine ⟨.ref a, rfl, a, ns, rfl, .inl (SqL.of ha7), ⟨hl.1, by omega⟩, hp, fun H8 s8 => ?_⟩
    refine ⟨.ref x, rfl, x, _, dx, _, rfl, s8 _ _ hx7, t.c_Stretch, t.n_Stretch_least, (by decide : (3 : Nat) < 1000), ?_⟩
    have m9 := (SameX.refl H8).mut (x := x) (o := .ins (He.ga K "Stretch") dx (putF "least" (.int (lo ns)) (putF "total" (.ref tl) (putF "depths" (.ref dl) (putF "groups" (.ref gl) [])))))
    have hx9 : (upd H8 x (.ins (He.ga K "Stretch") dx (putF "least" (.int (lo ns)) (putF "total" (.ref tl) (putF "depths" (.ref dl) (putF "groups" (.ref gl) [])))))) x = some (.ins (He.ga K "Stretch") dx (putF "least" (.int (lo ns)) (putF "total" (.ref tl) (putF "depths" (.ref dl) (putF "groups" (.ref gl) []))))) := upd_same
    generalize upd H8 x (.ins (He.ga K "Stretch") dx (putF "least" (.int (lo ns)) (putF "total" (.ref tl) (putF "depths" (.ref dl) (putF "groups" (.ref gl) []))))) = H9 at m9 hx9
    have m79 := (SameX.of (x := x) s8).trans m9
    refine ⟨.ref a, rfl, a, _, rfl, .inl (SqL.of (m79.at hx7 ha7)), fun ll hll => ?_⟩
    have s10 := Same.new (o := .lst (ns.map V.int)) hll
    refine ⟨.ref x, rfl, x, _, dx, _, rfl, s10 _ _ hx9, t.c_Stretch, t.n_Stretch_last, (by decide : (4 : Nat) < 1000), ?_⟩
    have mE := m79.trans ((SameX.of s10).mut (o := .ins (He.ga K "Stretch") dx (putF "last" (.ref ll) (putF "least" (.int (lo ns)) (putF "total" (.ref tl) (putF "depths" (.ref dl) (putF "groups" (.ref gl) [])))))))
    exact q _ ((sx5.trans m57).trans mE) ⟨dx, gl, dl, tl, ll, upd_same, mE.at hx7 egl7, mE.at hx7 edl7, mE.at hx7 etl7⟩
end
end WV
end
section
set_option maxRecDepth 100000
set_option maxHeartbeats 4000000
namespace WV
open PySem PySem.Spec PyProof.Rows L2
theorem addL_len {a b : List Int} (h : a.length = b.length) : (addL a b).length = a.length := by
  unfold addL
  rw [List.length_zipWith, h, Nat.min_self]
theorem addL_pos {a b : List Int} (ha : ∀ x ∈ a, 0 ≤ x) (hb : ∀ x ∈ b, 0 ≤ x) : ∀ x ∈ addL a b, 0 ≤ x := fun x hx => by
  obtain ⟨i, hi, rfl⟩ := List.getElem_of_mem hx
  unfold addL at hi ⊢
  rw [List.getElem_zipWith]
  rw [List.length_zipWith] at hi
  have h1 := ha (a[i]'(by omega)) (List.getElem_mem _)
  have h2 := hb (b[i]'(by omega)) (List.getElem_mem _)
  omega
section
variable {P : Program} {w : World} {K : PySem.W.Frag} {mg : Str → Option Value} {base : Heap}
theorem sc_Stretch_takes : FnScope ["self", "counts", "sums", "inner", "count", "group", "depth", "own", "total", "before", "more"] ["self", "counts"] (defScope s_Stretch_takes) := ⟨rfl, rfl, rfl, by decide +kernel, rfl, by decide +kernel, by decide +kernel⟩
def sp_takes (K : PySem.W.Frag) : Sp := fun vs H Q _ => ∃ (x a : Addr) (tot ns : List Int) (l : Int), vs = [.ref x, .ref a] ∧ StrAt K H x tot l ∧ H a = some (.lst (ns.map V.int)) ∧ ns.length = tot.length ∧ (2 ≤ ns.length ∧ ns.length ≤ 60) ∧ (∀ n ∈ ns, 0 ≤ n) ∧ (∀ n ∈ tot, 0 ≤ n) ∧
  (lo (addL tot ns) = l + lo ns → ∀ H', SameX x H H' → StrAt K H' x (addL tot ns) (l + lo ns) → Q (.bl true) H') ∧ (lo (addL tot ns) ≠ l + lo ns → ∀ H', SameX x H H' → StrAt K H' x tot l → Q (.bl false) H')
theorem ok_takes (t : T K mg) : Okf P w K mg base 3 ("Stretch", some "takes") ["self", "counts"] [] (sp_takes K) := by
  have O_least_of := ok_least_of (P := P) (w := w) (base := base) t
  refine okf (d := d_Stretch_takes) t 33 rfl rfl sc_Stretch_takes (fun _ _ _ _ _ _ us hl => match us, hl with | [_, _], _ => rfl) (fun vs H Q E h => ?_) (fun cdv A outer s H vs Q E hr h => ?_)
  · obtain ⟨x, a, tot, ns, l, rfl, _⟩ := h
    rfl
  · obtain ⟨x, a, tot, ns, l, rfl, hS, ha, hn, hl, hp, hpt, q1, q2⟩ := h
    have hS' := hS
    obtain ⟨dx, gl, dl, tl, ll, hx, egl, edl, etl⟩ := hS.ex
    have lm : (tot.map V.int).length = tot.length := List.length_map ..
    refine ⟨_, (pss_cons (ps_par (i := 2) (j := 3) rfl sc_Stretch_takes.nd rfl rfl (by decide) rfl rfl (pa_cons (pe_op op_rep (pe_lst (pa_cons pe_int pa_nil)) (pe_callB call_len_seq (by rfl) t.b_len bt_len (pa_cons (pe_fld (pv 0) rfl) pa_nil))) (pa_cons pe_int pa_nil)) (by rfl))
      (pss_cons (ps_for PassesOwn.never rfl (pi_zip3A (by rfl) t.b_zip (pa_cons (pv 1) (pa_cons (pe_fld (pv 0) rfl) (pa_cons (pe_fld (pv 0) rfl) pa_nil)))) (pg_tup rfl (pgs_cons (pg_name (i := 4) sc_Stretch_takes.nd rfl (.inl rfl)) (pgs_cons (pg_name (i := 5) sc_Stretch_takes.nd rfl (.inl rfl)) (pgs_cons (pg_name (i := 6) sc_Stretch_takes.nd rfl (.inl rfl)) pgs_nil))))
        (pss_cons (ps_augS (pv 2) (pv 5) get_list (pv 4) ip_add set_list)
        (pss_one (ps_aug (i := 3) sc_Stretch_takes.nd rfl (.inl rfl) (pe_op op_mul (pv 4) (pv 6)) ip_add))))
      (pss_cons (ps_set (i := 7) sc_Stretch_takes.nd rfl (.inl rfl) (pe_f O_least_of (hr.mono (by decide)) t.g_least_of (pa_cons (pv 2) pa_nil)))
      (pss_cons (ps_setLc (i := 8) (own := [("before", 9), ("more", 10)]) (g := gTup K 2 (gCons (gName 9) (gCons (gName 10) gNil))) (tt := tYes) rfl sc_Stretch_takes.nd rfl rfl (sw_true rfl rfl rfl (by decide +kernel)) (pi_zip2A (by rfl) t.b_zip (pa_cons (pe_fld (pv 0) rfl) (pa_cons (pv 2) pa_nil))) (blkOk_by (own := [("before", 9), ("more", 10)]) (N := ["self", "counts", "sums", "inner", "count", "group", "depth", "own", "total", "before", "more"]) (sc := defScope s_Stretch_takes) (by decide +kernel)) (fun _ _ _ _ _ => (pg_tup rfl (pgs_cons (pg_name (i := 9) sc_Stretch_takes.nd rfl (.inl rfl)) (pgs_cons (pg_name (i := 10) sc_Stretch_takes.nd rfl (.inl rfl)) pgs_nil)))) (fun _ _ _ _ _ => pts_nil) (fun _ _ _ _ _ => (pe_op op_add (pv 9) (pv 10))))
      (pss_cons (ps_if (PW.pt (pw_or (pt_cmpR op_ne (pe_f O_least_of (hr.mono (by decide)) t.g_least_of (pa_cons (pv 1) pa_nil)) (pe_op op_add (pv 7) (pv 3)) (nomark _)) (pw_or1 (pt_cmpR op_ne (pe_f O_least_of (hr.mono (by decide)) t.g_least_of (pa_cons (pv 8) pa_nil)) (pe_op op_add (pe_fld (pv 0) rfl) (pv 7)) (nomark _)))))
        (pss_one (ps_ret pe_bl))
        pss_nil)
      (pss_cons (ps_fld (pv 0) (pv 8) rfl)
      (pss_cons (ps_fldaug (pv 0) (pv 7) in_add)
      (pss_cons (ps_fld (pv 0) (pe_callTy call_list_of (by rfl) t.b_list bt_list (pa_cons (pv 1) pa_nil)) rfl)
      (pss_one (ps_ret pe_bl)))))))))), ?_⟩
    refine ⟨by decide, fun zl hzl => ?_⟩
    have s1 := Same.new (o := .lst [V.int 0]) hzl
    have ezl : (upd H zl (.lst [V.int 0])) zl = some (.lst [V.int 0]) := upd_same
    generalize upd H zl (.lst [V.int 0]) = H1 at s1 ezl
    refine ⟨.ref x, rfl, x, _, dx, _, .ref tl, rfl, s1 _ _ hx, t.c_Stretch, t.n_Stretch_total, rfl, tl, _, rfl, .inl (SqL.of (s1 _ _ etl)), zl, _, _, rfl, rfl, ezl, by omega, by omega, by rw [List.length_singleton, sizeLine_eq]; omega, fun D hD => ⟨_, _, rfl, ?_⟩⟩
    have erep : (List.replicate (((tot.map V.int).length : Nat) : Int).toNat [V.int 0]).flatten = (List.replicate tot.length (0 : Int)).map V.int := by
      rw [lm, Int.toNat_natCast]
      induction tot.length with
      | zero => rfl
      | succ k ih =>
        rw [List.replicate_succ, List.flatten_cons, ih, List.replicate_succ]
        rfl
    rw [erep]
    have s2 := s1.trans (Same.new (o := .lst ((List.replicate tot.length (0 : Int)).map V.int)) hD)
    have eD : (upd H1 D (.lst ((List.replicate tot.length (0 : Int)).map V.int))) D = some (.lst ((List.replicate tot.length (0 : Int)).map V.int)) := upd_same
    have hDn : H D = none := by
      cases h : H D with
      | none => rfl
      | some o => rw [s1 _ _ h] at hD; cases hD
    generalize upd H1 D (.lst ((List.replicate tot.length (0 : Int)).map V.int)) = H2 at s2 eD
    refine ⟨.ref a, rfl, .ref x, rfl, x, _, dx, _, .ref gl, rfl, s2 _ _ hx, t.c_Stretch, t.n_Stretch_groups, rfl, .ref x, rfl, x, _, dx, _, .ref dl, rfl, s2 _ _ hx, t.c_Stretch, t.n_Stretch_depths, rfl, a, gl, dl, ns.map V.int, rgV 0 tot.length, List.replicate tot.length (.int 0), true, true, true, rfl, SqL.of (s2 _ _ ha), SqL.of (s2 _ _ egl), SqL.of (s2 _ _ edl), ?_⟩
    have lrg : (rgV 0 (tot.length : Nat)).length = tot.length := by
      unfold rgV
      rw [List.length_map, List.length_range]
      omega
    have ln : tot.length = min (min (ns.map V.int).length (rgV 0 (tot.length : Nat)).length) (List.replicate tot.length (V.int 0)).length := by
      rw [List.length_map, lrg, List.length_replicate, hn, Nat.min_self, Nat.min_self]
    refine for_it (walk_zip3A (k := true) (k2 := true) (k3 := true) ln) (fun i σ H' => Same H H' ∧ ∃ u4 u5 u6, σ = [some (.ref x), some (.ref a), some (.ref D), some (.int 0), u4, u5, u6, none, none, none, none] ∧ H' D = some (.lst ((ns.take i ++ List.replicate (tot.length - i) (0 : Int)).map V.int))) ⟨s2, none, none, none, rfl, by rw [List.take_zero, Nat.sub_zero]; exact eD⟩ (fun i σ H' _ p => ⟨SqL.of (p.1 _ _ ha), SqL.of (p.1 _ _ egl), SqL.of (p.1 _ _ edl)⟩) (fun i z σ H3 H4 hi p y => ?_) (fun σ H3 p => ?_)
    · obtain ⟨s3, u4, u5, u6, rfl, eD3⟩ := p
      obtain ⟨T, z1, z2, z3, rfl, hT, rfl, e1, e2, e3⟩ := y
      obtain ⟨c, hc, rfl⟩ := ints_at e1
      have e2' : z2 = .int (i : Nat) := by
        have e2 : (rgV 0 (tot.length : Nat))[i]? = some z2 := e2
        unfold rgV at e2
        rw [List.getElem?_map, List.getElem?_range (by omega)] at e2
        injection e2 with e2
        rw [← e2]
        show V.int (0 + (i : Int)) = _
        rw [Int.zero_add]
      have e3' : z3 = .int 0 := by
        have e3 : (List.replicate tot.length (V.int 0))[i]? = some z3 := e3
        rw [List.getElem?_replicate, if_pos hi] at e3
        injection e3 with e3
        exact e3.symm
      subst e2' e3'
      have sT := Same.new (o := .tup [V.int c, V.int (i : Nat), V.int 0]) hT
      have eD4 := sT _ _ eD3
      have lt : (ns.take i).length = i := by rw [List.length_take]; omega
      have eg : (ns.take i ++ List.replicate (tot.length - i) (0 : Int))[i]? = some 0 := by
        rw [List.getElem?_append_right (by omega), lt, Nat.sub_self, List.getElem?_replicate, if_pos (by omega)]
      have eset : ((ns.take i ++ List.replicate (tot.length - i) (0 : Int)).map V.int).set i (.int (0 + c)) = (ns.take (i + 1) ++ List.replicate (tot.length - (i + 1)) (0 : Int)).map V.int := by
        rw [← List.map_set (f := V.int), take_snoc hc, List.set_append_right _ _ (by omega), lt, Nat.sub_self]
        refine congrArg (List.map V.int) ?_
        rw [show tot.length - i = (tot.length - (i + 1)) + 1 by omega, List.replicate_succ, List.append_assoc, Int.zero_add]
        rfl
      refine g_three (SqT.of upd_same) ⟨.ref D, rfl, _, rfl, D, _, i, _, rfl, rfl, SqL.of eD4, at_ints eg, _, rfl, _, _, rfl, rfl, D, _, _, i, rfl, rfl, eD4, ixN_nat (by rw [List.length_map, List.length_append, lt, List.length_replicate]; omega), ?_⟩
      rw [eset]
      refine ⟨_, rfl, _, rfl, _, rfl, _, _, rfl, rfl, .inr ⟨by decide, by decide⟩, _, _, rfl, rfl, ?_⟩
      refine ⟨(s3.trans sT).mut hDn, some (V.int c), some (V.int (i : Nat)), some (V.int 0), ?_, upd_same⟩
      simp only [Int.mul_zero, Int.add_zero]
      try rfl
    · obtain ⟨s3, u4, u5, u6, rfl, eD3⟩ := p
      rw [List.take_of_length_le (by omega), Nat.sub_self] at eD3
      have eD3 : H3 D = some (.lst (ns.map V.int)) := by
        rw [eD3]
        simp
      refine ⟨.ref D, rfl, D, ns, rfl, .inl (SqL.of eD3), ⟨hl.1, by omega⟩, hp, fun H4 s4 => ?_⟩
      have s34 := s3.trans s4
      have eD4 := s4 _ _ eD3
      refine ⟨.ref x, rfl, x, _, dx, _, .ref tl, rfl, s34 _ _ hx, t.c_Stretch, t.n_Stretch_total, rfl, .ref D, rfl, tl, D, tot.map V.int, ns.map V.int, true, true, rfl, SqL.of (s34 _ _ etl), SqL.of eD4, fun R hR => ?_⟩
      have ln2 : tot.length = min (tot.map V.int).length (ns.map V.int).length := by
        rw [List.length_map, List.length_map, hn, Nat.min_self]
      have lad := addL_len (a := tot) (b := ns) hn.symm
      refine lc_all (K := K) (walk_zip2A (k := true) (k2 := true) ln2) hR (by omega) (fun H' s5 => ⟨SqL.of (s5 _ _ (s34 _ _ etl)), SqL.of (s5 _ _ eD4)⟩) (fun i => .v (.int ((addL tot ns).getD i 0))) (fun i => rfl) (fun i z H5 H6 hi s5 y Qk kq => ?_) (fun H5 ys s5 e r => ?_)
      · obtain ⟨T, z1, z2, rfl, hT, rfl, e1, e2⟩ := y
        obtain ⟨c1, hc1, rfl⟩ := ints_at e1
        obtain ⟨c2, hc2, rfl⟩ := ints_at e2
        refine g_two (SqT.of upd_same) ⟨rfl, _, rfl, _, rfl, _, _, rfl, rfl, kq _ _ (Same.new hT) ?_⟩
        have : (addL tot ns)[i]? = some (c1 + c2) := by
          unfold addL
          rw [List.getElem?_zipWith, hc1, hc2]
        rw [getD_at this]
        exact .v _
      · have e3 : (List.range tot.length).map (fun i => Dat.v (.int ((addL tot ns).getD i 0))) = iD (addL tot ns) := by
          unfold iD
          conv => rhs; rw [← range_get (xs := addL tot ns) (fun i => (addL tot ns).getD i 0) fun i x hx => getD_at hx]
          rw [List.map_map, lad]
          rfl
        rw [e3] at r
        rw [r.unints] at e
        have s35 := s34.trans s5
        have hpa := addL_pos hpt hp
        have fin : ∀ (b : Bool) (u v : Int), b = (!decide (V.int u = V.int v)) ↔ b = (!decide (u = v)) := fun b u v => by
          by_cases c : u = v
          · rw [decide_eq_true c, decide_eq_true (by rw [c])]
          · rw [decide_eq_false c, decide_eq_false (fun h => c (by injection h))]
        refine ⟨.ref a, rfl, a, ns, rfl, .inl (SqL.of (s35 _ _ ha)), ⟨hl.1, by omega⟩, hp, fun H6 s6 => ?_⟩
        refine ⟨_, rfl, _, rfl, _, _, rfl, rfl, rfl, false, ?_, iteF ?_⟩
        · show V.bl (!decide (V.int (lo ns) = V.int (lo ns + 0))) = V.bl false
          rw [Int.add_zero, decide_eq_true rfl]
          rfl
        have s36 := s35.trans s6
        have eR6 := s6 _ _ e
        refine ⟨.ref R, rfl, R, addL tot ns, rfl, .inl (SqL.of eR6), ⟨by omega, by omega⟩, hpa, fun H7 s7 => ?_⟩
        have s37 := s36.trans s7
        have eR7 := s7 _ _ eR6
        refine ⟨.ref x, rfl, x, _, dx, _, .int l, rfl, s37 _ _ hx, t.c_Stretch, t.n_Stretch_least, rfl, _, rfl, _, _, rfl, rfl, rfl, !decide (lo (addL tot ns) = l + lo ns), congrArg V.bl ((fin _ _ _).mpr rfl).symm, ?_⟩
        by_cases c : lo (addL tot ns) = l + lo ns
        · rw [decide_eq_true c]
          refine iteF ?_
          refine ⟨.ref R, rfl, .ref x, rfl, x, _, dx, _, rfl, s37 _ _ hx, t.c_Stretch, t.n_Stretch_total, (by decide : (5 : Nat) < 1000), ?_⟩
          have m8 := (SameX.refl H7).mut (x := x) (o := .ins (He.ga K "Stretch") dx (putF "total" (.ref R) (strF5 gl dl tl l ll)))
          have hx8 : (upd H7 x (.ins (He.ga K "Stretch") dx (putF "total" (.ref R) (strF5 gl dl tl l ll)))) x = some (.ins (He.ga K "Stretch") dx (putF "total" (.ref R) (strF5 gl dl tl l ll))) := upd_same
          generalize upd H7 x (.ins (He.ga K "Stretch") dx (putF "total" (.ref R) (strF5 gl dl tl l ll))) = H8 at m8 hx8
          refine ⟨.ref x, rfl, x, _, dx, _, .int l, rfl, hx8, t.c_Stretch, t.n_Stretch_least, rfl, _, rfl, _, _, rfl, rfl, dx, _, hx8, (by decide : (5 : Nat) < 1000), ?_⟩
          have m9 := (SameX.refl H8).mut (x := x) (o := .ins (He.ga K "Stretch") dx (putF "least" (.int (l + lo ns)) (putF "total" (.ref R) (strF5 gl dl tl l ll))))
          have hx9 : (upd H8 x (.ins (He.ga K "Stretch") dx (putF "least" (.int (l + lo ns)) (putF "total" (.ref R) (strF5 gl dl tl l ll))))) x = some (.ins (He.ga K "Stretch") dx (putF "least" (.int (l + lo ns)) (putF "total" (.ref R) (strF5 gl dl tl l ll)))) := upd_same
          generalize upd H8 x (.ins (He.ga K "Stretch") dx (putF "least" (.int (l + lo ns)) (putF "total" (.ref R) (strF5 gl dl tl l ll)))) = H9 at m9 hx9
          have m79 := m8.trans m9
          have hx7 := s37 _ _ hx
          refine ⟨.ref a, rfl, a, _, rfl, .inl (SqL.of (m79.at hx7 (s37 _ _ ha))), fun nl hnl => ?_⟩
          have s10 := Same.new (o := .lst (ns.map V.int)) hnl
          refine ⟨.ref x, rfl, x, _, dx, _, rfl, s10 _ _ hx9, t.c_Stretch, t.n_Stretch_last, (by decide : (5 : Nat) < 1000), q1 c _ ?_ ?_⟩
          · exact ((SameX.of s37).trans m79).trans ((SameX.of s10).mut)
          · have mE := m79.trans ((SameX.of s10).mut (o := .ins (He.ga K "Stretch") dx (putF "last" (.ref nl) (putF "least" (.int (l + lo ns)) (putF "total" (.ref R) (strF5 gl dl tl l ll))))))
            refine ⟨dx, gl, dl, R, nl, upd_same, ?_, ?_, mE.at hx7 eR7⟩
            · rw [lad]
              exact mE.at hx7 (s37 _ _ egl)
            · rw [lad]
              exact mE.at hx7 (s37 _ _ edl)
        · rw [decide_eq_false c]
          exact iteT (q2 c _ (SameX.of s37) (hS'.mono s37))
end
end WV
end
section
set_option maxRecDepth 100000
set_option maxHeartbeats 4000000
namespace WV
open PySem PySem.Spec PyProof.Rows L2
/-! ### how far one code goes -/
def runFrom (tot : List Int) (l : Int) : List (List Int) → Nat → List Int × Int × Nat
  | [], at' => (tot, l, at')
  | ns :: r, at' => if lo (addL tot ns) = l + lo ns then runFrom (addL tot ns) (l + lo ns) r (at' + 1) else (tot, l, at')
def takenF (ts : List (List Int)) (s : Nat) : List Int × Int × Nat := runFrom (ts.getD s []) (lo (ts.getD s [])) (ts.drop (s + 1)) (s + 1)
section
variable {P : Program} {w : World} {K : PySem.W.Frag} {mg : Str → Option Value} {base : Heap}
theorem sc_Stretch_code_for : FnScope ["self"] ["self"] (defScope s_Stretch_code_for) := ⟨rfl, rfl, rfl, by decide +kernel, rfl, by decide +kernel, by decide +kernel⟩
def sp_code_for (K : PySem.W.Frag) : Sp := fun vs H Q _ => ∃ (x : Addr) (tot : List Int) (l : Int), vs = [.ref x] ∧ StrAt K H x tot l ∧ (2 ≤ tot.length ∧ tot.length ≤ 16) ∧ (∀ n ∈ tot, 0 ≤ n) ∧ ∀ H' v, Same H H' → CodeAt K H' v (hgI tot) ((canonF (hgI tot)).map SX.S) → Q v H'
theorem ok_code_for (t : T K mg) : Okf P w K mg base 5 ("Stretch", some "code_for") ["self"] [] (sp_code_for K) := by
  have O_Code_init := ok_Code1 (P := P) (w := w) (base := base) t
  have O_lengths_for := ok_lengths_for (P := P) (w := w) (base := base) t
  refine okf (d := d_Stretch_code_for) t 34 rfl rfl sc_Stretch_code_for (fun _ _ _ _ _ _ us hl => match us, hl with | [_], _ => rfl) (fun vs H Q E h => ?_) (fun cdv A outer s H vs Q E hr h => ?_)
  · obtain ⟨x, tot, l, rfl, _⟩ := h
    rfl
  · obtain ⟨x, tot, l, rfl, hS, hl, hn, q⟩ := h
    obtain ⟨dx, gl, dl, tl, ll, hx, egl, edl, etl⟩ := hS.ex
    refine ⟨_, (pss_one (ps_ret (pe_mkf O_Code_init t.m_Code (hr.mono (by decide)) t.g_Code (pa_cons (pe_f O_lengths_for (hr.mono (by decide)) t.g_lengths_for (pa_cons (pe_fld (pv 0) rfl) pa_nil)) pa_nil)))), ?_⟩
    refine ⟨.ref x, rfl, x, _, dx, _, .ref tl, rfl, hx, t.c_Stretch, t.n_Stretch_total, rfl, tl, tot, rfl, .inl (SqL.of etl), ⟨hl.1, by omega⟩, hn, fun H2 D s2 e => fun y dy hy hdy hne => ?_⟩
    have sN : Same H2 (upd (upd H2 dy (.own y)) y (.ins (He.ga K "Code") dy [])) := (Same.new hdy).mut hy
    refine ⟨y, dy, D, _, hgI tot, canonF (hgI tot), rfl, upd_same, sN.seq (SqL.of e), ?_, fun l h => ?_, ?_, .inl ⟨rfl, rfl⟩, fun H5 s5 hc => ⟨rfl, q _ _ ?_ hc⟩⟩
    · rw [hgI_len]
      omega
    · have := hgI_bnd hl.1 hn l h
      omega
    · rw [hgI_nat]
      exact (hg_ok hl.1 hn).1
    · exact s2.trans (s5.same hy sN)
theorem sc_taken_on : FnScope ["history", "tallies", "start", "stretch", "at"] ["history", "tallies", "start"] (defScope s_taken_on) := ⟨rfl, rfl, rfl, by decide +kernel, rfl, by decide +kernel, by decide +kernel⟩
def sp_taken_on (K : PySem.W.Frag) : Sp := fun vs H Q _ => ∃ (h J : Addr) (s : Nat) (es us : List V) (m : Nat) (ts : List (List Int)), vs = [.ref h, .ref J, .int s] ∧ SqA K H h es ∧ RpA K H es (hD ts) ∧ H J = some (.lst us) ∧ LsV H us ts ∧ TOk m ts ∧ s < ts.length ∧
  ∀ H' p x, Same H H' → SqT K H' p [.ref x, .int (takenF ts s).2.2] → StrAt K H' x (takenF ts s).1 (takenF ts s).2.1 → Q (.ref p) H'
theorem ok_taken_on (t : T K mg) : Okf P w K mg base 5 ("taken_on", none) ["history", "tallies", "start"] [] (sp_taken_on K) := by
  have O_Stretch_init := ok_Stretch (P := P) (w := w) (base := base) t
  have O_Stretch_takes := ok_takes (P := P) (w := w) (base := base) t
  refine okf (d := d_taken_on) t 35 rfl rfl sc_taken_on (fun _ _ _ _ _ _ us hl => match us, hl with | [_, _, _], _ => rfl) (fun vs H Q E h => ?_) (fun cdv A outer s H vs Q E hr h => ?_)
  · obtain ⟨h, J, s, es, us, m, ts, rfl, _⟩ := h
    rfl
  · obtain ⟨h, J, s0, es, us, m, ts, rfl, hh, he, eu, lv, tok, hs, q⟩ := h
    refine ⟨_, (pss_cons (ps_par (i := 3) (j := 4) rfl sc_taken_on.nd rfl rfl (by decide) rfl rfl (pa_cons (pe_mkf O_Stretch_init t.m_Stretch (hr.mono (by decide)) t.g_Stretch (pa_cons (pe_ix ix_list (pv 1) (pv 2) (fun _ _ => rfl)) pa_nil)) (pa_cons (pe_op op_add (pv 2) pe_int) pa_nil)) (by rfl))
      (pss_cons (ps_while PassesOwn.never (pt_cmpR op_lt (pv 4) (pe_callB call_len_seq (by rfl) t.b_len bt_len (pa_cons (pv 0) pa_nil)) (nomark _))
        (pss_cons (ps_if (pt_cmpR op_eq (pe_ix ix_tup (pe_ix ix_seq (pv 0) (pv 4) (fun _ _ => rfl)) pe_int (fun _ _ => rfl)) pe_str (nomark _))
          (pss_one ps_never)
          pss_nil)
        (pss_cons (ps_if (pt_not (pt_val (pe_mf O_Stretch_takes (hr.mono (by decide)) (pv 3) t.c_Stretch t.h_Stretch_takes (pa_cons (pe_ix ix_list (pv 1) (pv 4) (fun _ _ => rfl)) pa_nil))))
          (pss_one ps_break)
          pss_nil)
        (pss_one (ps_aug (i := 4) sc_taken_on.nd rfl (.inl rfl) pe_int ip_add)))))
      (pss_one (ps_ret (pe_tup (pa_cons (pv 3) (pa_cons (pv 4) pa_nil))))))), ?_⟩
    have g0 : ts[s0]? = some ts[s0] := List.getElem?_eq_getElem hs
    obtain ⟨b0, hb0, hb0'⟩ := lv.get s0 _ g0
    obtain ⟨r1, r2⟩ := tok.row _ (List.getElem_mem hs)
    have t3 := tok.two
    have t4 := tok.many
    have t5 := tok.few
    have hle := he.len
    have hl2 : (WV.hD ts).length = ts.length := by unfold WV.hD; rw [List.length_map]
    obtain ⟨kk, hk⟩ := sqa_k hh
    have eT : takenF ts s0 = runFrom ts[s0] (lo ts[s0]) (ts.drop (s0 + 1)) (s0 + 1) := by
      unfold takenF
      rw [getD_at g0]
    rw [eT] at q
    refine ⟨.ref J, rfl, _, rfl, J, us, _, _, rfl, rfl, SqL.of eu, atI_nat hb0, fun x dx hx hdx hne => ?_⟩
    have sN : Same H (upd (upd H dx (.own x)) x (.ins (He.ga K "Stretch") dx [])) := (Same.new hdx).mut hx
    refine ⟨x, dx, b0, ts[s0], rfl, upd_same, sN _ _ hb0', ⟨by omega, by omega⟩, r2, fun H1 s1 hS1 => ⟨rfl, ?_⟩⟩
    have s1 := s1.same hx sN
    refine ⟨_, rfl, _, _, rfl, rfl, _, _, rfl, ?_⟩
    refine ⟨fun k σ H' => Same H H' ∧ ∃ (tot : List Int) (l : Int) (at' : Nat), k = ts.length - at' ∧ σ = [some (.ref h), some (.ref J), some (.int s0), some (.ref x), some (.int at')] ∧ StrAt K H' x tot l ∧ tot.length = m ∧ (∀ n ∈ tot, 0 ≤ n) ∧ at' ≤ ts.length ∧ runFrom tot l (ts.drop at') at' = runFrom ts[s0] (lo ts[s0]) (ts.drop (s0 + 1)) (s0 + 1),
      ⟨ts.length - (s0 + 1), s1, ts[s0], lo ts[s0], s0 + 1, rfl, rfl, hS1, r1, r2, hs, rfl⟩, ?_⟩
    rintro k σ H2 ⟨s2, tot, l, at', rfl, rfl, hS, lt, pt, hat, er⟩
    refine ⟨_, rfl, .ref h, rfl, h, es, rfl, s2.sqa hh, _, _, rfl, rfl, decide (at' < ts.length), ?_, ?_⟩
    · show V.bl (decide ((at' : Int) < (es.length : Nat))) = _
      refine congrArg V.bl ?_
      rw [hle, hl2]
      by_cases c : at' < ts.length
      · rw [decide_eq_true c, decide_eq_true (by omega)]
      · rw [decide_eq_false c, decide_eq_false (by omega)]
    by_cases c : at' < ts.length
    · rw [decide_eq_true c]
      have g1 : ts[at']? = some ts[at'] := List.getElem?_eq_getElem c
      have ed : ts.drop at' = ts[at'] :: ts.drop (at' + 1) := List.drop_eq_getElem_cons c
      rw [ed] at er
      obtain ⟨q1, q2⟩ := tok.row _ (List.getElem_mem c)
      obtain ⟨b, hb, hb'⟩ := lv.get at' _ g1
      obtain ⟨v, hv, hr3⟩ := he.get (i := at') (d := evD ts[at']) (by unfold WV.hD; rw [List.getElem?_map, g1]; rfl)
      generalize ts[at'] = ns at *
      obtain ⟨ea, eb, ev, ha, hb2⟩ := evD_un (hr3.mono s2)
      subst ev
      refine iteT ⟨fun σ' H' => ∃ m', m' < ts.length - at' ∧ (Same H H' ∧ ∃ (tot : List Int) (l : Int) (at'' : Nat), m' = ts.length - at'' ∧ σ' = [some (.ref h), some (.ref J), some (.int s0), some (.ref x), some (.int at'')] ∧ StrAt K H' x tot l ∧ tot.length = m ∧ (∀ n ∈ tot, 0 ≤ n) ∧ at'' ≤ ts.length ∧ runFrom tot l (ts.drop at'') at'' = runFrom ts[s0] (lo ts[s0]) (ts.drop (s0 + 1)) (s0 + 1)), fun _ _ h => h, ?_⟩
      have key : ∀ (Q : VK), Q (.ref ea) H2 → rIx K (.ref h) (.int (at' : Nat)) H2 Q := fun Q hQ => by
        cases kk with
        | true => exact .inl ⟨h, es, _, _, rfl, rfl, s2.seq hk, atI_nat hv, hQ⟩
        | false => exact .inr (.inl ⟨h, es, _, _, rfl, rfl, s2.tup hk, atI_nat hv, hQ⟩)
      refine ⟨.ref h, rfl, _, rfl, key _ ⟨ea, _, _, _, rfl, rfl, ha, rfl, rfl, false, rfl, iteF ?_⟩⟩
      have eu2 := s2 _ _ eu
      have hS' := hS
      obtain ⟨dx', gl, dl, tl, ll, hx', _⟩ := hS'.ex
      refine ⟨.ref x, rfl, x, dx', _, rfl, hx', rfl, .ref J, rfl, _, rfl, J, us, _, _, rfl, rfl, SqL.of eu2, atI_nat hb, x, b, tot, ns, l, rfl, hS, s2 _ _ hb', by omega, ⟨by omega, by omega⟩, q2, pt, fun hc H3 s3 hS3 => ?_, fun hc H3 s3 hS3 => ?_⟩
      · have er2 : runFrom (addL tot ns) (l + lo ns) (ts.drop (at' + 1)) (at' + 1) = runFrom ts[s0] (lo ts[s0]) (ts.drop (s0 + 1)) (s0 + 1) := by
          rw [← er]
          show _ = if lo (addL tot ns) = l + lo ns then _ else _
          rw [if_pos hc]
        refine ⟨true, rfl, iteF ⟨_, rfl, _, _, rfl, rfl, ?_⟩⟩
        exact ⟨ts.length - (at' + 1), by omega, s3.same hx s2, addL tot ns, l + lo ns, at' + 1, rfl, rfl, hS3, by rw [addL_len (by omega)]; exact lt, addL_pos pt q2, c, er2⟩
      · have er2 : (tot, l, at') = runFrom ts[s0] (lo ts[s0]) (ts.drop (s0 + 1)) (s0 + 1) := by
          rw [← er]
          show _ = if lo (addL tot ns) = l + lo ns then _ else _
          rw [if_neg hc]
        rw [← er2] at q
        refine ⟨false, rfl, iteT ?_⟩
        refine ⟨_, rfl, _, rfl, by show 2 ≤ sizeLine; decide, fun p hp => ?_⟩
        have sp2 := Same.new (o := .tup [V.ref x, V.int (at' : Nat)]) hp
        exact q _ p x ((s3.same hx s2).trans sp2) (SqT.of upd_same) (hS3.mono sp2)
    · rw [decide_eq_false c]
      have e0 : at' = ts.length := by omega
      rw [e0, List.drop_length] at er
      refine iteF ⟨_, rfl, _, rfl, by show 2 ≤ sizeLine; decide, fun p hp => ?_⟩
      have sp2 := Same.new (o := .tup [V.ref x, V.int (at' : Nat)]) hp
      rw [← er] at q
      exact q _ p x (s2.trans sp2) (SqT.of (by rw [upd_same, e0]; rfl)) (hS.mono sp2)
end
end WV
end
section
set_option maxRecDepth 100000
set_option maxHeartbeats 4000000
namespace WV
open PySem PySem.Spec PyProof.Rows L2
/-! ### the plan -/
theorem run_ge : ∀ (r : List (List Int)) (tot : List Int) (l : Int) (a : Nat), a ≤ (runFrom tot l r a).2.2 ∧ (runFrom tot l r a).2.2 ≤ a + r.length
  | [], tot, l, a => ⟨Nat.le_refl _, Nat.le_refl _⟩
  | ns :: r, tot, l, a => by
    show a ≤ (if lo (addL tot ns) = l + lo ns then runFrom (addL tot ns) (l + lo ns) r (a + 1) else (tot, l, a)).2.2 ∧ (if lo (addL tot ns) = l + lo ns then runFrom (addL tot ns) (l + lo ns) r (a + 1) else (tot, l, a)).2.2 ≤ _
    by_cases c : lo (addL tot ns) = l + lo ns
    · rw [if_pos c]
      have := run_ge r (addL tot ns) (l + lo ns) (a + 1)
      rw [List.length_cons]
      omega
    · rw [if_neg c]
      exact ⟨Nat.le_refl _, Nat.le_add_right _ _⟩
theorem taken_gt (ts : List (List Int)) (s : Nat) : s < (takenF ts s).2.2 := by
  have := (run_ge (ts.drop (s + 1)) (ts.getD s []) (lo (ts.getD s [])) (s + 1)).1
  unfold takenF
  omega
theorem taken_le {ts : List (List Int)} {s : Nat} (h : s < ts.length) : (takenF ts s).2.2 ≤ ts.length := by
  have := (run_ge (ts.drop (s + 1)) (ts.getD s []) (lo (ts.getD s [])) (s + 1)).2
  rw [List.length_drop] at this
  unfold takenF
  omega
theorem run_tot {m : Nat} : ∀ (r : List (List Int)) (tot : List Int) (l : Int) (a : Nat), tot.length = m → (∀ x ∈ tot, 0 ≤ x) → (∀ ns ∈ r, ns.length = m ∧ ∀ x ∈ ns, 0 ≤ x) → (runFrom tot l r a).1.length = m ∧ ∀ x ∈ (runFrom tot l r a).1, 0 ≤ x
  | [], tot, l, a, h1, h2, _ => ⟨h1, h2⟩
  | ns :: r, tot, l, a, h1, h2, h3 => by
    show (if lo (addL tot ns) = l + lo ns then runFrom (addL tot ns) (l + lo ns) r (a + 1) else (tot, l, a)).1.length = m ∧ ∀ x ∈ (if lo (addL tot ns) = l + lo ns then runFrom (addL tot ns) (l + lo ns) r (a + 1) else (tot, l, a)).1, 0 ≤ x
    obtain ⟨n1, n2⟩ := h3 ns List.mem_cons_self
    by_cases c : lo (addL tot ns) = l + lo ns
    · rw [if_pos c]
      exact run_tot r _ _ _ (by rw [addL_len (by omega)]; exact h1) (addL_pos h2 n2) fun ms hm => h3 ms (List.mem_cons_of_mem _ hm)
    · rw [if_neg c]
      exact ⟨h1, h2⟩
theorem taken_tot {m : Nat} {ts : List (List Int)} (tok : TOk m ts) {s : Nat} (h : s < ts.length) : (takenF ts s).1.length = m ∧ ∀ x ∈ (takenF ts s).1, 0 ≤ x := by
  obtain ⟨r1, r2⟩ := tok.row _ (List.getElem_mem h)
  unfold takenF
  rw [getD_at (List.getElem?_eq_getElem h)]
  exact run_tot _ _ _ _ r1 r2 fun ns hn => tok.row ns (List.mem_of_mem_drop hn)
/-- stretches in a row, from a on to b -/
inductive Ch (ts : List (List Int)) : Nat → Nat → List (Nat × Nat) → Prop
  | nil (a : Nat) : Ch ts a a []
  | cons {a b : Nat} {L : List (Nat × Nat)} : a < ts.length → Ch ts (takenF ts a).2.2 b L → Ch ts a b ((a, (takenF ts a).2.2) :: L)
theorem Ch.snoc {ts : List (List Int)} : ∀ {a b : Nat} {L : List (Nat × Nat)}, Ch ts a b L → b < ts.length → Ch ts a (takenF ts b).2.2 (L ++ [(b, (takenF ts b).2.2)])
  | _, _, _, .nil a, h => .cons h (.nil _)
  | _, _, _, .cons ha r, h => .cons ha (r.snoc h)
theorem Ch.le {ts : List (List Int)} : ∀ {a b : Nat} {L : List (Nat × Nat)}, Ch ts a b L → a + L.length ≤ b
  | _, _, _, .nil a => Nat.le_refl _
  | a, _, _, .cons ha r => by
    have := r.le
    have := taken_gt ts a
    rw [List.length_cons]
    omega
def codeD (L : List (Nat × Nat)) (cvs : List V) : List Dat := List.zipWith (fun p cv => Dat.T [.v (.int (p.1 : Nat)), .v cv]) L cvs
def stopD (ts : List (List Int)) (L : List (Nat × Nat)) : List Dat := (L.filter fun p => decide (p.2 < ts.length)).map fun p => Dat.T [.v (.int (p.1 : Nat)), .v (.int (p.2 : Nat))]
/-- the codes of a plan stand -/
structure CvOk (K : PySem.W.Frag) (H : Hp) (ts : List (List Int)) (L : List (Nat × Nat)) (cvs : List V) : Prop where
  len : cvs.length = L.length
  at_ : ∀ (i : Nat) p cv, L[i]? = some p → cvs[i]? = some cv → CodeAt K H cv (hgI (takenF ts p.1).1) ((canonF (hgI (takenF ts p.1).1)).map SX.S)
theorem CvOk.mono {K : PySem.W.Frag} {H H' : Hp} {ts : List (List Int)} {L : List (Nat × Nat)} {cvs : List V} (e : Same H H') (h : CvOk K H ts L cvs) : CvOk K H' ts L cvs := ⟨h.len, fun i p cv h1 h2 => (h.at_ i p cv h1 h2).mono e⟩
theorem CodeAt.mut {K : PySem.W.Frag} {H H' : Hp} {v : V} {ls : List Int} {ws : List Str} (e : ∀ b o, H b = some o → (∀ xs, o ≠ .lst xs) → H' b = some o) (h : CodeAt K H v ls ws) : CodeAt K H' v ls ws := by
  obtain ⟨a, dx, tl, tw, m, rfl, h1, h2, h3⟩ := h.ex
  refine ⟨a, dx, tl, tw, m, rfl, e _ _ h1 (fun _ h => by cases h), ?_, ?_⟩
  · rcases h2 with (h | ⟨u, h⟩) | h
    · exact .inl (.inl (e _ _ h fun _ h => by cases h))
    · exact .inl (.inr ⟨u, e _ _ h fun _ h => by cases h⟩)
    · exact .inr h
  · rcases h3 with (h | ⟨u, h⟩) | h
    · exact .inl (.inl (e _ _ h fun _ h => by cases h))
    · exact .inl (.inr ⟨u, e _ _ h fun _ h => by cases h⟩)
    · exact .inr h
theorem CvOk.updL {K : PySem.W.Frag} {H : Hp} {ts : List (List Int)} {L : List (Nat × Nat)} {cvs xs : List V} {D : Addr} {o : HO} (hD : H D = some (.lst xs)) (h : CvOk K H ts L cvs) : CvOk K (upd H D o) ts L cvs :=
  ⟨h.len, fun i p cv h1 h2 => (h.at_ i p cv h1 h2).mut fun b ob hb hn => by
    rw [upd_ne (fun e => by rw [e, hD] at hb; injection hb with hb; exact hn _ hb.symm)]
    exact hb⟩
mutual
theorem Rp.sameX {K : PySem.W.Frag} {x : Addr} {H H' : Hp} {C dx : Addr} {fs : List (Str × V)} (s : SameX x H H') (hx : H x = some (.ins C dx fs)) : ∀ {v : V} {d : Dat}, Rp K H v d → Rp K H' v d
  | _, .v _, .v _ => .v _
  | _, .L _, .L h r => .L (s.seqL hx h) (RpA.sameX s hx r)
  | _, .T _, .T h r => .T (s.tupT hx h) (RpA.sameX s hx r)
theorem RpA.sameX {K : PySem.W.Frag} {x : Addr} {H H' : Hp} {C dx : Addr} {fs : List (Str × V)} (s : SameX x H H') (hx : H x = some (.ins C dx fs)) : ∀ {vs : List V} {ds : List Dat}, RpA K H vs ds → RpA K H' vs ds
  | _, [], .nil => .nil
  | _, _ :: _, .cons h r => .cons (Rp.sameX s hx h) (RpA.sameX s hx r)
end
theorem Leaf.sameX {K : PySem.W.Frag} {x : Addr} {H H' : Hp} {C dx : Addr} {fs : List (Str × V)} (s : SameX x H H') (hx : H x = some (.ins C dx fs)) (hC : C ≠ He.ga K "Code") {v : V} (h : Leaf K H v) : Leaf K H' v := by
  rcases h with h | h | ⟨a, dx, fs, h1, h2⟩
  · exact .inl h
  · exact .inr (.inl h)
  · refine .inr (.inr ⟨a, dx, fs, h1, s _ _ (fun e => ?_) h2⟩)
    rw [e, hx] at h2
    injection h2 with h2
    injection h2 with h3 h4
    exact hC h3
def plnF (a b c : V) : List (Str × V) := [("history", a), ("codes", b), ("stops", c)]
section
variable {P : Program} {w : World} {K : PySem.W.Frag} {mg : Str → Option Value} {base : Heap}
theorem sc_CodePlan_init : FnScope ["self", "history", "codes", "stops"] ["self", "history", "codes", "stops"] (defScope s_CodePlan_init) := ⟨rfl, rfl, rfl, by decide +kernel, rfl, by decide +kernel, by decide +kernel⟩
/-- frozen data, ahead of the making of what holds them -/
def sp_CodePlan (K : PySem.W.Frag) : Sp := fun vs H Q _ => ∃ (x dx : Addr) (hv cv sv : V) (d1 d2 d3 : Dat) (H0 : Hp), vs = [.ref x, hv, cv, sv] ∧ H x = some (.ins (He.ga K "CodePlan") dx []) ∧ Same H0 H ∧ H0 x = none ∧ Rp K H0 hv d1 ∧ Rp K H0 cv d2 ∧ Rp K H0 sv d3 ∧ FzOk K H0 3 d1 ∧ FzOk K H0 3 d2 ∧ FzOk K H0 3 d3 ∧
  ∀ H' h' c' s', SameX x H H' → H' x = some (.ins (He.ga K "CodePlan") dx (plnF h' c' s')) → Rp K H' h' (frz d1) → Rp K H' c' (frz d2) → Rp K H' s' (frz d3) → Q .non H'
theorem ok_CodePlan (t : T K mg) : Okf P w K mg base 6 ("CodePlan", some "__init__") ["self", "history", "codes", "stops"] [] (sp_CodePlan K) := by
  have O_as_frozen := ok_as_frozen (P := P) (w := w) (base := base) t 3
  refine okf (d := d_CodePlan_init) t 36 rfl rfl sc_CodePlan_init (fun _ _ _ _ _ _ us hl => match us, hl with | [_, _, _, _], _ => rfl) (fun vs H Q E h => ?_) (fun cdv A outer s H vs Q E hr h => ?_)
  · obtain ⟨x, dx, hv, cv, sv, d1, d2, d3, H0, rfl, _⟩ := h
    rfl
  · obtain ⟨x, dx, hv, cv, sv, d1, d2, d3, H0, rfl, hx, s0, hx0, r1, r2, r3, f1, f2, f3, q⟩ := h
    refine ⟨_, (pss_cons (ps_fld (pv 0) (pe_f O_as_frozen (hr.mono (by decide)) t.g_as_frozen (pa_cons (pv 1) pa_nil)) rfl)
      (pss_cons (ps_fld (pv 0) (pe_f O_as_frozen (hr.mono (by decide)) t.g_as_frozen (pa_cons (pv 2) pa_nil)) rfl)
      (pss_one (ps_fld (pv 0) (pe_f O_as_frozen (hr.mono (by decide)) t.g_as_frozen (pa_cons (pv 3) pa_nil)) rfl)))), ?_⟩
    refine ⟨_, rfl, hv, d1, rfl, r1.mono s0, f1.mono s0, fun H1 u1 s1 k1 => ?_⟩
    have hx1 := s1 _ _ hx
    refine ⟨.ref x, rfl, x, _, dx, _, rfl, hx1, t.c_CodePlan, t.n_CodePlan_history, (by decide : (0 : Nat) < 1000), ?_⟩
    have m2 := (SameX.refl H1).mut (x := x) (o := .ins (He.ga K "CodePlan") dx (putF "history" u1 []))
    have hx2 : (upd H1 x (.ins (He.ga K "CodePlan") dx (putF "history" u1 []))) x = some (.ins (He.ga K "CodePlan") dx (putF "history" u1 [])) := upd_same
    generalize upd H1 x (.ins (He.ga K "CodePlan") dx (putF "history" u1 [])) = H2 at m2 hx2
    have k1 := k1.sameX m2 hx1
    have sx2 := (SameX.of (x := x) s1).trans m2
    have s02 := sx2.same hx0 s0
    refine ⟨_, rfl, cv, d2, rfl, r2.mono s02, f2.mono s02, fun H3 u2 s3 k2 => ?_⟩
    have hx3 := s3 _ _ hx2
    refine ⟨.ref x, rfl, x, _, dx, _, rfl, hx3, t.c_CodePlan, t.n_CodePlan_codes, (by decide : (1 : Nat) < 1000), ?_⟩
    have m4 := (SameX.refl H3).mut (x := x) (o := .ins (He.ga K "CodePlan") dx (putF "codes" u2 (putF "history" u1 [])))
    have hx4 : (upd H3 x (.ins (He.ga K "CodePlan") dx (putF "codes" u2 (putF "history" u1 [])))) x = some (.ins (He.ga K "CodePlan") dx (putF "codes" u2 (putF "history" u1 []))) := upd_same
    generalize upd H3 x (.ins (He.ga K "CodePlan") dx (putF "codes" u2 (putF "history" u1 []))) = H4 at m4 hx4
    have k1 := (k1.mono s3).sameX m4 hx3
    have k2 := k2.sameX m4 hx3
    have sx4 := (sx2.trans (SameX.of s3)).trans m4
    have s04 := sx4.same hx0 s0
    refine ⟨_, rfl, sv, d3, rfl, r3.mono s04, f3.mono s04, fun H5 u3 s5 k3 => ?_⟩
    have hx5 := s5 _ _ hx4
    refine ⟨.ref x, rfl, x, _, dx, _, rfl, hx5, t.c_CodePlan, t.n_CodePlan_stops, (by decide : (2 : Nat) < 1000), ?_⟩
    have m6 := (SameX.refl H5).mut (x := x) (o := .ins (He.ga K "CodePlan") dx (putF "stops" u3 (putF "codes" u2 (putF "history" u1 []))))
    exact q _ u1 u2 u3 ((sx4.trans (SameX.of s5)).trans m6) upd_same ((k1.mono s5).sameX m6 hx5) ((k2.mono s5).sameX m6 hx5) (k3.sameX m6 hx5)
/-- a plan as it stands -/
structure PlanAt (K : PySem.W.Frag) (H : Hp) (v : V) (ts : List (List Int)) (L : List (Nat × Nat)) : Prop where
  ex : ∃ x dx h' c' s' cvs, v = .ref x ∧ H x = some (.ins (He.ga K "CodePlan") dx (plnF h' c' s')) ∧ Rp K H h' (.T (hD ts)) ∧ Rp K H c' (.T (codeD L cvs)) ∧ Rp K H s' (.T (stopD ts L)) ∧ CvOk K H ts L cvs
theorem codeD_snoc {L : List (Nat × Nat)} {cvs : List V} (h : cvs.length = L.length) (p : Nat × Nat) (cv : V) : codeD (L ++ [p]) (cvs ++ [cv]) = codeD L cvs ++ [.T [.v (.int (p.1 : Nat)), .v cv]] := by
  unfold codeD
  rw [List.zipWith_append h.symm]
  rfl
theorem codeD_noL : ∀ (L : List (Nat × Nat)) (cvs : List V), noLs (codeD L cvs) = true
  | [], _ => rfl
  | _ :: _, [] => rfl
  | p :: L, cv :: cvs => by
    show (true && noLs (codeD L cvs)) = true
    rw [codeD_noL L cvs]
    rfl
theorem stopD_noL (ts : List (List Int)) (L : List (Nat × Nat)) : noLs (stopD ts L) = true := noLs_of fun d hd => by
  obtain ⟨p, _, rfl⟩ := List.mem_map.mp hd
  rfl
theorem CvOk.snoc {H : Hp} {ts : List (List Int)} {L : List (Nat × Nat)} {cvs : List V} (h : CvOk K H ts L cvs) {p : Nat × Nat} {cv : V} (hc : CodeAt K H cv (hgI (takenF ts p.1).1) ((canonF (hgI (takenF ts p.1).1)).map SX.S)) : CvOk K H ts (L ++ [p]) (cvs ++ [cv]) := by
  refine ⟨by simp [h.len], fun i q u h1 h2 => ?_⟩
  by_cases hi : i < L.length
  · rw [List.getElem?_append_left hi] at h1
    rw [List.getElem?_append_left (by rw [h.len]; exact hi)] at h2
    exact h.at_ i q u h1 h2
  · have hi2 := (List.getElem?_eq_some_iff.mp h1).1
    rw [List.getElem?_append_right (by omega)] at h1
    rw [List.getElem?_append_right (by rw [h.len]; omega), h.len] at h2
    have h3 : i - L.length = 0 := by
      simp at hi2
      omega
    rw [h3] at h1 h2
    injection h1 with h1
    injection h2 with h2
    subst h1 h2
    exact hc
theorem sc_plan_codes : FnScope ["history", "tallies", "codes", "stops", "start", "stretch", "at"] ["history"] (defScope s_plan_codes) := ⟨rfl, rfl, rfl, by decide +kernel, rfl, by decide +kernel, by decide +kernel⟩
def sp_plan_codes (K : PySem.W.Frag) : Sp := fun vs H Q _ => ∃ (h : Addr) (es : List V) (m : Nat) (ts : List (List Int)), vs = [.ref h] ∧ SqL K H h es ∧ RpA K H es (hD ts) ∧ TOk m ts ∧ m ≤ 16 ∧ ∀ H' v L, Same H H' → PlanAt K H' v ts L → Ch ts 0 ts.length L → Q v H'
theorem ok_plan_codes (t : T K mg) : Okf P w K mg base 8 ("plan_codes", none) ["history"] [] (sp_plan_codes K) := by
  have O_tallies_of := ok_tallies_of (P := P) (w := w) (base := base) t
  have O_taken_on := ok_taken_on (P := P) (w := w) (base := base) t
  have O_Stretch_code_for := ok_code_for (P := P) (w := w) (base := base) t
  have O_CodePlan_init := ok_CodePlan (P := P) (w := w) (base := base) t
  refine okf (d := d_plan_codes) t 37 rfl rfl sc_plan_codes (fun _ _ _ _ _ _ us hl => match us, hl with | [_], _ => rfl) (fun vs H Q E h => ?_) (fun cdv A outer s H vs Q E hr h => ?_)
  · obtain ⟨h, es, m, ts, rfl, _⟩ := h
    rfl
  · obtain ⟨h, es, m, ts, rfl, hh, he, tok, hm, q⟩ := h
    refine ⟨_, (pss_cons (ps_set (i := 1) sc_plan_codes.nd rfl (.inl rfl) (pe_f O_tallies_of (hr.mono (by decide)) t.g_tallies_of (pa_cons (pv 0) pa_nil)))
      (pss_cons (ps_par3 (i := 2) (j := 3) (l := 4) rfl sc_plan_codes.nd rfl rfl rfl (by decide) (by decide) (by decide) rfl rfl rfl (pa_cons (pe_lst pa_nil) (pa_cons (pe_lst pa_nil) (pa_cons pe_int pa_nil))) (by rfl))
      (pss_cons (ps_while PassesOwn.never (pt_cmpR op_lt (pv 4) (pe_callB call_len_seq (by rfl) t.b_len bt_len (pa_cons (pv 0) pa_nil)) (nomark _))
        (pss_cons (ps_asg (pe_f O_taken_on (hr.mono (by decide)) t.g_taken_on (pa_cons (pv 0) (pa_cons (pv 1) (pa_cons (pv 4) pa_nil)))) (pg_tup rfl (pgs_cons (pg_name (i := 5) sc_plan_codes.nd rfl (.inl rfl)) (pgs_cons (pg_name (i := 6) sc_plan_codes.nd rfl (.inl rfl)) pgs_nil))))
        (pss_cons (ps_expr (pe_bm PySem.F.plainAttrs_list PySem.F.slot_list_append PySem.F.type_list_append mt_append (pv 2) (pa_cons (pe_tup (pa_cons (pv 4) (pa_cons (pe_mf0 O_Stretch_code_for (hr.mono (by decide)) (pv 5) t.c_Stretch t.h_Stretch_code_for) pa_nil))) pa_nil)))
        (pss_cons (ps_if (pt_cmpR op_lt (pv 6) (pe_callB call_len_seq (by rfl) t.b_len bt_len (pa_cons (pv 0) pa_nil)) (nomark _))
          (pss_one (ps_expr (pe_bm PySem.F.plainAttrs_list PySem.F.slot_list_append PySem.F.type_list_append mt_append (pv 3) (pa_cons (pe_tup (pa_cons (pv 4) (pa_cons (pv 6) pa_nil))) pa_nil))))
          pss_nil)
        (pss_one (ps_set (i := 4) sc_plan_codes.nd rfl (.inl rfl) (pv 6)))))))
      (pss_one (ps_ret (pe_mkf O_CodePlan_init t.m_CodePlan (hr.mono (by decide)) t.g_CodePlan (pa_cons (pv 0) (pa_cons (pv 2) (pa_cons (pv 3) pa_nil))))))))), ?_⟩
    have hle := he.len
    have hl2 : (WV.hD ts).length = ts.length := by unfold WV.hD; rw [List.length_map]
    have t3 := tok.two
    have t5 := tok.few
    refine ⟨.ref h, rfl, h, es, m, ts, rfl, .inl hh, he, tok, fun H1 J us s1 eu lv => ?_⟩
    refine ⟨by decide, fun D1 hD1 => ⟨by decide, fun D2 hD2 => ⟨_, _, _, rfl, ?_⟩⟩⟩
    have ne12 : D1 ≠ D2 := fun e => by
      rw [e] at hD2
      rw [upd_same] at hD2
      cases hD2
    have hD2' : H1 D2 = none := by
      rw [upd_ne (Ne.symm ne12)] at hD2
      exact hD2
    have s2 : Same H1 (upd (upd H1 D1 (.lst [])) D2 (.lst [])) := (Same.new hD1).mut hD2'
    have e1 : (upd (upd H1 D1 (.lst [])) D2 (.lst [])) D1 = some (.lst []) := by
      rw [upd_ne ne12, upd_same]
    refine ⟨fun k σ H' => Same H1 H' ∧ ∃ (a : Nat) (L : List (Nat × Nat)) (cs cvs ss : List V) (u5 u6 : Option V), k = ts.length - a ∧ a ≤ ts.length ∧ σ = [some (.ref h), some (.ref J), some (.ref D1), some (.ref D2), some (.int a), u5, u6] ∧ Ch ts 0 a L ∧ H' D1 = some (.lst cs) ∧ H' D2 = some (.lst ss) ∧ RpA K H' cs (codeD L cvs) ∧ RpA K H' ss (stopD ts L) ∧ CvOk K H' ts L cvs,
      ⟨ts.length - 0, s2, 0, [], [], [], [], none, none, rfl, Nat.zero_le _, rfl, .nil 0, e1, upd_same, .nil, .nil, ⟨rfl, fun i p cv h => by simp at h⟩⟩, ?_⟩
    rintro k σ H2 ⟨s3, a, L, cs, cvs, ss, u5, u6, rfl, ha, rfl, ch, ec, es2, rc, rs, cv⟩
    refine ⟨_, rfl, .ref h, rfl, h, es, rfl, .inl ((s1.trans s3).seq hh), _, _, rfl, rfl, decide (a < ts.length), ?_, ?_⟩
    · show V.bl (decide ((a : Int) < (es.length : Nat))) = _
      refine congrArg V.bl ?_
      rw [hle, hl2]
      by_cases c : a < ts.length
      · rw [decide_eq_true c, decide_eq_true (by omega)]
      · rw [decide_eq_false c, decide_eq_false (by omega)]
    have lL := ch.le
    have lcs : cs.length ≤ L.length := by
      rw [rc.len]
      unfold codeD
      rw [List.length_zipWith]
      omega
    have lss : ss.length ≤ L.length := by
      rw [rs.len]
      unfold stopD
      rw [List.length_map]
      exact List.length_filter_le _ _
    by_cases c : a < ts.length
    · rw [decide_eq_true c]
      refine iteT ⟨fun σ' H' => ∃ m', m' < ts.length - a ∧ (Same H1 H' ∧ ∃ (a : Nat) (L : List (Nat × Nat)) (cs cvs ss : List V) (u5 u6 : Option V), m' = ts.length - a ∧ a ≤ ts.length ∧ σ' = [some (.ref h), some (.ref J), some (.ref D1), some (.ref D2), some (.int a), u5, u6] ∧ Ch ts 0 a L ∧ H' D1 = some (.lst cs) ∧ H' D2 = some (.lst ss) ∧ RpA K H' cs (codeD L cvs) ∧ RpA K H' ss (stopD ts L) ∧ CvOk K H' ts L cvs), fun _ _ h => h, ?_⟩
      obtain ⟨tl1, tl2⟩ := taken_tot tok c
      refine ⟨_, rfl, _, rfl, _, rfl, h, J, a, es, us, m, ts, rfl, .inl ((s1.trans s3).seq hh), he.mono (s1.trans s3), s3 _ _ eu, lv.mono s3, tok, c, fun H3 p x s4 hp hS => ?_⟩
      have eap := taken_gt ts a
      have ele := taken_le c
      refine g_two hp ?_
      have hS' := hS
      obtain ⟨dx, gl, dl, tl, ll, hx, _⟩ := hS'.ex
      refine ⟨_, rfl, .inl ⟨rfl, _, SqL.of (s4 _ _ ec)⟩, _, rfl, .ref x, rfl, x, dx, _, rfl, hx, rfl, x, _, _, rfl, hS, ⟨by omega, by omega⟩, tl2, fun H5 v s5 hv => ⟨by show 2 ≤ sizeLine; decide, fun q5 hq5 => ?_⟩⟩
      have s6 := (s4.trans s5).trans (Same.new (o := .tup [V.int (a : Nat), v]) hq5)
      have hv6 := hv.mono (Same.new (o := .tup [V.int (a : Nat), v]) hq5)
      have eq6 : (upd H5 q5 (.tup [V.int (a : Nat), v])) q5 = some (.tup [V.int (a : Nat), v]) := upd_same
      generalize upd H5 q5 (.tup [V.int (a : Nat), v]) = H6 at s6 hv6 eq6
      have ec6 := s6 _ _ ec
      have es6 := s6 _ _ es2
      refine ⟨D1, cs, _, rfl, rfl, ec6, by rw [sizeLine_eq]; omega, ?_⟩
      have s7 : Same H1 (upd H6 D1 (.lst (cs ++ [.ref q5]))) := (s3.trans s6).mut hD1
      have ec7 : (upd H6 D1 (.lst (cs ++ [.ref q5]))) D1 = some (.lst (cs ++ [.ref q5])) := upd_same
      have es7 : (upd H6 D1 (.lst (cs ++ [.ref q5]))) D2 = some (.lst ss) := by
        rw [upd_ne (Ne.symm ne12)]
        exact es6
      have q7 : Rp K (upd H6 D1 (.lst (cs ++ [.ref q5]))) (.ref q5) (.T [.v (.int (a : Nat)), .v v]) := by
        refine .T (SqT.of ?_) (.cons (.v _) (.cons (.v _) .nil))
        rw [upd_ne (ne_of eq6 ec6 (by intro z; cases z))]
        exact eq6
      have rc7 : RpA K (upd H6 D1 (.lst (cs ++ [.ref q5]))) (cs ++ [.ref q5]) (codeD (L ++ [(a, (takenF ts a).2.2)]) (cvs ++ [v])) := by
        rw [codeD_snoc cv.len]
        exact (RpA.updL ec6 (codeD_noL L cvs) (rc.mono s6)).snoc q7
      have rs7 := RpA.updL (o := .lst (cs ++ [.ref q5])) ec6 (stopD_noL ts L) (rs.mono s6)
      have cv7 := CvOk.snoc (K := K) ((cv.mono s6).updL (o := .lst (cs ++ [.ref q5])) ec6) (p := (a, (takenF ts a).2.2)) (hv6.mut fun b ob hb hn => by
        rw [upd_ne (fun e => by rw [e, ec6] at hb; injection hb with hb; exact hn _ hb.symm)]
        exact hb)
      generalize upd H6 D1 (.lst (cs ++ [.ref q5])) = H7 at *
      have ch7 := ch.snoc c
      have hlen : (h : Addr) = h := rfl
      refine ⟨_, rfl, .ref h, rfl, h, es, rfl, .inl ((s1.trans s7).seq hh), _, _, rfl, rfl, decide ((takenF ts a).2.2 < ts.length), ?_, ?_⟩
      · show V.bl (decide ((((takenF ts a).2.2 : Nat) : Int) < (es.length : Nat))) = _
        refine congrArg V.bl ?_
        rw [hle, hl2]
        by_cases c : (takenF ts a).2.2 < ts.length
        · rw [decide_eq_true c, decide_eq_true (by omega)]
        · rw [decide_eq_false c, decide_eq_false (by omega)]
      by_cases c2 : (takenF ts a).2.2 < ts.length
      · rw [decide_eq_true c2]
        refine iteT ⟨_, rfl, .inl ⟨rfl, _, SqL.of es7⟩, _, rfl, _, rfl, by show 2 ≤ sizeLine; decide, fun q8 hq8 => ?_⟩
        have s8 := Same.new (o := .tup [V.int (a : Nat), V.int ((takenF ts a).2.2 : Nat)]) hq8
        have eq8 : (upd H7 q8 (.tup [V.int (a : Nat), V.int ((takenF ts a).2.2 : Nat)])) q8 = some (.tup [V.int (a : Nat), V.int ((takenF ts a).2.2 : Nat)]) := upd_same
        generalize upd H7 q8 (.tup [V.int (a : Nat), V.int ((takenF ts a).2.2 : Nat)]) = H8 at s8 eq8
        have es8 := s8 _ _ es7
        refine ⟨D2, ss, _, rfl, rfl, es8, by rw [sizeLine_eq]; omega, ?_⟩
        refine ⟨_, rfl, ts.length - (takenF ts a).2.2, by omega, (s7.trans s8).mut hD2', (takenF ts a).2.2, _, _, _, _, _, _, rfl, ele, rfl, ch7, ?_, upd_same, RpA.updL es8 (codeD_noL _ _) (rc7.mono s8), ?_, (cv7.mono s8).updL es8⟩
        · rw [upd_ne ne12]
          exact s8 _ _ ec7
        · have e9 : stopD ts (L ++ [(a, (takenF ts a).2.2)]) = stopD ts L ++ [.T [.v (.int (a : Nat)), .v (.int ((takenF ts a).2.2 : Nat))]] := by
            unfold stopD
            rw [List.filter_append, List.map_append, List.filter_cons, decide_eq_true c2]
            rfl
          rw [e9]
          refine (RpA.updL es8 (stopD_noL ts L) (rs7.mono s8)).snoc ?_
          refine .T (SqT.of ?_) (.cons (.v _) (.cons (.v _) .nil))
          rw [upd_ne (ne_of eq8 es8 (by intro z; cases z))]
          exact eq8
      · rw [decide_eq_false c2]
        have e9 : stopD ts (L ++ [(a, (takenF ts a).2.2)]) = stopD ts L := by
          unfold stopD
          rw [List.filter_append, List.filter_cons, decide_eq_false c2]
          simp
        refine iteF ⟨_, rfl, ts.length - (takenF ts a).2.2, by omega, s7, (takenF ts a).2.2, _, _, _, _, _, _, rfl, ele, rfl, ch7, ec7, es7, rc7, ?_, cv7⟩
        rw [e9]
        exact rs7
    · rw [decide_eq_false c]
      have e0 : a = ts.length := by omega
      subst e0
      refine iteF ⟨_, rfl, _, rfl, _, rfl, fun x dx hx hdx hne => ?_⟩
      have sN : Same H2 (upd (upd H2 dx (.own x)) x (.ins (He.ga K "CodePlan") dx [])) := (Same.new hdx).mut hx
      refine ⟨x, dx, .ref h, .ref D1, .ref D2, .L (WV.hD ts), .L (codeD L cvs), .L (stopD ts L), H2, rfl, upd_same, sN, hx, .L ((s1.trans s3).seq hh) (he.mono (s1.trans s3)), .L (SqL.of ec) rc, .L (SqL.of es2) rs, ?_, ?_, ?_, fun H5 h' c' s' s5 e5 r1 r2 r3 => ⟨rfl, q _ _ L ((s1.trans s3).trans (s5.same hx sN)) ⟨x, dx, h', c', s', cvs, rfl, e5, ?_, ?_, ?_, cv.mono (s5.same hx sN)⟩ ch⟩⟩
      · refine .L (by omega) fun d hd => ?_
        obtain ⟨ns, hns, rfl⟩ := List.mem_map.mp hd
        have := (tok.row ns hns).1
        refine .T (by show 2 ≤ _; omega) fun d hd => ?_
        rcases List.mem_cons.mp hd with rfl | hd
        · exact .v (.inr (.inl ⟨_, rfl⟩))
        · rw [List.mem_singleton.mp hd]
          refine .T (by unfold iD; rw [List.length_map]; omega) fun d hd => ?_
          obtain ⟨z, _, rfl⟩ := List.mem_map.mp hd
          exact .v (.inl ⟨_, rfl⟩)
      · refine .L (by rw [← rc.len]; omega) fun d hd => ?_
        obtain ⟨i, hi, rfl⟩ := List.getElem_of_mem hd
        unfold codeD at hi ⊢
        rw [List.length_zipWith] at hi
        rw [List.getElem_zipWith]
        have hc := cv.at_ i L[i] cvs[i] (List.getElem?_eq_getElem (by omega)) (List.getElem?_eq_getElem (by omega))
        refine .T (by show 2 ≤ _; omega) fun d hd => ?_
        rcases List.mem_cons.mp hd with rfl | hd
        · exact .v (.inl ⟨_, rfl⟩)
        · rw [List.mem_singleton.mp hd]
          obtain ⟨ca, dx2, _, _, _, e, hc1, _⟩ := hc.ex
          exact .v (.inr (.inr ⟨ca, dx2, _, e, hc1⟩))
      · refine .L (by rw [← rs.len]; omega) fun d hd => ?_
        obtain ⟨p, _, rfl⟩ := List.mem_map.mp hd
        refine .T (by show 2 ≤ _; omega) fun d hd => ?_
        rcases List.mem_cons.mp hd with rfl | hd
        · exact .v (.inl ⟨_, rfl⟩)
        · rw [List.mem_singleton.mp hd]
          exact .v (.inl ⟨_, rfl⟩)
      · have e : frz (.L (WV.hD ts)) = .T (WV.hD ts) := by
          show Dat.T (frzs (WV.hD ts)) = _
          refine congrArg Dat.T ?_
          rw [frzs_map]
          unfold WV.hD
          rw [List.map_map]
          refine List.map_congr_left fun ns _ => ?_
          show Dat.T [Dat.v _, Dat.T (frzs (iD ns))] = evD ns
          unfold evD
          have : frzs (iD ns) = iD ns := by
            rw [frzs_map]
            unfold iD
            rw [List.map_map]
            rfl
          rw [this]
        rw [e] at r1
        exact r1
      · have e : frz (.L (codeD L cvs)) = .T (codeD L cvs) := by
          show Dat.T (frzs (codeD L cvs)) = _
          refine congrArg Dat.T ?_
          rw [frzs_map]
          unfold codeD
          rw [List.map_zipWith]
          rfl
        rw [e] at r2
        exact r2
      · have e : frz (.L (stopD ts L)) = .T (stopD ts L) := by
          show Dat.T (frzs (stopD ts L)) = _
          refine congrArg Dat.T ?_
          rw [frzs_map]
          unfold stopD
          rw [List.map_map]
          rfl
        rw [e] at r3
        exact r3
end
end WV
end
section
set_option maxRecDepth 100000
set_option maxHeartbeats 4000000
namespace WV
open PySem PySem.Spec PyProof.Rows L2
theorem dec_nat {a b : Nat} : decide ((a : Int) < (b : Nat)) = decide (a < b) := by
  by_cases c : a < b
  · rw [decide_eq_true c, decide_eq_true (by omega)]
  · rw [decide_eq_false c, decide_eq_false (by omega)]
theorem hD_len (ts : List (List Int)) : (hD ts).length = ts.length := by
  unfold hD
  rw [List.length_map]
theorem hD_at {ts : List (List Int)} {i : Nat} {ns : List Int} (h : ts[i]? = some ns) : (hD ts)[i]? = some (evD ns) := by
  unfold hD
  rw [List.getElem?_map, h]
  rfl
section
variable {P : Program} {w : World} {K : PySem.W.Frag} {mg : Str → Option Value} {base : Heap}
theorem sc_is_pair_at : FnScope ["value", "low", "high"] ["value", "low", "high"] (defScope s_is_pair_at) := ⟨rfl, rfl, rfl, by decide +kernel, rfl, by decide +kernel, by decide +kernel⟩
def sp_is_pair_at (K : PySem.W.Frag) : Sp := fun vs H Q _ => ∃ (p : Addr) (v a b : Int) (y : V), vs = [.ref p, .int a, .int b] ∧ SqT K H p [.int v, y] ∧ 0 ≤ v ∧ a ≤ v ∧ v < b ∧ Q (.bl true) H
theorem ok_is_pair_at (t : T K mg) : Okf P w K mg base 2 ("is_pair_at", none) ["value", "low", "high"] [] (sp_is_pair_at K) := by
  have O_is_count := ok_is_count (P := P) (w := w) (base := base) t
  refine okf (d := d_is_pair_at) t 38 rfl rfl sc_is_pair_at (fun _ _ _ _ _ _ us hl => match us, hl with | [_, _, _], _ => rfl) (fun vs H Q E h => ?_) (fun cdv A outer s H vs Q E hr h => ?_)
  · obtain ⟨p, v, a, b, y, rfl, _⟩ := h
    rfl
  · obtain ⟨p, v, a, b, y, rfl, hp, h0, h1, h2, q⟩ := h
    refine ⟨_, (pss_one (ps_ret (pe_and (pe_callB call_isi (by rfl) t.b_isinstance bt_isinstance (pa_cons (pv 0) (pa_cons (pe_bt t.b_tuple bt_tuple) pa_nil))) (pe_and (pe_cmpR op_eq (pe_callB call_len_seq (by rfl) t.b_len bt_len (pa_cons (pv 0) pa_nil)) pe_int (nomark _)) (pe_and (pe_f O_is_count (hr.mono (by decide)) t.g_is_count (pa_cons (pe_ix ix_tup (pv 0) pe_int (fun _ _ => rfl)) pa_nil)) (pe_one (pe_chain op_le op_lt (pv 1) (pe_ix ix_tup (pv 0) pe_int (fun _ _ => rfl)) (pv 2)))))))), ?_⟩
    refine ⟨_, rfl, _, _, _, _, true, rfl, .ty _, tyx_T hp, kit_ty (by decide +kernel), true, rfl, ?_⟩
    refine ⟨_, rfl, p, _, rfl, .inr hp, rfl, true, rfl, ?_⟩
    refine ⟨_, rfl, p, _, _, _, rfl, rfl, hp, rfl, v, rfl, decide (0 ≤ v), rfl, ?_⟩
    rw [decide_eq_true h0]
    refine iteT ⟨_, rfl, _, rfl, p, _, _, _, rfl, rfl, hp, rfl, _, _, rfl, rfl, true, congrArg V.bl (decide_eq_true h1), iteT ⟨_, rfl, _, _, rfl, rfl, ?_⟩⟩
    show Q (V.bl (decide (v < b))) H
    rw [decide_eq_true h2]
    exact q
theorem sc_serves : FnScope ["history", "tallies", "pair", "end", "start", "code", "at"] ["history", "tallies", "pair", "end"] (defScope s_serves) := ⟨rfl, rfl, rfl, by decide +kernel, rfl, by decide +kernel, by decide +kernel⟩
def sp_serves (K : PySem.W.Frag) : Sp := fun vs H Q _ => ∃ (h J p : Addr) (s e : Nat) (cv : V) (es us : List V) (m : Nat) (ts : List (List Int)) (ls : List Int) (ws : List Str), vs = [.ref h, .ref J, .ref p, .int e] ∧ SqT K H h es ∧ RpA K H es (hD ts) ∧ H J = some (.lst us) ∧ LsV H us ts ∧ TOk m ts ∧
  SqT K H p [.int s, cv] ∧ CodeAt K H cv ls ws ∧ ls.length = m ∧ (∀ l ∈ ls, 0 ≤ l ∧ l ≤ 1000) ∧ s < e ∧ e ≤ ts.length ∧ (∀ k ns, s ≤ k → k < e → ts[k]? = some ns → dot ns ls = lo ns) ∧ ∀ H', Same H H' → Q (.bl true) H'
theorem ok_serves (t : T K mg) : Okf P w K mg base 4 ("serves", none) ["history", "tallies", "pair", "end"] [] (sp_serves K) := by
  have O_is_least_for := ok_is_least_for (P := P) (w := w) (base := base) t
  refine okf (d := d_serves) t 40 rfl rfl sc_serves (fun _ _ _ _ _ _ us hl => match us, hl with | [_, _, _, _], _ => rfl) (fun vs H Q E h => ?_) (fun cdv A outer s H vs Q E hr h => ?_)
  · obtain ⟨h, J, p, s, e, cv, es, us, m, ts, ls, ws, rfl, _⟩ := h
    rfl
  · obtain ⟨h, J, p, s0, e0, cv, es, us, m, ts, ls, ws, rfl, hh, he, eu, lv, tok, hp, hc, hl, hb, h1, h2, hd, q⟩ := h
    refine ⟨_, (pss_cons (ps_asg (pv 2) (pg_tup rfl (pgs_cons (pg_name (i := 4) sc_serves.nd rfl (.inl rfl)) (pgs_cons (pg_name (i := 5) sc_serves.nd rfl (.inl rfl)) pgs_nil))))
      (pss_cons (ps_if (pt_cmpR op_ne (pe_fld (pv 5) rfl) (pe_callB call_len_seq (by rfl) t.b_len bt_len (pa_cons (pe_ix ix_list (pv 1) (pv 4) (fun _ _ => rfl)) pa_nil)) (nomark _))
        (pss_one (ps_ret pe_bl))
        pss_nil)
      (pss_cons (ps_for PassesOwn.never rfl (pi_range2 (by rfl) t.b_range (pa_cons (pv 4) (pa_cons (pv 3) pa_nil))) (pg_name (i := 6) sc_serves.nd rfl (.inl rfl))
        (pss_cons (ps_if (PW.pt (pw_and (pt_cmpR op_gt (pv 6) (pv 4) (nomark _)) (pw_and1 (pt_cmpR op_eq (pe_ix ix_tup (pe_ix ix_tup (pv 0) (pv 6) (fun _ _ => rfl)) pe_int (fun _ _ => rfl)) pe_str (nomark _)))))
          (pss_one ps_never)
          pss_nil)
        (pss_one (ps_if (pt_not (pt_val (pe_f O_is_least_for (hr.mono (by decide)) t.g_is_least_for (pa_cons (pv 5) (pa_cons (pe_ix ix_list (pv 1) (pv 6) (fun _ _ => rfl)) pa_nil)))))
          (pss_one (ps_ret pe_bl))
          pss_nil))))
      (pss_one (ps_ret pe_bl))))), ?_⟩
    have t3 := tok.two
    have t4 := tok.many
    have t5 := tok.few
    have hs : s0 < ts.length := by omega
    obtain ⟨b, hb1, hb2⟩ := lv.get s0 _ (List.getElem?_eq_getElem hs)
    have r1 := (tok.row _ (List.getElem_mem hs)).1
    have hc' := hc
    obtain ⟨ca, dx, tl, tw, mx, rfl, ho, _, _⟩ := hc'.ex
    refine ⟨_, rfl, g_two hp ?_⟩
    refine ⟨_, rfl, ca, _, dx, _, _, rfl, ho, t.c_Code, t.n_Code_size, codeF_s, _, rfl, _, rfl, J, us, _, _, rfl, rfl, SqL.of eu, atI_nat hb1, b, _, rfl, .inl (SqL.of hb2), rfl, false, ?_, iteF ?_⟩
    · refine congrArg V.bl ?_
      rw [List.length_map, r1, hl, decide_eq_true rfl]
      rfl
    refine ⟨_, rfl, _, rfl, _, _, rfl, ⟨by omega, by omega, by omega, by omega⟩, ?_⟩
    rw [show (((e0 : Nat) : Int) - (s0 : Nat)).toNat = e0 - s0 by omega]
    refine for_it walk_range (fun i σ H' => Same H H' ∧ ∃ u, σ = [some (.ref h), some (.ref J), some (.ref p), some (.int e0), some (.int s0), some (.ref ca), u]) ⟨Same.refl H, none, rfl⟩ (fun _ _ _ _ _ => trivial) (fun i x σ H1 H2 hi pp y => ?_) (fun σ H' pp => q H' pp.1)
    obtain ⟨s1, u, rfl⟩ := pp
    obtain ⟨rfl, hx⟩ := y
    have hx : x = .int ((s0 + i : Nat) : Int) := by
      rw [hx]
      rfl
    subst hx
    have hk : s0 + i < ts.length := by omega
    have g1 : ts[s0 + i]? = some ts[s0 + i] := List.getElem?_eq_getElem hk
    obtain ⟨b2, hb3, hb4⟩ := lv.get (s0 + i) _ g1
    obtain ⟨v, hv, hr3⟩ := he.get (hD_at g1)
    obtain ⟨r3, r4⟩ := tok.row _ (List.getElem_mem hk)
    have hdk := hd (s0 + i) _ (by omega) (by omega) g1
    generalize ts[s0 + i] = ns at *
    obtain ⟨ea, eb, ev, ha, hb5⟩ := evD_un (hr3.mono s1)
    subst ev
    have fin : ∀ c : Bool, (if c = true then True else True) := fun c => by cases c <;> trivial
    refine ⟨_, rfl, _, rfl, _, _, rfl, rfl, decide ((s0 : Int) < ((s0 + i : Nat) : Int)), rfl, ?_⟩
    by_cases c : 0 < i
    rw [decide_eq_true (show (s0 : Int) < ((s0 + i : Nat) : Int) by omega)]
    refine iteT ⟨_, rfl, _, rfl, h, es, _, _, rfl, rfl, s1.tup hh, atI_nat hv, ea, _, _, _, rfl, rfl, ha, rfl, rfl, false, rfl, iteF ?_⟩
    rotate_left
    rw [decide_eq_false (show ¬ (s0 : Int) < ((s0 + i : Nat) : Int) by omega)]
    refine iteF (iteF ?_)
    all_goals
      refine ⟨_, rfl, _, rfl, _, rfl, J, us, _, _, rfl, rfl, SqL.of (s1 _ _ eu), atI_nat hb3, .ref ca, b2, ls, ws, ns, rfl, ⟨hc.mono s1, .inl (SqL.of (s1 _ _ hb4)), by omega, by omega, by omega, r4, hb⟩, fun H3 s3 => ⟨_, rfl, ?_⟩⟩
      rw [decide_eq_true hdk]
      exact iteF ⟨s1.trans s3, _, rfl⟩
end
end WV
end
section
set_option maxRecDepth 100000
set_option maxHeartbeats 4000000
namespace WV
open PySem PySem.Spec PyProof.Rows L2
/-! ### stretches in a row -/
theorem Ch.mem {ts : List (List Int)} : ∀ {a b : Nat} {L : List (Nat × Nat)}, Ch ts a b L → ∀ p ∈ L, a ≤ p.1 ∧ p.1 < ts.length ∧ p.2 = (takenF ts p.1).2.2
  | _, _, _, .nil a, p, h => by cases h
  | a, _, _, .cons ha r, p, h => by
    rcases List.mem_cons.mp h with rfl | h
    · exact ⟨Nat.le_refl _, ha, rfl⟩
    · obtain ⟨h1, h2, h3⟩ := r.mem p h
      have := taken_gt ts a
      exact ⟨by omega, h2, h3⟩
theorem Ch.pw {ts : List (List Int)} : ∀ {a b : Nat} {L : List (Nat × Nat)}, Ch ts a b L → L.Pairwise fun p q => p.2 ≤ q.1
  | _, _, _, .nil a => .nil
  | a, _, _, .cons ha r => .cons (fun q hq => (r.mem q hq).1) r.pw
theorem Ch.next {ts : List (List Int)} : ∀ {a b : Nat} {L : List (Nat × Nat)}, Ch ts a b L → ∀ (i : Nat) p q, L[i]? = some p → L[i + 1]? = some q → q.1 = p.2
  | _, _, _, .nil a, i, p, q, h, _ => by simp at h
  | a, _, _, .cons ha (.nil _), i, p, q, h, h2 => by
    have := (List.getElem?_eq_some_iff.mp h2).1
    simp at this
  | a, _, _, .cons ha (.cons hb r), 0, p, q, h, h2 => by
    simp at h h2
    rw [← h, ← h2]
  | a, _, _, .cons ha (.cons hb r), i + 1, p, q, h, h2 => Ch.next (.cons hb r) i p q (by simpa using h) (by simpa using h2)
theorem Ch.last {ts : List (List Int)} : ∀ {a b : Nat} {L : List (Nat × Nat)}, Ch ts a b L → ∀ p, L[L.length - 1]? = some p → p.2 = b
  | _, _, _, .nil a, p, h => by simp at h
  | a, _, _, .cons ha (.nil _), p, h => by
    simp at h
    rw [← h]
  | a, _, _, .cons ha (.cons hb r), p, h => Ch.last (.cons hb r) p (by simpa using h)
theorem Ch.first {ts : List (List Int)} {a b : Nat} {L : List (Nat × Nat)} (c : Ch ts a b L) {p : Nat × Nat} (h : L[0]? = some p) : p.1 = a := by
  cases c with
  | nil => simp at h
  | cons ha r =>
    simp at h
    rw [← h]
theorem Ch.ne {ts : List (List Int)} {a b : Nat} {L : List (Nat × Nat)} (c : Ch ts a b L) (h : a ≠ b) : 1 ≤ L.length := by
  cases c with
  | nil => exact absurd rfl h
  | cons ha r => exact Nat.succ_le_succ (Nat.zero_le _)
theorem Ch.ends {ts : List (List Int)} {a b : Nat} {L : List (Nat × Nat)} (c : Ch ts a b L) (h : a ≠ b) : (L.drop 1).map (fun p => p.1) ++ [b] = L.map fun p => p.2 := by
  have h1 := c.ne h
  refine List.ext_getElem? fun i => ?_
  by_cases hi : i + 1 < L.length
  · rw [List.getElem?_append_left (by rw [List.length_map, List.length_drop]; omega), List.getElem?_map, List.getElem?_drop, List.getElem?_map, Nat.add_comm 1 i]
    have g1 := List.getElem?_eq_getElem (show i < L.length by omega)
    have g2 := List.getElem?_eq_getElem hi
    rw [g1, g2]
    show some L[i + 1].1 = some L[i].2
    rw [c.next i _ _ g1 g2]
  · rw [List.getElem?_append_right (by rw [List.length_map, List.length_drop]; omega), List.length_map, List.length_drop, List.getElem?_map]
    by_cases h2 : i = L.length - 1
    · rw [h2, Nat.sub_self, List.getElem?_eq_getElem (show L.length - 1 < L.length by omega)]
      show some b = some (L[L.length - 1].2)
      rw [c.last _ (List.getElem?_eq_getElem (by omega))]
    · rw [List.getElem?_eq_none (by simp; omega), List.getElem?_eq_none (by omega)]
      rfl
theorem codeD_len {L : List (Nat × Nat)} {cvs : List V} (h : cvs.length = L.length) : (codeD L cvs).length = L.length := by
  unfold codeD
  rw [List.length_zipWith, h, Nat.min_self]
theorem codeD_at {L : List (Nat × Nat)} {cvs : List V} {i : Nat} {p : Nat × Nat} {cv : V} (h1 : L[i]? = some p) (h2 : cvs[i]? = some cv) : (codeD L cvs)[i]? = some (.T [.v (.int (p.1 : Nat)), .v cv]) := by
  unfold codeD
  rw [List.getElem?_zipWith, h1, h2]
theorem two_un {K : PySem.W.Frag} {H : Hp} {v x y : V} (h : Rp K H v (.T [.v x, .v y])) : ∃ a, v = .ref a ∧ SqT K H a [x, y] := by
  obtain ⟨a, xs, rfl, ha, r⟩ := h.unT
  cases r with
  | cons h1 r => cases r with
    | cons h2 r =>
      cases r
      rw [h1.unv, h2.unv] at ha
      exact ⟨a, rfl, ha⟩
/-- codes of a plan are least where they are in use -/
def Srv (ts : List (List Int)) (L : List (Nat × Nat)) : Prop := ∀ p ∈ L, ∀ k ns, p.1 ≤ k → k < p.2 → ts[k]? = some ns → dot ns (hgI (takenF ts p.1).1) = lo ns
section
variable {P : Program} {w : World} {K : PySem.W.Frag} {mg : Str → Option Value} {base : Heap}
theorem sc_codes_hold : FnScope ["history", "tallies", "codes", "before", "pair", "ends", "end"] ["history", "tallies", "codes"] (defScope s_codes_hold) := ⟨rfl, rfl, rfl, by decide +kernel, rfl, by decide +kernel, by decide +kernel⟩
def sp_codes_hold (K : PySem.W.Frag) : Sp := fun vs H Q _ => ∃ (h J c : Addr) (es us xs cvs : List V) (m : Nat) (ts : List (List Int)) (L : List (Nat × Nat)), vs = [.ref h, .ref J, .ref c] ∧ SqT K H h es ∧ RpA K H es (hD ts) ∧ H J = some (.lst us) ∧ LsV H us ts ∧ TOk m ts ∧ m ≤ 16 ∧
  SqT K H c xs ∧ RpA K H xs (codeD L cvs) ∧ CvOk K H ts L cvs ∧ Ch ts 0 ts.length L ∧ Srv ts L ∧ ∀ H', Same H H' → Q (.bl true) H'
theorem ok_codes_hold (t : T K mg) : Okf P w K mg base 5 ("codes_hold", none) ["history", "tallies", "codes"] [] (sp_codes_hold K) := by
  have O_is_pair_at := ok_is_pair_at (P := P) (w := w) (base := base) t
  have O_serves := ok_serves (P := P) (w := w) (base := base) t
  refine okf (d := d_codes_hold) t 39 rfl rfl sc_codes_hold (fun _ _ _ _ _ _ us hl => match us, hl with | [_, _, _], _ => rfl) (fun vs H Q E h => ?_) (fun cdv A outer s H vs Q E hr h => ?_)
  · obtain ⟨h, J, c, es, us, xs, cvs, m, ts, L, rfl, _⟩ := h
    rfl
  · obtain ⟨h, J, c, es, us, xs, cvs, m, ts, L, rfl, hh, he, eu, lv, tok, hm, hc, hx, cv, ch, srv, q⟩ := h
    have hu := hu_of hr
    refine ⟨_, (pss_cons (ps_if (PW.pt (pw_or (pt_not (pt_val (pe_callB call_isi (by rfl) t.b_isinstance bt_isinstance (pa_cons (pv 2) (pa_cons (pe_bt t.b_tuple bt_tuple) pa_nil))))) (pw_or1 (pt_cmpR (op_eqE (Nat.lt_of_succ_lt hu)) (pv 2) (pe_tup pa_nil) (nomark _)))))
        (pss_one (ps_ret pe_bl))
        pss_nil)
      (pss_cons (ps_set (i := 3) sc_codes_hold.nd rfl (.inl rfl) (pe_un un_neg pe_int))
      (pss_cons (ps_for PassesOwn.never rfl (pi_tup (pv 2)) (pg_name (i := 4) sc_codes_hold.nd rfl (.inl rfl))
        (pss_cons (ps_if (PW.pt (pw_or (pt_not (pt_val (pe_f O_is_pair_at (hr.mono (by decide)) t.g_is_pair_at (pa_cons (pv 4) (pa_cons (pe_op op_add (pv 3) pe_int) (pa_cons (pe_callB call_len_seq (by rfl) t.b_len bt_len (pa_cons (pv 0) pa_nil)) pa_nil)))))) (pw_or1 (pt_not (pt_val (pe_callB call_isi (by rfl) t.b_isinstance bt_isinstance (pa_cons (pe_ix ix_tup (pv 4) pe_int (fun _ _ => rfl)) (pa_cons (pe_cls t.g_Code) pa_nil))))))))
          (pss_one (ps_ret pe_bl))
          pss_nil)
        (pss_one (ps_set (i := 3) sc_codes_hold.nd rfl (.inl rfl) (pe_ix ix_tup (pv 4) pe_int (fun _ _ => rfl))))))
      (pss_cons (ps_if (pt_cmpR op_ne (pe_ix ix_tup (pe_ix ix_tup (pv 2) pe_int (fun _ _ => rfl)) pe_int (fun _ _ => rfl)) pe_int (nomark _))
        (pss_one (ps_ret pe_bl))
        pss_nil)
      (pss_cons (ps_set (i := 5) sc_codes_hold.nd rfl (.inl rfl) (pe_op op_cat (pe_lc (own := [("pair", 4)]) (g := gName 4) (tt := tYes) rfl sc_codes_hold.nd (pi_tup (pe_slice sl_tupA (pv 2) (po_some pe_int) po_none)) (blkOk_by (own := [("pair", 4)]) (N := ["history", "tallies", "codes", "before", "pair", "ends", "end"]) (sc := defScope s_codes_hold) (by decide +kernel)) (fun _ _ _ _ _ => (pg_name (i := 4) sc_codes_hold.nd rfl (.inl rfl))) (fun _ _ _ _ _ => pts_nil) (fun _ _ _ _ _ => (pe_ix (ix_tupK (K := K) rfl) (pv 4) pe_int (fun _ _ => rfl)))) (pe_lst (pa_cons (pe_callB call_len_seq (by rfl) t.b_len bt_len (pa_cons (pv 0) pa_nil)) pa_nil))))
      (pss_one (ps_ret (pe_callB (cr_all rfl) (by rfl) t.b_all bt_all (pa_cons (pe_lc (own := [("pair", 4), ("end", 6)]) (g := gTup K 2 (gCons (gName 4) (gCons (gName 6) gNil))) (tt := tYes) rfl sc_codes_hold.nd (pi_zip2A (by rfl) t.b_zip (pa_cons (pv 2) (pa_cons (pv 5) pa_nil))) (blkOk_by (own := [("pair", 4), ("end", 6)]) (N := ["history", "tallies", "codes", "before", "pair", "ends", "end"]) (sc := defScope s_codes_hold) (by decide +kernel)) (fun _ _ _ _ _ => (pg_tup rfl (pgs_cons (pg_name (i := 4) sc_codes_hold.nd rfl (.inl rfl)) (pgs_cons (pg_name (i := 6) sc_codes_hold.nd rfl (.inl rfl)) pgs_nil)))) (fun _ _ _ _ _ => pts_nil) (fun _ _ _ _ _ => (pe_f O_serves (hr.mono (by decide)) t.g_serves (pa_cons (pv 0) (pa_cons (pv 1) (pa_cons (pv 4) (pa_cons (pv 6) pa_nil))))))) pa_nil))))))))), ?_⟩
    have t1 := tok.ne
    have t3 := tok.two
    have t4 := tok.many
    have t5 := tok.few
    have lL := ch.ne (by omega)
    have lL2 := ch.le
    have lx : xs.length = L.length := by rw [hx.len, codeD_len cv.len]
    have les : es.length = ts.length := by rw [he.len, hD_len]
    have pw := ch.pw
    refine ⟨_, rfl, _, _, _, _, true, rfl, .ty _, tyx_T hc, kit_ty (by decide +kernel), true, rfl, iteF ?_⟩
    refine ⟨_, rfl, by decide, fun z hz => ⟨c, z, xs, rfl, rfl, (Same.new hz).tup hc, SqT.of upd_same, false, ?_, iteF ?_⟩⟩
    · refine congrArg V.bl ?_
      cases xs with
      | nil => simp at lx; omega
      | cons _ _ => rfl
    have s1 := Same.new (o := .tup []) hz
    generalize upd H z (.tup []) = H1 at s1
    have pairAt : ∀ (i : Nat) (x : V), xs[i]? = some x → ∃ p cv' a, L[i]? = some p ∧ cvs[i]? = some cv' ∧ x = .ref a ∧ SqT K H a [.int (p.1 : Nat), cv'] := fun i x hxi => by
      have hi := (List.getElem?_eq_some_iff.mp hxi).1
      have g1 := List.getElem?_eq_getElem (show i < L.length by omega)
      have g2 := List.getElem?_eq_getElem (show i < cvs.length by have := cv.len; omega)
      obtain ⟨v, hv, hr3⟩ := hx.get (codeD_at g1 g2)
      have e : v = x := Option.some.inj (hv.symm.trans hxi)
      subst e
      obtain ⟨a, rfl, ha⟩ := two_un hr3
      exact ⟨_, _, a, g1, g2, rfl, ha⟩
    refine ⟨_, rfl, _, rfl, ?_⟩
    refine ⟨c, rfl, ⟨_, s1.tup hc⟩, ?_⟩
    refine for_it (walk_tup (xs := xs)) (fun i σ H' => H' = H1 ∧ ∃ (b : Int) (u4 : Option V), σ = [some (.ref h), some (.ref J), some (.ref c), some (.int b), u4, none, none] ∧ ∀ p, L[i]? = some p → b + 1 ≤ (p.1 : Nat)) ⟨rfl, -1, none, rfl, fun p _ => by omega⟩ (fun i σ H' _ p => by rw [p.1]; exact s1.tup hc) (fun i x σ H2 H3 hi pp y => ?_) (fun σ H2 pp => ?_)
    · obtain ⟨rfl, b, u4, rfl, hbp⟩ := pp
      obtain ⟨rfl, hxi⟩ := y
      obtain ⟨p, cv', a, g1, g2, rfl, ha⟩ := pairAt i x hxi
      have ha1 := s1.tup ha
      obtain ⟨m1, m2, m3⟩ := ch.mem p (List.mem_of_getElem? g1)
      have hb := hbp p g1
      obtain ⟨ca, dx, tl, tw, mx, rfl, ho, _, _⟩ := (cv.at_ i p cv' g1 g2).ex
      refine ⟨_, rfl, _, rfl, _, _, rfl, rfl, _, rfl, h, es, rfl, .inr (s1.tup hh), a, _, _, _, _, rfl, ha1, by omega, hb, by omega, true, rfl, iteF ?_⟩
      refine ⟨_, rfl, a, _, _, _, rfl, rfl, ha1, rfl, _, _, _, _, true, rfl, .own _, t.tyOf t.xC t.c_Code (s1 _ _ ho), kit_self K _, true, rfl, iteF ?_⟩
      refine ⟨_, rfl, a, _, _, _, rfl, rfl, ha1, rfl, rfl, (p.1 : Nat), _, rfl, fun p' g3 => ?_⟩
      have := ch.next i p p' g1 g3
      have := taken_gt ts p.1
      omega
    · obtain ⟨e12, b, u4, rfl, _⟩ := pp
      subst H2
      obtain ⟨x0, hx0⟩ : ∃ x0, xs[0]? = some x0 := ⟨_, List.getElem?_eq_getElem (by omega)⟩
      obtain ⟨p0, cv0, a0, g1, g2, rfl, ha0⟩ := pairAt 0 x0 hx0
      have e0 := ch.first g1
      refine ⟨_, rfl, c, xs, 0, _, rfl, rfl, s1.tup hc, atI_nat (i := 0) hx0, a0, _, _, _, rfl, rfl, s1.tup ha0, rfl, rfl, false, ?_, iteF ?_⟩
      · rw [e0]
        rfl
      have ncut : ¬ (HT.sIx xs.length 0 (some 1) = 0 ∧ HT.sIx xs.length xs.length none = xs.length) := fun h => by
        have h1 := h.1
        rw [show (some (1 : Int)) = some ((1 : Nat) : Int) from rfl, HT.sIx_nat] at h1
        omega
      refine ⟨_, rfl, _, rfl, c, xs, rfl, s1.tup hc, fun h => absurd h ncut, fun _ p2 hp2 => ?_⟩
      have s2 := s1.trans (Same.new (o := .tup (cutV xs (some 1) none)) hp2)
      have ecut : (cutV xs (some 1) none) = xs.drop 1 := cut_from xs 1
      rw [ecut] at s2 ⊢
      have hp2' : SqT K (upd H1 p2 (.tup (xs.drop 1))) p2 (xs.drop 1) := SqT.of upd_same
      generalize upd H1 p2 (.tup (xs.drop 1)) = H2 at s2 hp2'
      refine ⟨p2, rfl, ⟨_, hp2'⟩, fun D hD => ?_⟩
      refine lc_all (K := K) (walk_tup (xs := xs.drop 1)) hD (by rw [List.length_drop]; omega) (fun H' s3 => s3.tup hp2') (fun i => .v (.int (((L.drop 1).map fun p => p.1).getD i 0 : Nat))) (fun i => rfl) (fun i x H3 H4 hi s3 y Qk kq => ?_) (fun H3 ys s3 e r => ?_)
      · obtain ⟨rfl, hxi⟩ := y
        rw [List.getElem?_drop] at hxi
        obtain ⟨p, cv', a, g3, g4, rfl, ha⟩ := pairAt _ x hxi
        refine ⟨rfl, _, rfl, a, _, _, _, rfl, rfl, (s2.trans s3).tup ha, rfl, kq _ _ (Same.refl _) ?_⟩
        have : ((L.drop 1).map fun p => p.1)[i]? = some p.1 := by
          rw [List.getElem?_map, List.getElem?_drop, g3]
          rfl
        rw [getD_at this]
        exact .v _
      · have e3 : (List.range (xs.drop 1).length).map (fun i => Dat.v (.int (((L.drop 1).map fun p => p.1).getD i 0 : Nat))) = iD ((L.drop 1).map fun p => ((p.1 : Nat) : Int)) := by
          unfold iD
          rw [← range_get (xs := (L.drop 1).map fun p => ((p.1 : Nat) : Int)) (fun i => ((((L.drop 1).map fun p => p.1).getD i 0 : Nat) : Int)) fun i x hx => by
            rw [List.getElem?_map] at hx
            obtain ⟨u, hu, rfl⟩ := Option.map_eq_some_iff.mp hx
            rw [getD_at (x := u.1) (by rw [List.getElem?_map, hu]; rfl)]]
          rw [List.map_map, List.length_map, List.length_drop, List.length_drop, lx]
          rfl
        rw [e3] at r
        rw [r.unints] at e
        have s4 := s2.trans s3
        refine ⟨_, rfl, h, es, rfl, .inr (s4.tup hh), by show 1 ≤ sizeLine; decide, fun z1 hz1 => ?_⟩
        have s5 := s4.trans (Same.new (o := .lst [V.int (es.length : Nat)]) hz1)
        have ez1 : (upd H3 z1 (.lst [V.int (es.length : Nat)])) z1 = some (.lst [V.int (es.length : Nat)]) := upd_same
        have e5 := (Same.new (o := .lst [V.int (es.length : Nat)]) hz1) _ _ e
        generalize upd H3 z1 (.lst [V.int (es.length : Nat)]) = H5 at s5 ez1 e5
        refine ⟨D, z1, _, _, rfl, rfl, e5, ez1, by rw [List.length_map, List.length_map, List.length_drop, List.length_singleton, sizeLine_eq]; omega, fun z2 hz2 => ?_⟩
        have eend : ((L.drop 1).map fun p => ((p.1 : Nat) : Int)).map V.int ++ [V.int (es.length : Nat)] = (L.map fun p => ((p.2 : Nat) : Int)).map V.int := by
          have := congrArg (List.map fun n : Nat => V.int (n : Int)) (ch.ends (by omega))
          rw [List.map_append, List.map_map, List.map_map] at this
          rw [List.map_map, List.map_map, les]
          exact this
        rw [eend]
        have s6 := s5.trans (Same.new (o := .lst ((L.map fun p => ((p.2 : Nat) : Int)).map V.int)) hz2)
        have ez2 : (upd H5 z2 (.lst ((L.map fun p => ((p.2 : Nat) : Int)).map V.int))) z2 = some (.lst ((L.map fun p => ((p.2 : Nat) : Int)).map V.int)) := upd_same
        generalize upd H5 z2 (.lst ((L.map fun p => ((p.2 : Nat) : Int)).map V.int)) = H6 at s6 ez2
        refine ⟨_, rfl, _, rfl, c, z2, xs, _, false, true, rfl, s6.tup hc, SqL.of ez2, fun R hR => ?_⟩
        have lz : L.length = min xs.length ((L.map fun p => ((p.2 : Nat) : Int)).map V.int).length := by
          rw [List.length_map, List.length_map, lx, Nat.min_self]
        refine lc_all (K := K) (walk_zip2A (k := false) (k2 := true) lz) hR (by omega) (fun H' s7 => ⟨(s6.trans s7).tup hc, SqL.of (s7 _ _ ez2)⟩) (fun i => .v (.bl true)) (fun i => rfl) (fun i x H7 H8 hi s7 y Qk kq => ?_) (fun H7 ys s7 e r => ?_)
        · obtain ⟨T, x', y', rfl, hT, rfl, e1, e2⟩ := y
          have sT := Same.new (o := .tup [x', y']) hT
          have s8 := (s6.trans s7).trans sT
          obtain ⟨p, cv', a, g3, g4, rfl, ha⟩ := pairAt i x' e1
          have e2' : y' = .int (p.2 : Nat) := by
            have e2 : ((L.map fun p => ((p.2 : Nat) : Int)).map V.int)[i]? = some y' := e2
            rw [List.getElem?_map, List.getElem?_map, g3] at e2
            injection e2 with e2
            exact e2.symm
          subst e2'
          have hcv := cv.at_ i p cv' g3 g4
          obtain ⟨m1, m2, m3⟩ := ch.mem p (List.mem_of_getElem? g3)
          obtain ⟨tl1, tl2⟩ := taken_tot tok m2
          have tg := taken_gt ts p.1
          have te := taken_le m2
          refine g_two (SqT.of upd_same) ⟨rfl, _, rfl, _, rfl, _, rfl, _, rfl, h, J, a, p.1, p.2, cv', es, us, m, ts, _, _, rfl, s8.tup hh, he.mono s8, s8 _ _ eu, lv.mono s8, tok, s8.tup ha, hcv.mono s8, by rw [hgI_len]; exact tl1, fun l hl => ?_, by omega, by omega, srv p (List.mem_of_getElem? g3), fun H9 s9 => kq _ _ (sT.trans s9) (.v _)⟩
          have := hgI_bnd (by omega) tl2 l hl
          omega
        · have e3 : (List.range L.length).map (fun i => Dat.v (.bl true)) = fD ((List.replicate L.length true).map V.bl) := by
            unfold fD
            rw [List.map_map, List.map_replicate, List.map_const', List.length_range]
            rfl
          rw [e3] at r
          rw [r.unflat] at e
          refine ⟨R, _, rfl, SqL.of e, ?_⟩
          rw [show (List.replicate L.length true).all id = true by simp]
          exact q H7 (s6.trans s7)
end
end WV
end
section
set_option maxRecDepth 100000
set_option maxHeartbeats 4000000
namespace WV
open PySem PySem.Spec PyProof.Rows L2
section
variable {P : Program} {w : World} {K : PySem.W.Frag} {mg : Str → Option Value} {base : Heap}
theorem sc_stops_hold : FnScope ["history", "tallies", "stops", "before", "pair"] ["history", "tallies", "stops"] (defScope s_stops_hold) := ⟨rfl, rfl, rfl, by decide +kernel, rfl, by decide +kernel, by decide +kernel⟩
def sp_stops_hold (K : PySem.W.Frag) : Sp := fun vs H Q _ => ∃ (h J c : Addr) (es us xs : List V) (m : Nat) (ts : List (List Int)) (L : List (Nat × Nat)), vs = [.ref h, .ref J, .ref c] ∧ SqT K H h es ∧ RpA K H es (hD ts) ∧ H J = some (.lst us) ∧ LsV H us ts ∧ TOk m ts ∧
  SqT K H c xs ∧ RpA K H xs (stopD ts L) ∧ Ch ts 0 ts.length L ∧ ∀ H', Same H H' → Q (.bl true) H'
theorem ok_stops_hold (t : T K mg) : Okf P w K mg base 6 ("stops_hold", none) ["history", "tallies", "stops"] [] (sp_stops_hold K) := by
  have O_is_pair_at := ok_is_pair_at (P := P) (w := w) (base := base) t
  have O_is_count := ok_is_count (P := P) (w := w) (base := base) t
  have O_taken_on := ok_taken_on (P := P) (w := w) (base := base) t
  refine okf (d := d_stops_hold) t 41 rfl rfl sc_stops_hold (fun _ _ _ _ _ _ us hl => match us, hl with | [_, _, _], _ => rfl) (fun vs H Q E h => ?_) (fun cdv A outer s H vs Q E hr h => ?_)
  · obtain ⟨h, J, c, es, us, xs, m, ts, L, rfl, _⟩ := h
    rfl
  · obtain ⟨h, J, c, es, us, xs, m, ts, L, rfl, hh, he, eu, lv, tok, hc, hx, ch, q⟩ := h
    refine ⟨_, (pss_cons (ps_if (pt_not (pt_val (pe_callB call_isi (by rfl) t.b_isinstance bt_isinstance (pa_cons (pv 2) (pa_cons (pe_bt t.b_tuple bt_tuple) pa_nil)))))
        (pss_one (ps_ret pe_bl))
        pss_nil)
      (pss_cons (ps_set (i := 3) sc_stops_hold.nd rfl (.inl rfl) pe_int)
      (pss_cons (ps_for PassesOwn.never rfl (pi_tup (pv 2)) (pg_name (i := 4) sc_stops_hold.nd rfl (.inl rfl))
        (pss_cons (ps_if (PW.pt (pw_or (pt_not (pt_val (pe_f O_is_pair_at (hr.mono (by decide)) t.g_is_pair_at (pa_cons (pv 4) (pa_cons (pv 3) (pa_cons (pe_callB call_len_seq (by rfl) t.b_len bt_len (pa_cons (pv 0) pa_nil)) pa_nil)))))) (pw_or1 (pt_not (pt_val (pe_f O_is_count (hr.mono (by decide)) t.g_is_count (pa_cons (pe_ix ix_tup (pv 4) pe_int (fun _ _ => rfl)) pa_nil)))))))
          (pss_one (ps_ret pe_bl))
          pss_nil)
        (pss_cons (ps_if (PW.pt (pw_or (pt_not (pt_chain op_lt op_lt (pe_ix ix_tup (pv 4) pe_int (fun _ _ => rfl)) (pe_ix ix_tup (pv 4) pe_int (fun _ _ => rfl)) (pe_callB call_len_seq (by rfl) t.b_len bt_len (pa_cons (pv 0) pa_nil)))) (pw_or1 (pt_cmpR op_gt (pe_ix ix_tup (pe_f O_taken_on (hr.mono (by decide)) t.g_taken_on (pa_cons (pv 0) (pa_cons (pv 1) (pa_cons (pe_ix ix_tup (pv 4) pe_int (fun _ _ => rfl)) pa_nil)))) pe_int (fun _ _ => rfl)) (pe_ix ix_tup (pv 4) pe_int (fun _ _ => rfl)) (nomark _)))))
          (pss_one (ps_ret pe_bl))
          pss_nil)
        (pss_one (ps_set (i := 3) sc_stops_hold.nd rfl (.inl rfl) (pe_ix ix_tup (pv 4) pe_int (fun _ _ => rfl)))))))
      (pss_one (ps_ret pe_bl))))), ?_⟩
    have les : es.length = ts.length := by rw [he.len, hD_len]
    have lx : xs.length = (L.filter fun p => decide (p.2 < ts.length)).length := by
      rw [hx.len]
      unfold stopD
      rw [List.length_map]
    have pw : (L.filter fun p => decide (p.2 < ts.length)).Pairwise fun p q => p.2 ≤ q.1 := ch.pw.filter _
    have mem : ∀ p ∈ L.filter (fun p => decide (p.2 < ts.length)), p.2 < ts.length ∧ p.1 < ts.length ∧ p.2 = (takenF ts p.1).2.2 := fun p hp => by
      obtain ⟨h1, h2⟩ := List.mem_filter.mp hp
      obtain ⟨_, m2, m3⟩ := ch.mem p h1
      exact ⟨by simpa using h2, m2, m3⟩
    have get : ∀ (i : Nat) p, (L.filter fun p => decide (p.2 < ts.length))[i]? = some p → (stopD ts L)[i]? = some (.T [.v (.int (p.1 : Nat)), .v (.int (p.2 : Nat))]) := fun i p hp => by
      unfold stopD
      rw [List.getElem?_map, hp]
      rfl
    generalize (L.filter fun p => decide (p.2 < ts.length)) = F at *
    refine ⟨_, rfl, _, _, _, _, true, rfl, .ty _, tyx_T hc, kit_ty (by decide +kernel), true, rfl, iteF ?_⟩
    refine ⟨_, rfl, c, rfl, ⟨_, hc⟩, ?_⟩
    refine for_it (walk_tup (xs := xs)) (fun i σ H' => Same H H' ∧ ∃ (b : Nat) (u4 : Option V), σ = [some (.ref h), some (.ref J), some (.ref c), some (.int b), u4] ∧ ∀ p, F[i]? = some p → b ≤ p.1) ⟨Same.refl H, 0, none, rfl, fun p _ => Nat.zero_le _⟩ (fun i σ H' _ p => p.1.tup hc) (fun i x σ H2 H3 hi pp y => ?_) (fun σ H2 pp => q H2 pp.1)
    obtain ⟨s1, b, u4, rfl, hbp⟩ := pp
    obtain ⟨rfl, hxi⟩ := y
    have hi2 : i < F.length := by omega
    have g1 : F[i]? = some F[i] := List.getElem?_eq_getElem hi2
    obtain ⟨v, hv, hr3⟩ := hx.get (get i _ g1)
    have e : v = x := Option.some.inj (hv.symm.trans hxi)
    subst e
    obtain ⟨a, rfl, ha⟩ := two_un hr3
    obtain ⟨m1, m2, m3⟩ := mem _ (List.getElem_mem hi2)
    have hb := hbp _ g1
    have nx : ∀ p, F[i + 1]? = some p → F[i].2 ≤ p.1 := fun p hp => by
      obtain ⟨h1, rfl⟩ := List.getElem?_eq_some_iff.mp hp
      exact List.pairwise_iff_getElem.mp pw i (i + 1) hi2 h1 (by omega)
    generalize F[i] = p at *
    have ha1 := s1.tup ha
    have tg := taken_gt ts p.1
    refine ⟨_, rfl, _, rfl, _, rfl, h, es, rfl, .inr (s1.tup hh), a, (p.1 : Nat), _, _, _, rfl, ha1, by omega, by omega, by omega, true, rfl, iteF ?_⟩
    refine ⟨_, rfl, a, _, _, _, rfl, rfl, ha1, rfl, (p.2 : Nat), rfl, _, rfl, ?_⟩
    rw [decide_eq_true (show (0 : Int) ≤ (p.2 : Nat) by omega)]
    refine iteF ?_
    refine ⟨_, rfl, a, _, _, _, rfl, rfl, ha1, rfl, _, rfl, a, _, _, _, rfl, rfl, ha1, rfl, _, _, rfl, rfl, true, congrArg V.bl (decide_eq_true (by omega)), iteT ⟨_, rfl, h, es, rfl, .inr (s1.tup hh), _, _, rfl, rfl, true, congrArg V.bl (decide_eq_true (by omega)), iteF ?_⟩⟩
    refine ⟨_, rfl, _, rfl, _, rfl, a, _, _, _, rfl, rfl, ha1, rfl, h, J, p.1, es, us, m, ts, rfl, .inr (s1.tup hh), he.mono s1, s1 _ _ eu, lv.mono s1, tok, m2, fun H4 q4 x4 s4 hq4 hS4 => ?_⟩
    have ha4 := s4.tup ha1
    refine ⟨q4, _, _, _, rfl, rfl, hq4, rfl, _, rfl, a, _, _, _, rfl, rfl, ha4, rfl, _, _, rfl, rfl, false, congrArg V.bl (decide_eq_false (by omega)), iteF ?_⟩
    exact ⟨_, rfl, a, _, _, _, rfl, rfl, ha4, rfl, s1.trans s4, p.2, _, rfl, nx⟩
theorem sc_is_plan : FnScope ["plan", "tallies"] ["plan"] (defScope s_is_plan) := ⟨rfl, rfl, rfl, by decide +kernel, rfl, by decide +kernel, by decide +kernel⟩
def sp_is_plan (K : PySem.W.Frag) : Sp := fun vs H Q _ => ∃ (v : V) (m : Nat) (ts : List (List Int)) (L : List (Nat × Nat)), vs = [v] ∧ PlanAt K H v ts L ∧ TOk m ts ∧ m ≤ 16 ∧ Ch ts 0 ts.length L ∧ Srv ts L ∧ ∀ H', Same H H' → Q (.bl true) H'
theorem Ch.stops {ts : List (List Int)} : ∀ {a b : Nat} {L : List (Nat × Nat)}, Ch ts a b L → b = ts.length → a < ts.length → L.length = (stopD ts L).length + 1
  | _, _, _, .nil a, h, h2 => by omega
  | a, _, _, .cons ha (.nil _), h, h2 => by
    unfold stopD
    rw [List.filter_cons, decide_eq_false (by omega)]
    rfl
  | a, _, _, .cons ha (.cons hb r), h, h2 => by
    have ih := Ch.stops (.cons hb r) h hb
    unfold stopD at ih ⊢
    rw [List.length_map] at ih ⊢
    rw [List.filter_cons, decide_eq_true hb, if_pos rfl]
    simp only [List.length_cons] at ih ⊢
    omega
theorem ok_is_plan (t : T K mg) : Okf P w K mg base 7 ("is_plan", none) ["plan"] [] (sp_is_plan K) := by
  have O_tallies_of := ok_tallies_of (P := P) (w := w) (base := base) t
  have O_codes_hold := ok_codes_hold (P := P) (w := w) (base := base) t
  have O_stops_hold := ok_stops_hold (P := P) (w := w) (base := base) t
  refine okf (d := d_is_plan) t 42 rfl rfl sc_is_plan (fun _ _ _ _ _ _ us hl => match us, hl with | [_], _ => rfl) (fun vs H Q E h => ?_) (fun cdv A outer s H vs Q E hr h => ?_)
  · obtain ⟨v, m, ts, L, rfl, _⟩ := h
    rfl
  · obtain ⟨v, m, ts, L, rfl, hp, tok, hm, ch, srv, q⟩ := h
    refine ⟨_, (pss_cons (ps_if (pt_not (pt_val (pe_callB call_isi (by rfl) t.b_isinstance bt_isinstance (pa_cons (pe_fld (pv 0) rfl) (pa_cons (pe_bt t.b_tuple bt_tuple) pa_nil)))))
        (pss_one (ps_ret pe_bl))
        pss_nil)
      (pss_cons (ps_set (i := 1) sc_is_plan.nd rfl (.inl rfl) (pe_f O_tallies_of (hr.mono (by decide)) t.g_tallies_of (pa_cons (pe_fld (pv 0) rfl) pa_nil)))
      (pss_cons (ps_if (PW.pt (pw_or (pt_not (pt_val (pe_f O_codes_hold (hr.mono (by decide)) t.g_codes_hold (pa_cons (pe_fld (pv 0) rfl) (pa_cons (pv 1) (pa_cons (pe_fld (pv 0) rfl) pa_nil)))))) (pw_or1 (pt_not (pt_val (pe_f O_stops_hold (hr.mono (by decide)) t.g_stops_hold (pa_cons (pe_fld (pv 0) rfl) (pa_cons (pv 1) (pa_cons (pe_fld (pv 0) rfl) pa_nil)))))))))
        (pss_one (ps_ret pe_bl))
        pss_nil)
      (pss_one (ps_ret (pe_cmpR op_eq (pe_callB call_len_seq (by rfl) t.b_len bt_len (pa_cons (pe_fld (pv 0) rfl) pa_nil)) (pe_op op_add (pe_callB call_len_seq (by rfl) t.b_len bt_len (pa_cons (pe_fld (pv 0) rfl) pa_nil)) pe_int) (nomark _))))))), ?_⟩
    obtain ⟨x, dx, h', c', s', cvs, rfl, hx, r1, r2, r3, cv⟩ := hp.ex
    obtain ⟨h, es, rfl, hh, he⟩ := r1.unT
    obtain ⟨c, xs, rfl, hc, hxs⟩ := r2.unT
    obtain ⟨c3, ys, rfl, hc3, hys⟩ := r3.unT
    have l1 : xs.length = L.length := by rw [hxs.len, codeD_len cv.len]
    have l2 := ch.stops rfl (by have := tok.ne; omega)
    refine ⟨_, rfl, x, _, dx, _, .ref h, rfl, hx, t.c_CodePlan, t.n_CodePlan_history, rfl, _, _, _, _, true, rfl, .ty _, tyx_T hh, kit_ty (by decide +kernel), true, rfl, iteF ?_⟩
    refine ⟨_, rfl, x, _, dx, _, .ref h, rfl, hx, t.c_CodePlan, t.n_CodePlan_history, rfl, h, es, m, ts, rfl, .inr hh, he, tok, fun H1 J us s1 eu lv => ?_⟩
    have hx1 := s1 _ _ hx
    refine ⟨_, rfl, x, _, dx, _, .ref h, rfl, hx1, t.c_CodePlan, t.n_CodePlan_history, rfl, _, rfl, _, rfl, x, _, dx, _, .ref c, rfl, hx1, t.c_CodePlan, t.n_CodePlan_codes, rfl, h, J, c, es, us, xs, cvs, m, ts, L, rfl, s1.tup hh, he.mono s1, eu, lv, tok, hm, s1.tup hc, hxs.mono s1, cv.mono s1, ch, srv, fun H2 s2 => ⟨true, rfl, iteF ?_⟩⟩
    have hx2 := s2 _ _ hx1
    have s12 := s1.trans s2
    refine ⟨_, rfl, x, _, dx, _, .ref h, rfl, hx2, t.c_CodePlan, t.n_CodePlan_history, rfl, _, rfl, _, rfl, x, _, dx, _, .ref c3, rfl, hx2, t.c_CodePlan, t.n_CodePlan_stops, rfl, h, J, c3, es, us, ys, m, ts, L, rfl, s12.tup hh, he.mono s12, s2 _ _ eu, lv.mono s2, tok, s12.tup hc3, hys.mono s12, ch, fun H3 s3 => ⟨true, rfl, iteF ?_⟩⟩
    have hx3 := s3 _ _ hx2
    have s13 := s12.trans s3
    refine ⟨_, rfl, x, _, dx, _, .ref c, rfl, hx3, t.c_CodePlan, t.n_CodePlan_codes, rfl, c, xs, rfl, .inr (s13.tup hc), _, rfl, x, _, dx, _, .ref c3, rfl, hx3, t.c_CodePlan, t.n_CodePlan_stops, rfl, c3, ys, rfl, .inr (s13.tup hc3), _, _, rfl, rfl, rfl, ?_⟩
    have e : decide (V.int (xs.length : Nat) = V.int (((ys.length : Nat) : Int) + 1)) = true := decide_eq_true (by
      rw [l1, l2, hys.len]
      rfl)
    rw [e]
    exact q H3 s13
theorem sc_code_at : FnScope ["plan", "index", "tallies", "start", "code", "at", "pair"] ["plan", "index"] (defScope s_code_at) := ⟨rfl, rfl, rfl, by decide +kernel, rfl, by decide +kernel, by decide +kernel⟩
def sp_code_at (K : PySem.W.Frag) : Sp := fun vs H Q _ => ∃ (v : V) (i m : Nat) (ts : List (List Int)) (L : List (Nat × Nat)), vs = [v, .int i] ∧ PlanAt K H v ts L ∧ TOk m ts ∧ Ch ts 0 ts.length L ∧ i < ts.length ∧
  ∀ H' cv p, Same H H' → p ∈ L → p.1 ≤ i → i < p.2 → CodeAt K H' cv (hgI (takenF ts p.1).1) ((canonF (hgI (takenF ts p.1).1)).map SX.S) → Q cv H'
theorem ok_code_at (t : T K mg) : Okf P w K mg base 5 ("code_at", none) ["plan", "index"] [] (sp_code_at K) := by
  have O_tallies_of := ok_tallies_of (P := P) (w := w) (base := base) t
  have O_is_count := ok_is_count (P := P) (w := w) (base := base) t
  refine okf (d := d_code_at) t 43 rfl rfl sc_code_at (fun _ _ _ _ _ _ us hl => match us, hl with | [_, _], _ => rfl) (fun vs H Q E h => ?_) (fun cdv A outer s H vs Q E hr h => ?_)
  · obtain ⟨v, i, m, ts, L, rfl, _⟩ := h
    rfl
  · obtain ⟨v, i0, m, ts, L, rfl, hp, tok, ch, hi, q⟩ := h
    refine ⟨_, (pss_cons (ps_set (i := 2) sc_code_at.nd rfl (.inl rfl) (pe_f O_tallies_of (hr.mono (by decide)) t.g_tallies_of (pa_cons (pe_fld (pv 0) rfl) pa_nil)))
      (pss_cons (ps_if (PW.pt (pw_or (pt_not (pt_val (pe_f O_is_count (hr.mono (by decide)) t.g_is_count (pa_cons (pv 1) pa_nil)))) (pw_or1 (pt_cmpR op_ge (pv 1) (pe_callB call_len_seq (by rfl) t.b_len bt_len (pa_cons (pv 2) pa_nil)) (nomark _)))))
        (pss_one ps_never)
        pss_nil)
      (pss_cons (ps_asg (pe_ix ix_list (pe_lc (own := [("pair", 6)]) (g := gName 6) rfl sc_code_at.nd (pi_tup (pe_fld (pv 0) rfl)) (blkOk_by (own := [("pair", 6)]) (N := ["plan", "index", "tallies", "start", "code", "at", "pair"]) (sc := defScope s_code_at) (by decide +kernel)) (fun _ _ _ _ _ => (pg_name (i := 6) sc_code_at.nd rfl (.inl rfl))) (fun _ _ _ _ _ => pts_one (pt_cmpR op_le (pe_ix (ix_tupK (K := K) rfl) (pv 6) pe_int (fun _ _ => rfl)) (pv 1) (nomark _))) (fun _ _ _ _ _ => (pv 6))) (pe_un un_neg pe_int) (fun _ _ => rfl)) (pg_tup rfl (pgs_cons (pg_name (i := 3) sc_code_at.nd rfl (.inl rfl)) (pgs_cons (pg_name (i := 4) sc_code_at.nd rfl (.inl rfl)) pgs_nil))))
      (pss_cons (ps_for PassesOwn.never rfl (pi_range2 (by rfl) t.b_range (pa_cons (pe_op op_add (pv 3) pe_int) (pa_cons (pe_op op_add (pv 1) pe_int) pa_nil))) (pg_name (i := 5) sc_code_at.nd rfl (.inl rfl))
        (pss_one (ps_if (pt_cmpR op_eq (pe_ix ix_tup (pe_ix ix_tup (pe_fld (pv 0) rfl) (pv 5) (fun _ _ => rfl)) pe_int (fun _ _ => rfl)) pe_str (nomark _))
          (pss_one ps_never)
          pss_nil)))
      (pss_one (ps_ret (pv 4))))))), ?_⟩
    obtain ⟨x, dx, h', c', s', cvs, rfl, hx, r1, r2, r3, cv⟩ := hp.ex
    obtain ⟨h, es, rfl, hh, he⟩ := r1.unT
    obtain ⟨c, xs, rfl, hc, hxs⟩ := r2.unT
    have l1 : xs.length = L.length := by rw [hxs.len, codeD_len cv.len]
    have l0 := ch.ne (show 0 ≠ ts.length by omega)
    have lL := ch.le
    have t5 := tok.few
    refine ⟨_, rfl, x, _, dx, _, .ref h, rfl, hx, t.c_CodePlan, t.n_CodePlan_history, rfl, h, es, m, ts, rfl, .inr hh, he, tok, fun H1 J us s1 eu lv => ?_⟩
    have hx1 := s1 _ _ hx
    have lus : us.length = ts.length := lv.len
    refine ⟨_, rfl, (i0 : Nat), rfl, _, rfl, ?_⟩
    rw [decide_eq_true (show (0 : Int) ≤ (i0 : Nat) by omega)]
    refine iteF ⟨_, rfl, _, rfl, J, us, rfl, .inl (SqL.of eu), _, _, rfl, rfl, false, congrArg V.bl (decide_eq_false (by omega)), iteF ?_⟩
    refine ⟨_, rfl, x, _, dx, _, .ref c, rfl, hx1, t.c_CodePlan, t.n_CodePlan_codes, rfl, c, rfl, ⟨_, s1.tup hc⟩, fun D hD => ?_⟩
    have hc1 := s1.tup hc
    have hxs1 := hxs.mono s1
    have cv1 := cv.mono s1
    have asc : ∀ (i j : Nat) p r, i < j → L[i]? = some p → L[j]? = some r → p.2 ≤ r.1 := fun i j p r hij hp hr2 => by
      obtain ⟨h1, rfl⟩ := List.getElem?_eq_some_iff.mp hp
      obtain ⟨h2, rfl⟩ := List.getElem?_eq_some_iff.mp hr2
      exact List.pairwise_iff_getElem.mp ch.pw i j h1 h2 hij
    have lcd := codeD_len cv.len
    refine lc_dat (K := K) (walk_tup (xs := xs)) hD (by omega) (fun H' s2 => s2.tup hc1) (fun i => decide ((L.getD i (0, 0)).1 ≤ i0)) (fun i => (codeD L cvs).getD i (.v .non)) (fun i => ?_) (fun i x H2 H3 hi2 s2 y Qk kf kt => ?_) (fun H2 ys s2 e r => ?_)
    · by_cases hi3 : i < L.length
      · rw [getD_at (codeD_at (List.getElem?_eq_getElem hi3) (List.getElem?_eq_getElem (show i < cvs.length by have := cv.len; omega)))]
        rfl
      · rw [List.getD_eq_getElem?_getD, List.getElem?_eq_none (by omega)]
        rfl
    · obtain ⟨rfl, hxi⟩ := y
      have g1 := List.getElem?_eq_getElem (show i < L.length by omega)
      have g2 := List.getElem?_eq_getElem (show i < cvs.length by have := cv.len; omega)
      obtain ⟨v, hv, hr3⟩ := hxs1.get (codeD_at g1 g2)
      have e : v = x := Option.some.inj (hv.symm.trans hxi)
      subst e
      have hr4 := hr3
      obtain ⟨a, rfl, ha⟩ := two_un hr3
      refine ⟨rfl, _, rfl, a, _, _, _, rfl, rfl, s2.tup ha, rfl, _, rfl, _, _, rfl, rfl, decide (L[i].1 ≤ i0), ?_, ?_⟩
      · refine congrArg V.bl ?_
        by_cases c : L[i].1 ≤ i0
        · rw [decide_eq_true c, decide_eq_true (by omega)]
        · rw [decide_eq_false c, decide_eq_false (by omega)]
      · by_cases c : L[i].1 ≤ i0
        · rw [decide_eq_true c]
          refine iteT ⟨_, rfl, kt _ _ (Same.refl _) ?_ ?_⟩
          · rw [getD_at g1, decide_eq_true c]
          · rw [getD_at (codeD_at g1 g2)]
            exact hr4.mono s2
        · rw [decide_eq_false c]
          refine iteF (kf _ (Same.refl _) ?_)
          rw [getD_at g1, decide_eq_false c]
    · have k0 : (0 : Nat) ∈ (List.range xs.length).filter fun i => decide ((L.getD i (0, 0)).1 ≤ i0) := by
        refine List.mem_filter.mpr ⟨List.mem_range.mpr (by omega), ?_⟩
        have g1 := List.getElem?_eq_getElem (show 0 < L.length by omega)
        rw [getD_at g1, ch.first g1]
        exact decide_eq_true (Nat.zero_le _)
      have sF : ((List.range xs.length).filter fun i => decide ((L.getD i (0, 0)).1 ≤ i0)).Pairwise (· < ·) := List.pairwise_lt_range.filter _
      have mF : ∀ i, i ∈ (List.range xs.length).filter (fun i => decide ((L.getD i (0, 0)).1 ≤ i0)) ↔ i < xs.length ∧ (L.getD i (0, 0)).1 ≤ i0 := fun i => by
        rw [List.mem_filter, List.mem_range, decide_eq_true_iff]
      generalize (List.range xs.length).filter (fun i => decide ((L.getD i (0, 0)).1 ≤ i0)) = F at *
      have lF : 0 < F.length := List.length_pos_of_mem k0
      have gl : F[F.length - 1]? = some (F[F.length - 1]'(by omega)) := List.getElem?_eq_getElem (by omega)
      have jm := (mF _).mp (List.getElem_mem (show F.length - 1 < F.length by omega))
      have jmax : ∀ i ∈ F, i ≤ F[F.length - 1]'(by omega) := fun i hi3 => by
        obtain ⟨n, hn, rfl⟩ := List.getElem_of_mem hi3
        by_cases c : n = F.length - 1
        · subst c
          exact Nat.le_refl _
        · exact Nat.le_of_lt (List.pairwise_iff_getElem.mp sF n (F.length - 1) hn (by omega) (by omega))
      generalize F[F.length - 1]'(by omega) = j at gl jm jmax
      obtain ⟨hj1, hj2⟩ := jm
      have g1 := List.getElem?_eq_getElem (show j < L.length by omega)
      have g2 := List.getElem?_eq_getElem (show j < cvs.length by have := cv.len; omega)
      have hjc : j < cvs.length := by
        have := cv.len
        omega
      rw [getD_at g1] at hj2
      obtain ⟨v, hv, hr3⟩ := r.get (i := F.length - 1) (d := .T [.v (.int (L[j].1 : Nat)), .v cvs[j]]) (by
        rw [List.getElem?_map, gl]
        show some ((codeD L cvs).getD j (.v .non)) = _
        rw [getD_at (codeD_at g1 g2)])
      have ly : ys.length = F.length := by rw [r.len, List.length_map]
      obtain ⟨a, rfl, ha⟩ := two_un hr3
      have hlt : i0 < L[j].2 := by
        by_cases c : j + 1 < L.length
        · have g3 := List.getElem?_eq_getElem c
          have h1 := ch.next j _ _ g1 g3
          rcases Nat.lt_or_ge i0 L[j + 1].1 with h | h
          · omega
          · have := jmax (j + 1) ((mF _).mpr ⟨by omega, by rw [getD_at g3]; exact h⟩)
            omega
        · have h1 := ch.last L[j] (by rw [show L.length - 1 = j by omega]; exact g1)
          omega
      have hcv := cv1.at_ j _ _ g1 g2
      refine ⟨_, rfl, D, ys, _, _, rfl, rfl, SqL.of e, atI_last (x := .ref a) ?_, ?_⟩
      · rw [List.getLast?_eq_getElem?, ly]
        exact hv
      refine g_two ha ?_
      obtain ⟨m1, m2, m3⟩ := ch.mem _ (List.getElem_mem (show j < L.length by omega))
      have te := taken_le m2
      refine ⟨_, rfl, _, _, rfl, rfl, _, rfl, _, _, rfl, rfl, _, _, rfl, ⟨by omega, by omega, by omega, by omega⟩, ?_⟩
      rw [show (((i0 : Nat) : Int) + 1 - (((L[j].1 : Nat) : Int) + 1)).toNat = i0 - L[j].1 by omega]
      have s12 := s1.trans s2
      refine for_it walk_range (fun i σ H' => H' = H2 ∧ ∃ u, σ = [some (.ref x), some (.int i0), some (.ref J), some (.int (L[j].1 : Nat)), some cvs[j], u, none]) ⟨rfl, none, rfl⟩ (fun _ _ _ _ _ => trivial) (fun i x σ H3 H4 hi4 pp y => ?_) (fun σ H' pp => ?_)
      · obtain ⟨e3, u, rfl⟩ := pp
        obtain ⟨e4, hx4⟩ := y
        subst e4 e3
        have hx4 : x = .int ((L[j].1 + 1 + i : Nat) : Int) := by
          rw [hx4]
          rfl
        subst hx4
        have hk : L[j].1 + 1 + i < ts.length := by omega
        have g3 : ts[L[j].1 + 1 + i]? = some ts[L[j].1 + 1 + i] := List.getElem?_eq_getElem hk
        obtain ⟨v, hv3, hr5⟩ := he.get (hD_at g3)
        generalize ts[L[j].1 + 1 + i] = ns at *
        obtain ⟨ea, eb, ev, ha5, hb5⟩ := evD_un (hr5.mono s12)
        subst ev
        exact ⟨_, rfl, _, _, dx, _, .ref h, rfl, s12 _ _ hx, t.c_CodePlan, t.n_CodePlan_history, rfl, _, rfl, h, es, _, _, rfl, rfl, s12.tup hh, atI_nat hv3, ea, _, _, _, rfl, rfl, ha5, rfl, rfl, false, rfl, iteF ⟨rfl, _, rfl⟩⟩
      · obtain ⟨e3, u, rfl⟩ := pp
        subst e3
        exact ⟨_, rfl, q _ cvs[j] L[j] s12 (List.getElem_mem (by omega)) hj2 hlt (hcv.mono s2)⟩
end
end WV
end
section
set_option maxRecDepth 100000
set_option maxHeartbeats 4000000
namespace WV
open PySem PySem.Spec PyProof.Rows L2
def stp (c s : List Int) (k : Int) : List Int := List.zipWith (fun a b => a + k * b) c s
theorem stp_len {c s : List Int} {k : Int} (h : c.length = s.length) : (stp c s k).length = c.length := by
  unfold stp
  rw [List.length_zipWith, h, Nat.min_self]
theorem stp_pos {c s : List Int} {k : Int} (hk : 0 ≤ k) (hc : ∀ x ∈ c, 0 ≤ x) (hs : ∀ x ∈ s, 0 ≤ x) : ∀ x ∈ stp c s k, 0 ≤ x := fun x hx => by
  obtain ⟨i, hi, rfl⟩ := List.getElem_of_mem hx
  unfold stp at hi ⊢
  rw [List.getElem_zipWith]
  rw [List.length_zipWith] at hi
  have h1 := hc (c[i]'(by omega)) (List.getElem_mem _)
  have h2 := Int.mul_nonneg hk (hs (s[i]'(by omega)) (List.getElem_mem _))
  omega
section
variable {P : Program} {w : World} {K : PySem.W.Frag} {mg : Str → Option Value} {base : Heap}
theorem sc_check_tallies : FnScope ["rows", "row"] ["rows"] (defScope s_check_tallies) := ⟨rfl, rfl, rfl, by decide +kernel, rfl, by decide +kernel, by decide +kernel⟩
/-- rows: a list of tuples of ints -/
def rowD (ts : List (List Int)) : List Dat := ts.map fun ns => .T (iD ns)
theorem rowD_at {ts : List (List Int)} {i : Nat} {ns : List Int} (h : ts[i]? = some ns) : (rowD ts)[i]? = some (.T (iD ns)) := by
  unfold rowD
  rw [List.getElem?_map, h]
  rfl
theorem rowD_len (ts : List (List Int)) : (rowD ts).length = ts.length := by
  unfold rowD
  rw [List.length_map]
def sp_check_tallies (K : PySem.W.Frag) : Sp := fun vs H Q _ => ∃ (a : Addr) (xs : List V) (m : Nat) (ts : List (List Int)), vs = [.ref a] ∧ SqL K H a xs ∧ RpA K H xs (rowD ts) ∧ TOk m ts ∧ ∀ H', Same H H' → Q .non H'
theorem ok_check_tallies (t : T K mg) : Okf P w K mg base 3 ("check_tallies", none) ["rows"] [] (sp_check_tallies K) := by
  have O_check_counts := ok_check_counts (P := P) (w := w) (base := base) t
  refine okf (d := d_check_tallies) t 70 rfl rfl sc_check_tallies (fun _ _ _ _ _ _ us hl => match us, hl with | [_], _ => rfl) (fun vs H Q E h => ?_) (fun cdv A outer s H vs Q E hr h => ?_)
  · obtain ⟨a, xs, m, ts, rfl, _⟩ := h
    rfl
  · obtain ⟨a, xs, m, ts, rfl, ha, hx, tok, q⟩ := h
    refine ⟨_, (pss_cons (ps_if (pt_not (pt_chain op_le op_le pe_int (pe_callB call_len_seq (by rfl) t.b_len bt_len (pa_cons (pv 0) pa_nil)) (pe_k t.i_MOST_TALLIES)))
        (pss_one ps_never)
        pss_nil)
      (pss_one (ps_for PassesOwn.never rfl (pi_list (pv 0)) (pg_name (i := 1) sc_check_tallies.nd rfl (.inl rfl))
        (pss_cons (ps_expr (pe_f O_check_counts (hr.mono (by decide)) t.g_check_counts (pa_cons (pv 1) pa_nil)))
        (pss_one (ps_if (pt_cmpR op_ne (pe_callB call_len_seq (by rfl) t.b_len bt_len (pa_cons (pv 1) pa_nil)) (pe_callB call_len_seq (by rfl) t.b_len bt_len (pa_cons (pe_ix ix_list (pv 0) pe_int (fun _ _ => rfl)) pa_nil)) (nomark _))
          (pss_one ps_never)
          pss_nil)))))), ?_⟩
    have t1 := tok.ne
    have t2 := tok.few
    have t3 := tok.two
    have t4 := tok.many
    have lx : xs.length = ts.length := by rw [hx.len, rowD_len]
    refine ⟨.ref a, rfl, a, xs, rfl, .inl ha, 1, _, rfl, rfl, true, congrArg V.bl (decide_eq_true (by omega)), iteT ⟨_, 2000, rfl, rfl, true, congrArg V.bl (decide_eq_true (by omega)), ?_⟩⟩
    refine ⟨_, rfl, a, rfl, ⟨_, ha⟩, ?_⟩
    have rowAt : ∀ (i : Nat) x, xs[i]? = some x → ∃ ns b, ts[i]? = some ns ∧ x = .ref b ∧ SqT K H b (ns.map V.int) ∧ ns.length = m ∧ ∀ z ∈ ns, 0 ≤ z := fun i x hxi => by
      have hi := (List.getElem?_eq_some_iff.mp hxi).1
      have g1 := List.getElem?_eq_getElem (show i < ts.length by omega)
      obtain ⟨v, hv, hr3⟩ := hx.get (rowD_at g1)
      have e : v = x := Option.some.inj (hv.symm.trans hxi)
      subst e
      obtain ⟨b, rfl, hb⟩ := hr3.unTi
      obtain ⟨r1, r2⟩ := tok.row _ (List.getElem_mem (show i < ts.length by omega))
      exact ⟨_, b, g1, rfl, hb, r1, r2⟩
    obtain ⟨n0, b0, g0, ex0, hb0, r0, _⟩ := rowAt 0 _ (List.getElem?_eq_getElem (by omega))
    refine for_it (walk_list (xs := xs)) (fun i σ H' => Same H H' ∧ ∃ u, σ = [some (.ref a), u]) ⟨Same.refl H, none, rfl⟩ (fun i σ H' _ p => p.1.seq ha) (fun i x σ H2 H3 hi pp y => ?_) (fun σ H2 pp => q H2 pp.1)
    obtain ⟨s1, u, rfl⟩ := pp
    obtain ⟨rfl, hxi⟩ := y
    obtain ⟨ns, b, g1, rfl, hb, r1, r2⟩ := rowAt i x hxi
    refine ⟨_, rfl, b, ns, rfl, .inr (s1.tup hb), ⟨by omega, by omega⟩, r2, fun H4 s4 => ?_⟩
    have s14 := s1.trans s4
    refine ⟨_, rfl, b, _, rfl, .inr (s14.tup hb), _, rfl, a, xs, 0, _, rfl, rfl, s14.seq ha, atI_nat (i := 0) (List.getElem?_eq_getElem (by omega)), b0, _, by rw [ex0], .inr (s14.tup hb0), rfl, false, ?_, iteF ⟨s14, _, rfl⟩⟩
    rw [List.length_map, List.length_map, r1, r0, decide_eq_true rfl]
    rfl
theorem sc_Common_init : FnScope ["self", "rows", "code"] ["self", "rows", "code"] (defScope s_Common_init) := ⟨rfl, rfl, rfl, by decide +kernel, rfl, by decide +kernel, by decide +kernel⟩
def sp_Common (K : PySem.W.Frag) : Sp := fun vs H Q _ => ∃ (x dx : Addr) (hv cv : V) (d1 : Dat) (H0 : Hp), vs = [.ref x, hv, cv] ∧ H x = some (.ins (He.ga K "Common") dx []) ∧ Same H0 H ∧ H0 x = none ∧ Rp K H0 hv d1 ∧ FzOk K H0 3 d1 ∧
  ∀ H' fs, SameX x H H' → H' x = some (.ins (He.ga K "Common") dx fs) → Q .non H'
theorem ok_Common (t : T K mg) : Okf P w K mg base 6 ("Common", some "__init__") ["self", "rows", "code"] [] (sp_Common K) := by
  have O_as_frozen := ok_as_frozen (P := P) (w := w) (base := base) t 3
  refine okf (d := d_Common_init) t 68 rfl rfl sc_Common_init (fun _ _ _ _ _ _ us hl => match us, hl with | [_, _, _], _ => rfl) (fun vs H Q E h => ?_) (fun cdv A outer s H vs Q E hr h => ?_)
  · obtain ⟨x, dx, hv, cv, d1, H0, rfl, _⟩ := h
    rfl
  · obtain ⟨x, dx, hv, cv, d1, H0, rfl, hx, s0, hx0, r1, f1, q⟩ := h
    refine ⟨_, (pss_cons (ps_fld (pv 0) (pe_f O_as_frozen (hr.mono (by decide)) t.g_as_frozen (pa_cons (pv 1) pa_nil)) rfl)
      (pss_one (ps_fld (pv 0) (pv 2) rfl))), ?_⟩
    refine ⟨_, rfl, hv, d1, rfl, r1.mono s0, f1.mono s0, fun H1 u1 s1 k1 => ?_⟩
    refine ⟨.ref x, rfl, x, _, dx, _, rfl, s1 _ _ hx, t.c_Common, t.n_Common_rows, (by decide : (0 : Nat) < 1000), ?_⟩
    exact ⟨_, rfl, .ref x, rfl, x, _, dx, _, rfl, upd_same, t.c_Common, t.n_Common_code, (by decide : (1 : Nat) < 1000), q _ _ ((SameX.of s1).mut.mut) upd_same⟩
theorem sc_Apart_init : FnScope ["self", "rows", "whole", "parts"] ["self", "rows", "whole", "parts"] (defScope s_Apart_init) := ⟨rfl, rfl, rfl, by decide +kernel, rfl, by decide +kernel, by decide +kernel⟩
def sp_Apart (K : PySem.W.Frag) : Sp := fun vs H Q _ => ∃ (x dx : Addr) (hv wv zv : V) (d1 d2 : Dat) (H0 : Hp), vs = [.ref x, hv, wv, zv] ∧ H x = some (.ins (He.ga K "Apart") dx []) ∧ Same H0 H ∧ H0 x = none ∧ Rp K H0 hv d1 ∧ FzOk K H0 3 d1 ∧ Rp K H0 zv d2 ∧ FzOk K H0 3 d2 ∧
  ∀ H' fs, SameX x H H' → H' x = some (.ins (He.ga K "Apart") dx fs) → Q .non H'
theorem ok_Apart (t : T K mg) : Okf P w K mg base 6 ("Apart", some "__init__") ["self", "rows", "whole", "parts"] [] (sp_Apart K) := by
  have O_as_frozen := ok_as_frozen (P := P) (w := w) (base := base) t 3
  refine okf (d := d_Apart_init) t 69 rfl rfl sc_Apart_init (fun _ _ _ _ _ _ us hl => match us, hl with | [_, _, _, _], _ => rfl) (fun vs H Q E h => ?_) (fun cdv A outer s H vs Q E hr h => ?_)
  · obtain ⟨x, dx, hv, wv, zv, d1, d2, H0, rfl, _⟩ := h
    rfl
  · obtain ⟨x, dx, hv, wv, zv, d1, d2, H0, rfl, hx, s0, hx0, r1, f1, r2, f2, q⟩ := h
    refine ⟨_, (pss_cons (ps_fld (pv 0) (pe_f O_as_frozen (hr.mono (by decide)) t.g_as_frozen (pa_cons (pv 1) pa_nil)) rfl)
      (pss_cons (ps_fld (pv 0) (pv 2) rfl)
      (pss_one (ps_fld (pv 0) (pe_f O_as_frozen (hr.mono (by decide)) t.g_as_frozen (pa_cons (pv 3) pa_nil)) rfl)))), ?_⟩
    refine ⟨_, rfl, hv, d1, rfl, r1.mono s0, f1.mono s0, fun H1 u1 s1 k1 => ?_⟩
    refine ⟨.ref x, rfl, x, _, dx, _, rfl, s1 _ _ hx, t.c_Apart, t.n_Apart_rows, (by decide : (0 : Nat) < 1000), ?_⟩
    refine ⟨_, rfl, .ref x, rfl, x, _, dx, _, rfl, upd_same, t.c_Apart, t.n_Apart_whole, (by decide : (1 : Nat) < 1000), ?_⟩
    have s2 := (SameX.of (x := x) s1).mut (o := .ins (He.ga K "Apart") dx (putF "rows" u1 [])) |>.mut (o := .ins (He.ga K "Apart") dx (putF "whole" wv (putF "rows" u1 [])))
    have hx2 : (upd (upd H1 x (.ins (He.ga K "Apart") dx (putF "rows" u1 []))) x (.ins (He.ga K "Apart") dx (putF "whole" wv (putF "rows" u1 [])))) x = some (.ins (He.ga K "Apart") dx (putF "whole" wv (putF "rows" u1 []))) := upd_same
    generalize upd (upd H1 x (.ins (He.ga K "Apart") dx (putF "rows" u1 []))) x (.ins (He.ga K "Apart") dx (putF "whole" wv (putF "rows" u1 []))) = H2 at s2 hx2
    have s02 := s2.same hx0 s0
    refine ⟨_, rfl, zv, d2, rfl, r2.mono s02, f2.mono s02, fun H3 u3 s3 k3 => ?_⟩
    exact ⟨.ref x, rfl, x, _, dx, _, rfl, s3 _ _ hx2, t.c_Apart, t.n_Apart_parts, (by decide : (2 : Nat) < 1000), q _ _ ((s2.trans (SameX.of s3)).mut) upd_same⟩
theorem sc_with_steps : FnScope ["counts", "step", "many", "count", "more"] ["counts", "step", "many"] (defScope s_with_steps) := ⟨rfl, rfl, rfl, by decide +kernel, rfl, by decide +kernel, by decide +kernel⟩
def sp_with_steps (K : PySem.W.Frag) : Sp := fun vs H Q _ => ∃ (a b : Addr) (k : Int) (c s : List Int), vs = [.ref a, .ref b, .int k] ∧ SqA K H a (c.map V.int) ∧ SqA K H b (s.map V.int) ∧ c.length = s.length ∧ s.length ≤ 60 ∧ (∀ x ∈ s, 0 ≤ x ∧ x ≤ 1000) ∧ ∀ H' D, Same H H' → H' D = some (.lst ((stp c s k).map V.int)) → Q (.ref D) H'
theorem ok_with_steps (t : T K mg) : Okf P w K mg base 1 ("with_steps", none) ["counts", "step", "many"] [] (sp_with_steps K) := by
  refine okf (d := d_with_steps) t 72 rfl rfl sc_with_steps (fun _ _ _ _ _ _ us hl => match us, hl with | [_, _, _], _ => rfl) (fun vs H Q E h => ?_) (fun cdv A outer s H vs Q E hr h => ?_)
  · obtain ⟨a, b, k, c, s, rfl, _⟩ := h
    rfl
  · obtain ⟨a, b, k, c, s, rfl, ha, hb, hl, hn, hx, q⟩ := h
    refine ⟨_, (pss_one (ps_ret (pe_lc (own := [("count", 3), ("more", 4)]) (g := gTup K 2 (gCons (gName 3) (gCons (gName 4) gNil))) (tt := tYes) rfl sc_with_steps.nd (pi_zip2A (by rfl) t.b_zip (pa_cons (pv 0) (pa_cons (pv 1) pa_nil))) (blkOk_by (own := [("count", 3), ("more", 4)]) (N := ["counts", "step", "many", "count", "more"]) (sc := defScope s_with_steps) (by decide +kernel)) (fun _ _ _ _ _ => (pg_tup rfl (pgs_cons (pg_name (i := 3) sc_with_steps.nd rfl (.inl rfl)) (pgs_cons (pg_name (i := 4) sc_with_steps.nd rfl (.inl rfl)) pgs_nil)))) (fun _ _ _ _ _ => pts_nil) (fun _ _ _ _ _ => (pe_op op_add (pv 3) (pe_op op_mul (pv 2) (pv 4))))))), ?_⟩
    obtain ⟨k1, h1⟩ := sqa_k ha
    obtain ⟨k2, h2⟩ := sqa_k hb
    have ln : c.length = min (c.map V.int).length (s.map V.int).length := by
      rw [List.length_map, List.length_map, hl, Nat.min_self]
    refine ⟨_, rfl, _, rfl, a, b, _, _, k1, k2, rfl, h1, h2, fun D hD => ?_⟩
    refine lc_all (K := K) (walk_zip2A ln) hD (by omega) (fun H' s5 => ⟨s5.seqk h1, s5.seqk h2⟩) (fun i => .v (.int ((stp c s k).getD i 0))) (fun i => rfl) (fun i z H5 H6 hi s5 y Qk kq => ?_) (fun H5 ys s5 e r => ?_)
    · obtain ⟨T, z1, z2, rfl, hT, rfl, e1, e2⟩ := y
      obtain ⟨c1, hc1, rfl⟩ := ints_at e1
      obtain ⟨c2, hc2, rfl⟩ := ints_at e2
      have hb2 := hx c2 (List.mem_of_getElem? hc2)
      refine g_two (SqT.of upd_same) ⟨rfl, _, rfl, _, rfl, _, rfl, _, _, rfl, rfl, .inr ⟨by omega, by omega⟩, _, _, rfl, rfl, kq _ _ (Same.new hT) ?_⟩
      have : (stp c s k)[i]? = some (c1 + k * c2) := by
        unfold stp
        rw [List.getElem?_zipWith, hc1, hc2]
      rw [getD_at this]
      exact .v _
    · have e3 : (List.range c.length).map (fun i => Dat.v (.int ((stp c s k).getD i 0))) = iD (stp c s k) := by
        unfold iD
        conv => rhs; rw [← range_get (xs := stp c s k) (fun i => (stp c s k).getD i 0) fun i x hx => getD_at hx]
        rw [List.map_map, stp_len hl]
        rfl
      rw [e3] at r
      rw [r.unints] at e
      exact q H5 D s5 e
end
end WV
end
section
set_option maxRecDepth 100000
set_option maxHeartbeats 4000000
namespace WV
open PySem PySem.Spec PyProof.Rows L2
section
variable {P : Program} {w : World} {K : PySem.W.Frag} {mg : Str → Option Value} {base : Heap}
theorem sc_lasts : FnScope ["code", "counts", "step", "low", "high", "middle"] ["code", "counts", "step"] (defScope s_lasts) := ⟨rfl, rfl, rfl, by decide +kernel, rfl, by decide +kernel, by decide +kernel⟩
def LeastAt (c s ls : List Int) (k : Nat) : Prop := dot (stp c s k) ls = lo (stp c s k)
def sp_lasts (K : PySem.W.Frag) : Sp := fun vs H Q _ => ∃ (cv : V) (a b : Addr) (ls : List Int) (ws : List Str) (c s : List Int), vs = [cv, .ref a, .ref b] ∧ CC K H cv a ls ws c ∧ SqA K H b (s.map V.int) ∧ s.length = c.length ∧ (∀ x ∈ s, 0 ≤ x ∧ x ≤ 1000) ∧ dot c ls = lo c ∧ LeastAt c s ls 0 ∧
  (dot s ls ≠ lo s → ∃ B : Nat, ∀ k, B ≤ k → ¬ LeastAt c s ls k) ∧ (dot s ls = lo s → ∀ H', Same H H' → Q .non H') ∧ (dot s ls ≠ lo s → ∀ H' (k : Nat), Same H H' → LeastAt c s ls k → ¬ LeastAt c s ls (k + 1) → Q (.int k) H')
theorem ok_lasts (t : T K mg) : Okf P w K mg base 4 ("lasts", none) ["code", "counts", "step"] [] (sp_lasts K) := by
  have O_check_pair := ok_check_pair (P := P) (w := w) (base := base) t
  have O_check_counts := ok_check_counts (P := P) (w := w) (base := base) t
  have O_is_least_for := ok_is_least_for (P := P) (w := w) (base := base) t
  have O_with_steps := ok_with_steps (P := P) (w := w) (base := base) t
  refine okf (d := d_lasts) t 73 rfl rfl sc_lasts (fun _ _ _ _ _ _ us hl => match us, hl with | [_, _, _], _ => rfl) (fun vs H Q E h => ?_) (fun cdv A outer s H vs Q E hr h => ?_)
  · obtain ⟨cv, a, b, ls, ws, c, s, rfl, _⟩ := h
    rfl
  · obtain ⟨cv, a, b, ls, ws, c, st, rfl, cc, hb, hl, hx, h0, l0, far, q1, q2⟩ := h
    refine ⟨_, (pss_cons (ps_expr (pe_f O_check_pair (hr.mono (by decide)) t.g_check_pair (pa_cons (pv 0) (pa_cons (pv 1) pa_nil))))
      (pss_cons (ps_expr (pe_f O_check_counts (hr.mono (by decide)) t.g_check_counts (pa_cons (pv 2) pa_nil)))
      (pss_cons (ps_if (pt_cmpR op_ne (pe_callB call_len_seq (by rfl) t.b_len bt_len (pa_cons (pv 2) pa_nil)) (pe_callB call_len_seq (by rfl) t.b_len bt_len (pa_cons (pv 1) pa_nil)) (nomark _))
        (pss_one ps_never)
        pss_nil)
      (pss_cons (ps_if (pt_not (pt_val (pe_f O_is_least_for (hr.mono (by decide)) t.g_is_least_for (pa_cons (pv 0) (pa_cons (pv 1) pa_nil)))))
        (pss_one ps_never)
        pss_nil)
      (pss_cons (ps_if (pt_val (pe_f O_is_least_for (hr.mono (by decide)) t.g_is_least_for (pa_cons (pv 0) (pa_cons (pv 2) pa_nil))))
        (pss_one (ps_ret pe_non))
        pss_nil)
      (pss_cons (ps_asg (pe_tup (pa_cons pe_int (pa_cons pe_int pa_nil))) (pg_tup rfl (pgs_cons (pg_name (i := 3) sc_lasts.nd rfl (.inl rfl)) (pgs_cons (pg_name (i := 4) sc_lasts.nd rfl (.inl rfl)) pgs_nil))))
      (pss_cons (ps_while PassesOwn.never (pt_val (pe_f O_is_least_for (hr.mono (by decide)) t.g_is_least_for (pa_cons (pv 0) (pa_cons (pe_f O_with_steps (hr.mono (by decide)) t.g_with_steps (pa_cons (pv 1) (pa_cons (pv 2) (pa_cons (pv 4) pa_nil)))) pa_nil))))
        (pss_one (ps_par (i := 3) (j := 4) rfl sc_lasts.nd rfl rfl (by decide) rfl rfl (pa_cons (pv 4) (pa_cons (pe_op op_mul pe_int (pv 4)) pa_nil)) (by rfl))))
      (pss_cons (ps_while PassesOwn.never (pt_cmpR op_gt (pe_op op_sub (pv 4) (pv 3)) pe_int (nomark _))
        (pss_cons (ps_set (i := 5) sc_lasts.nd rfl (.inl rfl) (pe_op op_fdiv (pe_op op_add (pv 3) (pv 4)) pe_int))
        (pss_one (ps_if (pt_val (pe_f O_is_least_for (hr.mono (by decide)) t.g_is_least_for (pa_cons (pv 0) (pa_cons (pe_f O_with_steps (hr.mono (by decide)) t.g_with_steps (pa_cons (pv 1) (pa_cons (pv 2) (pa_cons (pv 5) pa_nil)))) pa_nil))))
          (pss_one (ps_set (i := 3) sc_lasts.nd rfl (.inl rfl) (pv 5)))
          (pss_one (ps_set (i := 4) sc_lasts.nd rfl (.inl rfl) (pv 5)))))))
      (pss_one (ps_ret (pv 3))))))))))), ?_⟩
    have c2 := cc.two
    have c6 := cc.sixty
    have cl := cc.len
    have hx0 : ∀ x ∈ st, 0 ≤ x := fun x h => (hx x h).1
    refine ⟨_, rfl, _, rfl, cv, a, ls, ws, c, rfl, cc, fun H1 s1 => ?_⟩
    refine ⟨_, rfl, b, st, rfl, s1.sqa hb, ⟨by omega, by omega⟩, hx0, fun H2 s2 => ?_⟩
    have s12 := s1.trans s2
    refine ⟨_, rfl, b, _, rfl, s12.sqa hb, _, rfl, a, _, rfl, s12.sqa cc.cnt, rfl, false, ?_, iteF ?_⟩
    · rw [List.length_map, List.length_map, hl, decide_eq_true rfl]
      rfl
    refine ⟨_, rfl, _, rfl, cv, a, ls, ws, c, rfl, cc.mono s12, fun H3 s3 => ?_⟩
    rw [decide_eq_true h0]
    refine ⟨true, rfl, iteF ?_⟩
    have s13 := s12.trans s3
    have ccS : CC K H cv b ls ws st := ⟨cc.code, hb, by omega, by omega, by omega, hx0, cc.bnd⟩
    refine ⟨_, rfl, _, rfl, cv, b, ls, ws, st, rfl, ccS.mono s13, fun H4 s4 => ?_⟩
    have s14 := s13.trans s4
    by_cases hd : dot st ls = lo st
    · rw [decide_eq_true hd]
      exact ⟨true, rfl, iteT (q1 hd H4 s14)⟩
    · rw [decide_eq_false hd]
      refine ⟨false, rfl, iteF ?_⟩
      obtain ⟨B, hB⟩ := far hd
      have q2 := q2 hd
      have test : ∀ (H' : Hp) (D : Addr) (k : Nat), Same H H' → H' D = some (.lst ((stp c st k).map V.int)) → CC K H' cv D ls ws (stp c st k) := fun H' D k s' e => by
        have e1 := stp_len (c := c) (s := st) (k := (k : Int)) (by omega)
        exact ⟨cc.code.mono s', .inl (SqL.of e), by omega, by omega, by omega, stp_pos (by omega) cc.pos hx0, cc.bnd⟩
      refine ⟨by show 2 ≤ sizeLine; decide, fun p hp => g_two (SqT.of upd_same) ?_⟩
      have s15 := s14.trans (Same.new (o := .tup [V.int 0, V.int 1]) hp)
      refine ⟨fun k σ H' => Same H H' ∧ ∃ lw hg : Nat, k = B - hg ∧ 0 < hg ∧ lw < hg ∧ LeastAt c st ls lw ∧ σ = [some cv, some (.ref a), some (.ref b), some (.int lw), some (.int hg), none],
        ⟨B - 1, s15, 0, 1, rfl, by decide, by decide, l0, rfl⟩, ?_⟩
      rintro k σ H5 ⟨s5, lw, hg, rfl, hg0, hlt, hlw, rfl⟩
      refine ⟨_, rfl, _, rfl, _, rfl, _, rfl, a, b, hg, c, st, rfl, s5.sqa cc.cnt, s5.sqa hb, by omega, by omega, hx, fun H6 D s6 e6 => ?_⟩
      have s56 := s5.trans s6
      refine ⟨cv, D, ls, ws, _, rfl, test H6 D hg s56 e6, fun H7 s7 => ?_⟩
      have s57 := s56.trans s7
      by_cases c1 : LeastAt c st ls hg
      · have c1' : decide (dot (stp c st hg) ls = lo (stp c st hg)) = true := decide_eq_true c1
        rw [c1']
        have hBg : hg < B := by
          rcases Nat.lt_or_ge hg B with h | h
          · exact h
          · exact absurd c1 (hB hg h)
        refine ⟨true, rfl, iteT ⟨fun σ' H' => ∃ m', m' < B - hg ∧ (Same H H' ∧ ∃ lw hg : Nat, m' = B - hg ∧ 0 < hg ∧ lw < hg ∧ LeastAt c st ls lw ∧ σ' = [some cv, some (.ref a), some (.ref b), some (.int lw), some (.int hg), none]), fun _ _ h => h, ?_⟩⟩
        exact ⟨_, rfl, _, rfl, _, _, rfl, rfl, .inl ⟨by decide, by decide⟩, _, _, rfl, B - 2 * hg, by omega, s57, hg, 2 * hg, rfl, by omega, by omega, c1, rfl⟩
      · have c1' : decide (dot (stp c st hg) ls = lo (stp c st hg)) = false := decide_eq_false c1
        rw [c1']
        refine ⟨false, rfl, iteF ?_⟩
        refine ⟨fun k σ H' => Same H H' ∧ ∃ (lw hg : Nat) (u : Option V), k = hg - lw ∧ lw < hg ∧ LeastAt c st ls lw ∧ ¬ LeastAt c st ls hg ∧ σ = [some cv, some (.ref a), some (.ref b), some (.int lw), some (.int hg), u],
          ⟨hg - lw, s57, lw, hg, none, rfl, hlt, hlw, c1, rfl⟩, ?_⟩
        clear s57 s7 s56 s6 s5
        rintro k σ H8 ⟨s8, lw, hg, u, rfl, hlt, hlw, c1, rfl⟩
        refine ⟨_, rfl, _, rfl, _, _, rfl, rfl, _, _, rfl, rfl, decide (1 < hg - lw), ?_, ?_⟩
        · refine congrArg V.bl ?_
          by_cases c : 1 < hg - lw
          · rw [decide_eq_true c, decide_eq_true (by omega)]
          · rw [decide_eq_false c, decide_eq_false (by omega)]
        by_cases c3 : 1 < hg - lw
        · rw [decide_eq_true c3]
          refine iteT ⟨fun σ' H' => ∃ m', m' < hg - lw ∧ (Same H H' ∧ ∃ (lw hg : Nat) (u : Option V), m' = hg - lw ∧ lw < hg ∧ LeastAt c st ls lw ∧ ¬ LeastAt c st ls hg ∧ σ' = [some cv, some (.ref a), some (.ref b), some (.int lw), some (.int hg), u]), fun _ _ h => h, ?_⟩
          refine ⟨_, rfl, _, rfl, _, _, rfl, rfl, _, _, rfl, rfl, ⟨by decide, by decide⟩, ?_⟩
          have em : ((lw : Int) + (hg : Int)) / 2 = (((lw + hg) / 2 : Nat) : Int) := by omega
          refine ⟨_, rfl, _, rfl, _, rfl, _, rfl, a, b, ((lw + hg) / 2 : Nat), c, st, rfl, s8.sqa cc.cnt, s8.sqa hb, by omega, by omega, hx, fun H9 D s9 e9 => ?_⟩
          have s89 := s8.trans s9
          refine ⟨cv, D, ls, ws, _, rfl, test H9 D ((lw + hg) / 2) s89 e9, fun H10 s10 => ?_⟩
          by_cases c4 : LeastAt c st ls ((lw + hg) / 2)
          · have c4' : decide (dot (stp c st ((lw + hg) / 2 : Nat)) ls = lo (stp c st ((lw + hg) / 2 : Nat))) = true := decide_eq_true c4
            rw [c4']
            exact ⟨true, rfl, iteT ⟨_, rfl, hg - (lw + hg) / 2, by omega, s89.trans s10, (lw + hg) / 2, hg, _, rfl, by omega, c4, c1, rfl⟩⟩
          · have c4' : decide (dot (stp c st ((lw + hg) / 2 : Nat)) ls = lo (stp c st ((lw + hg) / 2 : Nat))) = false := decide_eq_false c4
            rw [c4']
            exact ⟨false, rfl, iteF ⟨_, rfl, (lw + hg) / 2 - lw, by omega, s89.trans s10, lw, (lw + hg) / 2, _, rfl, by omega, hlw, c4, rfl⟩⟩
        · rw [decide_eq_false c3]
          refine iteF ⟨_, rfl, q2 H8 lw s8 hlw ?_⟩
          rw [show lw + 1 = hg by omega]
          exact c1
end
end WV
end
section
set_option maxRecDepth 100000
set_option maxHeartbeats 4000000
namespace WV
open PySem PySem.Spec PyProof.Rows L2
/-! ### zip of many tuples, one name as target -/
abbrev ZE := Addr × Addr × Array Value
structure ZSep (z TI TO : Addr) (l : List ZE) : Prop where
  zTI : TI ≠ z
  zTO : TO ≠ z
  TT : TI ≠ TO
  i1 : ∀ e ∈ l, e.1 ≠ z ∧ e.1 ≠ TI ∧ e.1 ≠ TO
  a1 : ∀ e ∈ l, e.2.1 ≠ z ∧ e.2.1 ≠ TO
  ia : ∀ e ∈ l, ∀ e' ∈ l, e.2.1 ≠ e'.1
  nd : (l.map fun e => e.1).Nodup
abbrev IsZ (h : Heap) (z TI TO : Addr) (f0 f1 : Value) : Prop := h.get? z = some { cls := .type "zip", dict := none, data := .fields #[f0, f1, .bool false, .ref TI, .ref TO], slots := #[] }
abbrev IsTp (h : Heap) (T : Addr) (ws : Array Value) : Prop := h.get? T = some { cls := .type "tuple", data := .seq ws }
structure ZSt (h : Heap) (z TI TO : Addr) (l : List ZE) (i : Nat) : Prop where
  zr : ∃ f0 f1, (f0 = .none ∨ ∃ T : Nat, f0 = rawInt T) ∧ (f1 = .bool false ∨ f1 = .bool true) ∧ IsZ h z TI TO f0 f1
  ti : IsTp h TI (l.map fun e => Value.ref e.1).toArray
  zo : ∃ ws : Array Value, ws.size = l.length ∧ IsTp h TO ws
  its : ∀ e ∈ l, h.IsTupleIter e.1 e.2.1 i ∧ h.IsTuple e.2.1 e.2.2
section
variable {prog : Program} {w : World} {A : Around} {E : Value → Shared → Prop} {s : Shared} {z TI TO : Addr} {l : List ZE} {i m : Nat}
/-- where the drawing stands: p drawn, r not yet -/
structure ZMid (h0 h : Heap) (l p r : List ZE) (i : Nat) (wr : List Addr) : Prop where
  split : l = p ++ r
  drawn : ∀ e ∈ p, h.IsTupleIter e.1 e.2.1 (i + 1)
  left : ∀ e ∈ r, h.IsTupleIter e.1 e.2.1 i
  tups : ∀ e ∈ l, h.IsTuple e.2.1 e.2.2
  same : ∀ c o, c ∉ wr → h0.get? c = some o → h.get? c = some o
  size : h.objs.size = h0.objs.size
theorem ZMid.step {h0 h h' : Heap} {p r : List ZE} {e : ZE} {wr : List Addr} (S : ZSep z TI TO l) (M : ZMid h0 h l p (e :: r) i wr) (hw : e.1 ∈ wr) (st : h'.IsTupleIter e.1 e.2.1 (i + 1)) (sb : Heap.SameBut e.1 h h') : ZMid h0 h' l (p ++ [e]) r i wr := by
  have ex := sb.extBut
  have nd : ((p ++ e :: r).map fun e => e.1).Nodup := by
    rw [← M.split]
    exact S.nd
  rw [List.map_append, List.map_cons] at nd
  have nd2 := (List.nodup_append.mp nd)
  have ne1 : ∀ x ∈ p, x.1 ≠ e.1 := fun x hx h => nd2.2.2 x.1 (List.mem_map.mpr ⟨x, hx, rfl⟩) e.1 List.mem_cons_self h
  have ne2 : ∀ x ∈ r, x.1 ≠ e.1 := fun x hx h => (List.nodup_cons.mp nd2.2.1).1 (List.mem_map.mpr ⟨x, hx, h⟩)
  have em : e ∈ l := by rw [M.split]; exact List.mem_append_right _ List.mem_cons_self
  refine ⟨by rw [M.split, List.append_assoc]; rfl, fun x hx => ?_, fun x hx => ?_, fun x hx => ?_, fun c o hc q => ?_, by rw [sb.1, M.size]⟩
  · rcases List.mem_append.mp hx with hx | hx
    · exact (M.drawn x hx).at fun o q => ex _ _ (ne1 x hx) q
    · rw [List.mem_singleton.mp hx]
      exact st
  · exact (M.left x (List.mem_cons_of_mem _ hx)).at fun o q => ex _ _ (ne2 x hx) q
  · exact (M.tups x hx).at fun o q => ex _ _ (S.ia x hx e em) q
  · exact ex _ _ (fun h => hc (h ▸ hw)) (M.same c o hc q)
theorem ZMid.over {h0 h h' : Heap} {p r : List ZE} {c : Addr} {wr : List Addr} (M : ZMid h0 h l p r i wr) (hc : c ∈ wr) (c1 : ∀ e ∈ l, e.1 ≠ c) (c2 : ∀ e ∈ l, e.2.1 ≠ c) (sb : Heap.SameBut c h h') : ZMid h0 h' l p r i wr := by
  have ex := sb.extBut
  have ml : ∀ e ∈ p, e ∈ l := fun e he => by rw [M.split]; exact List.mem_append_left _ he
  have mr : ∀ e ∈ r, e ∈ l := fun e he => by rw [M.split]; exact List.mem_append_right _ he
  exact ⟨M.split, fun x hx => (M.drawn x hx).at fun o q => ex _ _ (c1 x (ml x hx)) q, fun x hx => (M.left x hx).at fun o q => ex _ _ (c1 x (mr x hx)) q, fun x hx => (M.tups x hx).at fun o q => ex _ _ (c2 x hx) q,
    fun b o hb q => ex _ _ (fun h => hb (h ▸ hc)) (M.same b o hb q), by rw [sb.1, M.size]⟩
theorem updTp {T : Addr} {x : Value} {k : Nat} {ws : Array Value} {Q : Unit → Shared → Prop} (hT : IsTp s.heap T ws) (h100 : ws.size ≤ 100)
    (h : ∀ h', IsTp h' T (ws.setIfInBounds k x) → Heap.SameBut T s.heap h' → Q () { s with heap := h' }) : wpAny (model prog w) A (updateSeq T (·.setIfInBounds k x)) Q E s := by
  refine wpAny_updateSeq hT rfl (h _ ?_ (Heap.SameBut.update ..)) (by rw [sizeLine_eq]; omega) (by rw [Array.size_setIfInBounds, sizeLine_eq]; omega)
  show Heap.get? _ _ = _
  rw [Heap.get?_update_self _ hT rfl]
  simp [Obj.mapSeq]
theorem wpAny_lia {a : Addr} {Q : Option Obj → Shared → Prop} (h : Q (s.heap.get? a) s) : wpAny (model prog w) A (loadIfAlive a) Q E s := fun Γ p hΓ => by
  rw [loadIfAlive, Sem.wp_loadIfAlive]
  exact wpAny_pure h Γ p hΓ
/-- the next tuple -/
theorem zn_item {Q : Fin → Shared → Prop} (hh : A.handled = none) (S : ZSep z TI TO l) (st : ZSt s.heap z TI TO l i) (hi : ∀ e ∈ l, i < e.2.2.size) (hne : l ≠ []) (hlen : l.length ≤ 100)
    (hQ : ∀ h' tk, ZSt h' z TI TO l (i + 1) → h'.get? s.heap.objs.size = some { cls := .type "tuple", data := .seq (l.map fun e => e.2.2.getD i .none).toArray } → (∀ c o, c ∉ z :: TO :: l.map (fun e => e.1) → s.heap.get? c = some o → h'.get? c = some o) → Q (.done (.ret (.ref s.heap.objs.size))) { s with heap := h', toks := tk }) :
    wpAny (model prog w) A (Builtin.«zip.__next__» ⟨[.ref z], []⟩) Q E s := by
  obtain ⟨f0, f1, h0, h1, hz⟩ := st.zr
  obtain ⟨ws, hws, hTO⟩ := st.zo
  have hTI := st.ti
  obtain ⟨hp, g, d, tk0, os⟩ := s
  show wpAny _ _ (field (.ref z) 2 >>= _) _ _ _
  refine wpAny_bind (wpAny_field hz rfl (x := .bool false) rfl ?_)
  show wpAny _ _ (field (.ref z) 3 >>= _) _ _ _
  refine wpAny_bind (wpAny_field hz rfl (x := .ref TI) rfl ?_)
  refine wpAny_bind (wpAny_seqItems hTI rfl ?_)
  have hemp : (l.map fun e => Value.ref e.1).toArray.isEmpty = false := by
    cases l with
    | nil => exact absurd rfl hne
    | cons a b => rfl
  show wpAny _ _ (if (l.map fun e => Value.ref e.1).toArray.isEmpty = true then _ else _) _ _ _
  rw [hemp, if_neg Bool.false_ne_true]
  show wpAny _ _ (Builtin.SmallTypes.ownedTupleIsFree (.ref z) >>= _) _ _ _
  refine wpAny_bind (wpAny_mono (Q := fun a s' => ∃ g0 f1', s' = ⟨g0, g, d, tk0, os⟩ ∧ (f1' = Value.bool false ∨ f1' = .bool true) ∧ IsZ g0 z TI TO f0 f1' ∧ (∀ c o, c ≠ z → hp.get? c = some o → g0.get? c = some o) ∧ g0.objs.size = hp.objs.size) ?_ (fun a s' ha => ?_) fun _ _ h => h)
  · unfold Builtin.SmallTypes.ownedTupleIsFree
    refine wpAny_bind (wpAny_field hz rfl (x := f0) rfl ?_)
    have here : ∃ g0 f1', (⟨hp, g, d, tk0, os⟩ : Shared) = ⟨g0, g, d, tk0, os⟩ ∧ (f1' = Value.bool false ∨ f1' = .bool true) ∧ IsZ g0 z TI TO f0 f1' ∧ (∀ c o, c ≠ z → hp.get? c = some o → g0.get? c = some o) ∧ g0.objs.size = hp.objs.size := ⟨hp, f1, rfl, h1, hz, fun _ _ _ h => h, rfl⟩
    rcases h0 with rfl | ⟨T, rfl⟩
    · exact wpAny_pure here
    · show wpAny _ _ (loadIfAlive _ >>= _) _ _ _
      refine wpAny_bind ?_
      refine wpAny_lia ?_
      by_cases hn : (hp.get? ((T : Int)).toNat).isNone = true
      · show wpAny _ _ (if (hp.get? ((T : Int)).toNat).isNone = true then _ else _) _ _ _
        rw [if_pos hn]
        exact wpAny_pure here
      · show wpAny _ _ (if (hp.get? ((T : Int)).toNat).isNone = true then _ else _) _ _ _
        rw [if_neg hn]
        show wpAny _ _ (field (.ref z) 1 >>= _) _ _ _
        refine wpAny_bind (wpAny_field hz rfl (x := f1) rfl ?_)
        rcases h1 with rfl | rfl
        · show wpAny _ _ (setField (.ref z) 1 (.bool true) >>= _) _ _ _
          refine wpAny_bind (wpAny_setField_rec hz (by simp) fun g0 hz0 hs0 => ?_)
          exact wpAny_pure ⟨g0, .bool true, rfl, .inr rfl, hz0, fun c o hc e => hs0.extBut _ _ hc e, hs0.1⟩
        · exact wpAny_pure here
  · obtain ⟨g0, f1', rfl, h1', hz0, hs0, hsz⟩ := ha
    have hTI0 : IsTp g0 TI (l.map fun e => Value.ref e.1).toArray := hs0 _ _ S.zTI hTI
    have hTO0 : IsTp g0 TO ws := hs0 _ _ S.zTO hTO
    have its0 : ∀ e ∈ l, g0.IsTupleIter e.1 e.2.1 i ∧ g0.IsTuple e.2.1 e.2.2 := fun e he => ⟨(st.its e he).1.at fun o q => hs0 _ _ (S.i1 e he).1 q, (st.its e he).2.at fun o q => hs0 _ _ (S.a1 e he).1 q⟩
    have D := fun e (he : e ∈ l) => Draws.tuple (prog := prog) (w := w) hh e.1 e.2.1 (S.ia e he e he) e.2.2
    have getI : ∀ e ∈ l, e.2.2[i]? = some (e.2.2.getD i .none) := fun e he => by
      have := hi e he
      simp [this]
    cases a with
    | false =>
      show wpAny _ _ (forIn (l.map fun e => Value.ref e.1).toArray _ _ >>= _) _ _ _
      refine wpAny_bind (MeetsSeq2.wpAny_forIn_array _ (fun rest b s' => ∃ p r h' tk, rest = r.map (fun e => Value.ref e.1) ∧ s' = ⟨h', g, d, tk, os⟩ ∧ b = (none, (p.map fun e => e.2.2.getD i .none).toArray) ∧ ZMid g0 h' l p r i (l.map fun e => e.1)) _ ?_ ?_ _ _ ⟨[], l, g0, tk0, rfl, rfl, rfl, ⟨rfl, fun e he => absurd he List.not_mem_nil, fun e he => (its0 e he).1, fun e he => (its0 e he).2, fun _ _ _ h => h, rfl⟩⟩)
      · rintro x rest b s' ⟨p, r, h', tk, er, rfl, rfl, M⟩
        cases r with
        | nil => cases er
        | cons e r =>
          injection er with e1 e2
          subst e1 e2
          have em : e ∈ l := by rw [M.split]; exact List.mem_append_right _ List.mem_cons_self
          refine wpAny_bind (wpAny_holding ?_)
          show wpAny _ _ (Builtin.SmallTypes.nextOf (.ref e.1) >>= _) _ _ ⟨h', g, d, tk, os⟩
          refine wpAny_bind ((D e em).item i _ _ _ (hi e em) ⟨M.left e List.mem_cons_self, M.tups e em⟩ fun x1 p1 tk1 hx1 sn1 hp1 => wpAny_pure ?_)
          have ex : x1 = e.2.2.getD i .none := Option.some.inj (hx1.symm.trans (getI e em))
          refine wpAny_pure ⟨p ++ [e], r, p1, tk1, rfl, rfl, ?_, M.step S (List.mem_map.mpr ⟨e, em, rfl⟩) sn1.1 hp1⟩
          rw [ex, List.map_append]
          simp
      · rintro b s' ⟨p, r, h', tk, er, rfl, rfl, M⟩
        have er : r = [] := by
          cases r with
          | nil => rfl
          | cons _ _ => cases er
        subst er
        have ep : l = p := by rw [M.split, List.append_nil]
        subst ep
        refine wpAny_bind (wpAny_newTuple ?_ (by rw [sizeLine_eq]; simp; omega))
        refine wpAny_pure ?_
        have ez : h'.objs.size = hp.objs.size := by rw [M.size, hsz]
        have zn : z ∉ l.map (fun e => e.1) := fun hm => by
          obtain ⟨e, he, q⟩ := List.mem_map.mp hm
          exact (S.i1 e he).1 q
        have tn : TI ∉ l.map (fun e => e.1) := fun hm => by
          obtain ⟨e, he, q⟩ := List.mem_map.mp hm
          exact (S.i1 e he).2.1 q
        have on : TO ∉ l.map (fun e => e.1) := fun hm => by
          obtain ⟨e, he, q⟩ := List.mem_map.mp hm
          exact (S.i1 e he).2.2 q
        have q := hQ (h'.push { cls := .type "tuple", data := .seq (l.map fun e => e.2.2.getD i .none).toArray }) tk ⟨⟨f0, f1', h0, h1', Heap.get?_push_of_some _ (M.same _ _ zn hz0)⟩, Heap.get?_push_of_some _ (M.same _ _ tn hTI0), ⟨ws, hws, Heap.get?_push_of_some _ (M.same _ _ on hTO0)⟩, fun e he => ⟨(M.drawn e he).at fun o q => Heap.get?_push_of_some _ q, (M.tups e he).at fun o q => Heap.get?_push_of_some _ q⟩⟩ (by
          show Heap.get? _ hp.objs.size = _
          rw [← ez]
          exact Heap.get?_push_size _ rfl) (fun c o hc e => Heap.get?_push_of_some _ (M.same _ _ (fun hm => hc (List.mem_cons_of_mem _ (List.mem_cons_of_mem _ hm))) (hs0 _ _ (fun h => hc (by rw [h]; exact List.mem_cons_self)) e)))
        show Q (.done (.ret (.ref h'.objs.size))) _
        rw [ez]
        simpa using q
    | true =>
      show wpAny _ _ (rule _ >>= _) _ _ _
      refine wpAny_bind (wpAny_rule ?_)
      refine wpAny_bind (wpAny_field hz0 rfl (x := .ref TO) rfl ?_)
      refine wpAny_bind (wpAny_setField_rec hz0 (by simp) fun g1 hz1 hs1 => ?_)
      replace hz1 : IsZ g1 z TI TO .ellipsis f1' := hz1
      replace hs1 : Heap.SameBut z g0 g1 := hs1
      have hTI1 : IsTp g1 TI (l.map fun e => Value.ref e.1).toArray := hs1.extBut _ _ S.zTI hTI0
      have hTO1 : IsTp g1 TO ws := hs1.extBut _ _ S.zTO hTO0
      have its1 : ∀ e ∈ l, g1.IsTupleIter e.1 e.2.1 i ∧ g1.IsTuple e.2.1 e.2.2 := fun e he => ⟨(its0 e he).1.at fun o q => hs1.extBut _ _ (S.i1 e he).1 q, (its0 e he).2.at fun o q => hs1.extBut _ _ (S.a1 e he).1 q⟩
      refine wpAny_bind (wpAny_forIn_list _ (fun rest b s' => ∃ p r h' tk ws', rest = (r.map (fun e => Value.ref e.1)).zipIdx p.length ∧ s' = ⟨h', g, d, tk, os⟩ ∧ b = (none, ()) ∧ ZMid g1 h' l p r i (TO :: l.map fun e => e.1) ∧ IsTp h' TO ws' ∧ ws'.size = l.length ∧ ∀ (j : Nat) e, p[j]? = some e → ws'[j]? = some (e.2.2.getD i .none)) _ ?_ ?_ _ _ ⟨[], l, g1, tk0, ws, rfl, rfl, rfl, ⟨rfl, fun e he => absurd he List.not_mem_nil, fun e he => (its1 e he).1, fun e he => (its1 e he).2, fun _ _ _ h => h, rfl⟩, hTO1, hws, fun j e h => by simp at h⟩)
      · rintro x rest b s' ⟨p, r, h', tk, ws', er, rfl, rfl, M, hT', hw', hg'⟩
        cases r with
        | nil => cases er
        | cons e r =>
          rw [List.map_cons, List.zipIdx_cons] at er
          injection er with e1 e2
          subst e1 e2
          have em : e ∈ l := by rw [M.split]; exact List.mem_append_right _ List.mem_cons_self
          have lp : p.length < ws'.size := by
            rw [hw', M.split, List.length_append, List.length_cons]
            omega
          refine wpAny_bind (wpAny_onRaise ?_)
          show wpAny _ _ (Builtin.SmallTypes.nextOf (.ref e.1) >>= _) _ _ ⟨h', g, d, tk, os⟩
          refine wpAny_bind ((D e em).item i _ _ _ (hi e em) ⟨M.left e List.mem_cons_self, M.tups e em⟩ fun x1 p1 tk1 hx1 sn1 hp1 => wpAny_pure ?_)
          replace hp1 : Heap.SameBut e.1 h' p1 := hp1
          have ex : x1 = e.2.2.getD i .none := Option.some.inj (hx1.symm.trans (getI e em))
          have hU : IsTp p1 TO ws' := hp1.extBut _ _ (Ne.symm (S.i1 e em).2.2) hT'
          refine wpAny_bind (wpAny_seqItems (s := ⟨p1, g, d, tk1, os⟩) hU rfl ?_)
          refine wpAny_bind (updTp (s := ⟨p1, g, d, tk1, os⟩) hU (by omega) fun p2 hT2 hs2 => ?_)
          replace hs2 : Heap.SameBut TO p1 p2 := hs2
          refine wpAny_bind (wpAny_letGo (wpAny_pure ?_))
          refine ⟨p ++ [e], r, p2, tk1, _, by rw [List.length_append]; rfl, rfl, rfl, (M.step S (List.mem_cons_of_mem _ (List.mem_map.mpr ⟨e, em, rfl⟩)) sn1.1 hp1).over List.mem_cons_self (fun e he => (S.i1 e he).2.2) (fun e he => (S.a1 e he).2) hs2, hT2, by rw [Array.size_setIfInBounds]; exact hw', fun j e' he' => ?_⟩
          rw [Array.getElem?_setIfInBounds]
          by_cases c : p.length = j
          · subst c
            rw [if_pos rfl, if_pos lp, ex]
            rw [List.getElem?_append_right (Nat.le_refl _), Nat.sub_self] at he'
            injection he' with he'
            rw [he']
          · rw [if_neg c]
            have hj := (List.getElem?_eq_some_iff.mp he').1
            rw [List.length_append, List.length_singleton] at hj
            rw [List.getElem?_append_left (by omega)] at he'
            exact hg' j e' he'
      · rintro b s' ⟨p, r, h', tk, ws', er, rfl, rfl, M, hT', hw', hg'⟩
        have er : r = [] := by
          cases r with
          | nil => rfl
          | cons _ _ => cases er
        subst er
        have ep : l = p := by rw [M.split, List.append_nil]
        subst ep
        have ew : ws' = (l.map fun e => e.2.2.getD i .none).toArray := by
          refine Array.ext (by simp [hw']) fun j h1 h2 => ?_
          have hj : j < l.length := by rw [← hw']; exact h1
          have := hg' j l[j] (List.getElem?_eq_getElem hj)
          rw [Array.getElem?_eq_getElem h1] at this
          injection this with this
          rw [this]
          simp
        subst ew
        have zn : z ∉ TO :: l.map (fun e => e.1) := fun hm => by
          rcases List.mem_cons.mp hm with q | hm
          · exact S.zTO q.symm
          · obtain ⟨e, he, q⟩ := List.mem_map.mp hm
            exact (S.i1 e he).1 q
        have tn : TI ∉ TO :: l.map (fun e => e.1) := fun hm => by
          rcases List.mem_cons.mp hm with q | hm
          · exact S.TT q
          · obtain ⟨e, he, q⟩ := List.mem_map.mp hm
            exact (S.i1 e he).2.1 q
        have hzz : IsZ h' z TI TO .ellipsis f1' := M.same _ _ zn hz1
        have ez : h'.objs.size = hp.objs.size := by rw [M.size, hs1.1, hsz]
        have hzlt : z < h'.objs.size := Heap.lt_size hzz
        refine wpAny_bind (wpAny_seqItems (s := ⟨h', g, d, tk, os⟩) hT' rfl ?_)
        refine wpAny_bind (wpAny_newTuple ?_ (by rw [sizeLine_eq]; simp; omega))
        show wpAny _ _ (Builtin.SmallTypes.ownedTupleHandOut (.ref z) (.ref h'.objs.size) >>= _) _ _ ⟨h'.push { cls := .type "tuple", data := .seq (l.map fun e => e.2.2.getD i .none).toArray.toList.toArray }, g, d, tk, os⟩
        rw [Array.toArray_toList]
        refine wpAny_bind ?_
        unfold Builtin.SmallTypes.ownedTupleHandOut
        have hz6 : IsZ (h'.push { cls := .type "tuple", data := .seq (l.map fun e => e.2.2.getD i .none).toArray }) z TI TO .ellipsis f1' := Heap.get?_push_of_some _ hzz
        refine wpAny_bind (wpAny_setField_rec hz6 (by simp) fun h7 hz7 hs7 => ?_)
        replace hz7 : IsZ h7 z TI TO (rawInt h'.objs.size) f1' := hz7
        refine wpAny_setField_rec hz7 (by simp) fun h8 hz8 hs8 => ?_
        replace hz8 : IsZ h8 z TI TO (rawInt h'.objs.size) (.bool false) := hz8
        replace hs7 : Heap.SameBut z (h'.push { cls := .type "tuple", data := .seq (l.map fun e => e.2.2.getD i .none).toArray }) h7 := hs7
        replace hs8 : Heap.SameBut z h7 h8 := hs8
        have up : ∀ c o, c ≠ z → h'.get? c = some o → h8.get? c = some o := fun c o c1 e => hs8.extBut _ _ c1 (hs7.extBut _ _ c1 (Heap.get?_push_of_some _ e))
        have hT8 : h8.get? h'.objs.size = some { cls := .type "tuple", data := .seq (l.map fun e => e.2.2.getD i .none).toArray } := hs8.extBut _ _ (Nat.ne_of_gt hzlt) (hs7.extBut _ _ (Nat.ne_of_gt hzlt) (Heap.get?_push_size _ rfl))
        refine wpAny_pure ?_
        show Q (.done (.ret (.ref h'.objs.size))) ⟨h8, g, d, tk, os⟩
        rw [ez] at hT8 hz8 ⊢
        exact hQ h8 tk ⟨⟨_, _, .inr ⟨_, rfl⟩, .inl rfl, hz8⟩, up _ _ S.zTI (M.same _ _ tn hTI1), ⟨_, by simp, up _ _ S.zTO hT'⟩, fun e he => ⟨(M.drawn e he).at fun o q => up _ _ (S.i1 e he).1 q, (M.tups e he).at fun o q => up _ _ (S.a1 e he).1 q⟩⟩ hT8 fun c o hc e => up _ _ (fun h => hc (by rw [h]; exact List.mem_cons_self)) (M.same _ _ (fun hm => hc (List.mem_cons_of_mem _ hm)) (hs1.extBut _ _ (fun h => hc (by rw [h]; exact List.mem_cons_self)) (hs0 _ _ (fun h => hc (by rw [h]; exact List.mem_cons_self)) e)))
end
end WV
end
section
set_option maxRecDepth 100000
set_option maxHeartbeats 4000000
namespace WV
open PySem PySem.Spec PyProof.Rows L2
section
variable {prog : Program} {w : World} {A : Around} {E : Value → Shared → Prop} {s : Shared} {z TI TO : Addr} {l : List ZE} {i m : Nat}
theorem zn_end {Q : Fin → Shared → Prop} (hh : A.handled = none) (S : ZSep z TI TO l) (st : ZSt s.heap z TI TO l i) (hi : ∀ e ∈ l, i = e.2.2.size) (hne : l ≠ [])
    (hE : ∀ h' e, (∀ c o, c ∉ z :: TO :: l.map (fun e => e.1) → s.heap.get? c = some o → h'.get? c = some o) → (∃ o, h'.get? e = some o ∧ o.cls = .type "StopIteration") → E (.ref e) { s with heap := h' }) :
    wpAny (model prog w) A (Builtin.«zip.__next__» ⟨[.ref z], []⟩) Q E s := by
  obtain ⟨f0, f1, h0, h1, hz⟩ := st.zr
  obtain ⟨ws, hws, hTO⟩ := st.zo
  have hTI := st.ti
  obtain ⟨hp, g, d, tk0, os⟩ := s
  show wpAny _ _ (field (.ref z) 2 >>= _) _ _ _
  refine wpAny_bind (wpAny_field hz rfl (x := .bool false) rfl ?_)
  show wpAny _ _ (field (.ref z) 3 >>= _) _ _ _
  refine wpAny_bind (wpAny_field hz rfl (x := .ref TI) rfl ?_)
  refine wpAny_bind (wpAny_seqItems hTI rfl ?_)
  obtain ⟨e0, l', el⟩ : ∃ e0 l', l = e0 :: l' := by
    cases l with
    | nil => exact absurd rfl hne
    | cons a b => exact ⟨a, b, rfl⟩
  have hemp : (l.map fun e => Value.ref e.1).toArray.isEmpty = false := by
    rw [el]
    rfl
  have m0 : e0 ∈ l := by rw [el]; exact List.mem_cons_self
  show wpAny _ _ (if (l.map fun e => Value.ref e.1).toArray.isEmpty = true then _ else _) _ _ _
  rw [hemp, if_neg Bool.false_ne_true]
  show wpAny _ _ (Builtin.SmallTypes.ownedTupleIsFree (.ref z) >>= _) _ _ _
  refine wpAny_bind (wpAny_mono (Q := fun a s' => ∃ g0 f1', s' = ⟨g0, g, d, tk0, os⟩ ∧ (f1' = Value.bool false ∨ f1' = .bool true) ∧ IsZ g0 z TI TO f0 f1' ∧ (∀ c o, c ≠ z → hp.get? c = some o → g0.get? c = some o) ∧ g0.objs.size = hp.objs.size) ?_ (fun a s' ha => ?_) fun _ _ h => h)
  · unfold Builtin.SmallTypes.ownedTupleIsFree
    refine wpAny_bind (wpAny_field hz rfl (x := f0) rfl ?_)
    have here : ∃ g0 f1', (⟨hp, g, d, tk0, os⟩ : Shared) = ⟨g0, g, d, tk0, os⟩ ∧ (f1' = Value.bool false ∨ f1' = .bool true) ∧ IsZ g0 z TI TO f0 f1' ∧ (∀ c o, c ≠ z → hp.get? c = some o → g0.get? c = some o) ∧ g0.objs.size = hp.objs.size := ⟨hp, f1, rfl, h1, hz, fun _ _ _ h => h, rfl⟩
    rcases h0 with rfl | ⟨T, rfl⟩
    · exact wpAny_pure here
    · show wpAny _ _ (loadIfAlive _ >>= _) _ _ _
      refine wpAny_bind ?_
      refine wpAny_lia ?_
      by_cases hn : (hp.get? ((T : Int)).toNat).isNone = true
      · show wpAny _ _ (if (hp.get? ((T : Int)).toNat).isNone = true then _ else _) _ _ _
        rw [if_pos hn]
        exact wpAny_pure here
      · show wpAny _ _ (if (hp.get? ((T : Int)).toNat).isNone = true then _ else _) _ _ _
        rw [if_neg hn]
        show wpAny _ _ (field (.ref z) 1 >>= _) _ _ _
        refine wpAny_bind (wpAny_field hz rfl (x := f1) rfl ?_)
        rcases h1 with rfl | rfl
        · show wpAny _ _ (setField (.ref z) 1 (.bool true) >>= _) _ _ _
          refine wpAny_bind (wpAny_setField_rec hz (by simp) fun g0 hz0 hs0 => ?_)
          exact wpAny_pure ⟨g0, .bool true, rfl, .inr rfl, hz0, fun c o hc e => hs0.extBut _ _ hc e, hs0.1⟩
        · exact wpAny_pure here
  · obtain ⟨g0, f1', rfl, h1', hz0, hs0, hsz⟩ := ha
    have its0 : ∀ e ∈ l, g0.IsTupleIter e.1 e.2.1 i ∧ g0.IsTuple e.2.1 e.2.2 := fun e he => ⟨(st.its e he).1.at fun o q => hs0 _ _ (S.i1 e he).1 q, (st.its e he).2.at fun o q => hs0 _ _ (S.a1 e he).1 q⟩
    have D := Draws.tuple (prog := prog) (w := w) hh e0.1 e0.2.1 (S.ia e0 m0 e0 m0) e0.2.2
    have i0 : i = e0.2.2.size := hi e0 m0
    have st0 := its0 e0 m0
    rw [i0] at st0
    cases a with
    | false =>
      show wpAny _ _ (forIn (l.map fun e => Value.ref e.1).toArray _ _ >>= _) _ _ _
      refine wpAny_bind ?_
      rw [← Array.forIn_toList]
      show wpAny _ _ (forIn (l.map fun e => Value.ref e.1) _ _) _ _ _
      rw [el, List.map_cons, List.forIn_cons]
      refine wpAny_bind (wpAny_bind (wpAny_holding ?_))
      show wpAny _ _ (Builtin.SmallTypes.nextOf (.ref e0.1) >>= _) _ _ ⟨g0, g, d, tk0, os⟩
      refine wpAny_bind (D.done ⟨g0, g, d, tk0, os⟩ _ _ st0 fun q e hq he => ?_)
      exact hE q e (fun c o hc x => hq _ _ (fun h => hc (by rw [h]; exact List.mem_cons_of_mem _ (List.mem_cons_of_mem _ (List.mem_map.mpr ⟨e0, m0, rfl⟩)))) (hs0 _ _ (fun h => hc (by rw [h]; exact List.mem_cons_self)) x)) he
    | true =>
      show wpAny _ _ (rule _ >>= _) _ _ _
      refine wpAny_bind (wpAny_rule ?_)
      refine wpAny_bind (wpAny_field hz0 rfl (x := .ref TO) rfl ?_)
      refine wpAny_bind (wpAny_setField_rec hz0 (by simp) fun g1 hz1 hs1 => ?_)
      replace hz1 : IsZ g1 z TI TO .ellipsis f1' := hz1
      replace hs1 : Heap.SameBut z g0 g1 := hs1
      refine wpAny_bind ?_
      show wpAny _ _ (forIn ((l.map fun e => Value.ref e.1).zipIdx) _ _) _ _ _
      rw [el, List.map_cons, List.zipIdx_cons, List.forIn_cons]
      refine wpAny_bind (wpAny_bind (wpAny_onRaise ?_))
      show wpAny _ _ (Builtin.SmallTypes.nextOf (.ref e0.1) >>= _) _ _ ⟨g1, g, d, tk0, os⟩
      refine wpAny_bind (D.done ⟨g1, g, d, tk0, os⟩ _ _ ⟨st0.1.at fun o q => hs1.extBut _ _ (S.i1 e0 m0).1 q, st0.2.at fun o q => hs1.extBut _ _ (S.a1 e0 m0).1 q⟩ fun q e hq he => ?_)
      replace hq : Heap.ExtBut e0.1 g1 q := hq
      obtain ⟨oe, hoe, hce⟩ := he
      replace hoe : q.get? e = some oe := hoe
      have hzq : IsZ q z TI TO .ellipsis f1' := hq _ _ (Ne.symm (S.i1 e0 m0).1) hz1
      have hez : e ≠ z := fun x => by
        subst x
        rw [hzq] at hoe
        cases hoe
        simp at hce
      refine wpAny_setField_rec (s := ⟨q, g, d, tk0, os⟩) hzq (by simp) fun q' _ hq' => ?_
      replace hq' : Heap.SameBut z q q' := hq'
      exact hE q' e (fun c o hc x => hq'.extBut _ _ (fun h => hc (by rw [h]; exact List.mem_cons_self)) (hq _ _ (fun h => hc (by rw [h]; exact List.mem_cons_of_mem _ (List.mem_cons_of_mem _ (List.mem_map.mpr ⟨e0, m0, rfl⟩)))) (hs1.extBut _ _ (fun h => hc (by rw [h]; exact List.mem_cons_self)) (hs0 _ _ (fun h => hc (by rw [h]; exact List.mem_cons_self)) x)))) ⟨oe, hq'.extBut _ _ hez hoe, hce⟩
theorem zn_next {Q : Option Value → Shared → Prop} (hh : A.in1.handled = none) (S : ZSep z TI TO l) (st : ZSt s.heap z TI TO l i) (hi : ∀ e ∈ l, i < e.2.2.size) (hne : l ≠ []) (hlen : l.length ≤ 100)
    (hQ : ∀ h' tk, ZSt h' z TI TO l (i + 1) → h'.get? s.heap.objs.size = some { cls := .type "tuple", data := .seq (l.map fun e => e.2.2.getD i .none).toArray } → (∀ c o, c ∉ z :: TO :: l.map (fun e => e.1) → s.heap.get? c = some o → h'.get? c = some o) → Q (some (.ref s.heap.objs.size)) { s with heap := h', toks := tk }) :
    wpAny (model prog w) A (pyNext (.ref z)) Q E s := by
  obtain ⟨f0, f1, _, _, hz⟩ := st.zr
  have hT : s.TypeIs (.ref z) "zip" := ⟨_, hz, rfl⟩
  unfold pyNext
  exact wpAny_bind (wpAny_attempt (wpAny_callSpecial?_slot (name := Str.ofString "__next__") hT F.slot_zip_next
    (wpAny_call_entry F.slot_zip_next hT F.entry_zip_next (zn_item (A := A.in1) hh S st hi hne hlen fun h' tk a b c => ⟨_, rfl, wpAny_pure (hQ h' tk a b c)⟩) (F.args_zip_next_1 _))))
theorem zn_stop {Q : Option Value → Shared → Prop} (hh : A.in1.handled = none) (S : ZSep z TI TO l) (st : ZSt s.heap z TI TO l i) (hi : ∀ e ∈ l, i = e.2.2.size) (hne : l ≠ [])
    (hQ : ∀ h', (∀ c o, c ∉ z :: TO :: l.map (fun e => e.1) → s.heap.get? c = some o → h'.get? c = some o) → Q none { s with heap := h' }) :
    wpAny (model prog w) A (pyNext (.ref z)) Q E s := by
  obtain ⟨f0, f1, _, _, hz⟩ := st.zr
  have hT : s.TypeIs (.ref z) "zip" := ⟨_, hz, rfl⟩
  unfold pyNext
  refine wpAny_bind (wpAny_attempt (wpAny_callSpecial?_slot (name := Str.ofString "__next__") hT F.slot_zip_next
    (wpAny_call_entry F.slot_zip_next hT F.entry_zip_next (zn_end (A := A.in1) hh S st hi hne fun h' e hk he => ?_) (F.args_zip_next_1 _))))
  obtain ⟨o, ho, hc⟩ := he
  refine wpAny_bind (wpAny_isInstance (T := "StopIteration") (b := true) ⟨o, ho, hc⟩ isSubtype_stop ?_)
  exact wpAny_pure (hQ _ hk)
end
end WV
end
section
set_option maxRecDepth 100000
set_option maxHeartbeats 4000000
namespace WV
open PySem PySem.Spec PyProof.Rows L2
def itemsAt (h : Heap) (a : Addr) : Array Value := match h.get? a with
  | some o => match o.data with
    | .seq its _ => its
    | _ => #[]
  | none => #[]
theorem itemsAt_of {h : Heap} {a : Addr} {its : Array Value} (p : h.IsTuple a its) : itemsAt h a = its := by
  obtain ⟨o, e, c, n, d⟩ := p
  unfold itemsAt
  rw [e]
  simp only
  rw [d]
def withI (h : Heap) (ia : List (Addr × Addr)) : List ZE := ia.map fun p => (p.1, p.2, itemsAt h p.2)
structure ZS0 (h : Heap) (z TI TO : Addr) (ia : List (Addr × Addr)) (i : Nat) : Prop where
  zr : ∃ f0 f1, (f0 = .none ∨ ∃ T : Nat, f0 = rawInt T) ∧ (f1 = .bool false ∨ f1 = .bool true) ∧ IsZ h z TI TO f0 f1
  ti : IsTp h TI (ia.map fun e => Value.ref e.1).toArray
  zo : ∃ ws : Array Value, ws.size = ia.length ∧ IsTp h TO ws
  its : ∀ e ∈ ia, h.IsTupleIter e.1 e.2 i
structure ZSp (z TI TO : Addr) (ia : List (Addr × Addr)) : Prop where
  zTI : TI ≠ z
  zTO : TO ≠ z
  TT : TI ≠ TO
  i1 : ∀ e ∈ ia, e.1 ≠ z ∧ e.1 ≠ TI ∧ e.1 ≠ TO
  a1 : ∀ e ∈ ia, e.2 ≠ z ∧ e.2 ≠ TO
  ix : ∀ e ∈ ia, ∀ e' ∈ ia, e.2 ≠ e'.1
  nd : (ia.map fun e => e.1).Nodup
theorem ZSp.sep {z TI TO : Addr} {ia : List (Addr × Addr)} (S : ZSp z TI TO ia) (h : Heap) : ZSep z TI TO (withI h ia) := by
  have mem : ∀ e ∈ withI h ia, (e.1, e.2.1) ∈ ia := fun e he => by
    obtain ⟨p, hp, rfl⟩ := List.mem_map.mp he
    exact hp
  refine ⟨S.zTI, S.zTO, S.TT, fun e he => S.i1 _ (mem e he), fun e he => S.a1 _ (mem e he), fun e he e' he' => S.ix _ (mem e he) _ (mem e' he'), ?_⟩
  unfold withI
  rw [List.map_map]
  exact S.nd
theorem ZS0.full {h h' : Heap} {z TI TO : Addr} {ia : List (Addr × Addr)} {i : Nat} (Z : ZS0 h z TI TO ia i) (ht : ∀ p ∈ ia, h.IsTuple p.2 (itemsAt h' p.2)) : ZSt h z TI TO (withI h' ia) i := by
  refine ⟨Z.zr, ?_, ?_, fun e he => ?_⟩
  · unfold withI
    rw [List.map_map]
    exact Z.ti
  · unfold withI
    rw [List.length_map]
    exact Z.zo
  · obtain ⟨p, hp, rfl⟩ := List.mem_map.mp he
    exact ⟨Z.its p hp, ht p hp⟩
theorem ZSt.bare {h h' : Heap} {z TI TO : Addr} {ia : List (Addr × Addr)} {i : Nat} (Z : ZSt h z TI TO (withI h' ia) i) : ZS0 h z TI TO ia i := by
  have h1 := Z.ti
  have h2 := Z.zo
  unfold withI at h1 h2
  rw [List.map_map] at h1
  rw [List.length_map] at h2
  exact ⟨Z.zr, h1, h2, fun p hp => (Z.its (p.1, p.2, itemsAt h' p.2) (List.mem_map.mpr ⟨p, hp, rfl⟩)).1⟩
/-- the columns of rows -/
def ItZn (K : PySem.W.Frag) (as : List Addr) : It :=
  ⟨fun i H => ∃ xss : List (List V), xss.length = as.length ∧ ∀ (j : Nat) a xs, as[j]? = some a → xss[j]? = some xs → SqT K H a xs ∧ i < xs.length,
    fun i H v H' => ∃ T vs, v = .ref T ∧ H T = none ∧ H' = upd H T (.tup vs) ∧ vs.length = as.length ∧ ∀ (j : Nat) a xs, as[j]? = some a → SqT K H a xs → vs[j]? = xs[i]?,
    fun i H => ∃ xss : List (List V), xss.length = as.length ∧ ∀ (j : Nat) a xs, as[j]? = some a → xss[j]? = some xs → SqT K H a xs ∧ i = xs.length⟩
theorem vals_of {l : List V} {us : List Value} : ∀ {l : List V} {us : List Value}, l.length = us.length → (∀ (j : Nat) v u, l[j]? = some v → us[j]? = some u → RelV v u) → Vals l us
  | [], [], _, _ => .nil
  | v :: l, u :: us, h, r => .cons (r 0 v u rfl rfl) (vals_of (l := l) (us := us) (by simpa using h) fun j v' u' h1 h2 => r (j + 1) v' u' (by simpa using h1) (by simpa using h2))
  | [], _ :: _, h, _ => by simp at h
  | _ :: _, [], h, _ => by simp at h
theorem turn_zipN {P : Program} {w : World} {K : PySem.W.Frag} {x : Str} {px : Pos} {z TI TO : Addr} {ia : List (Addr × Addr)} (S : ZSp z TI TO ia) (hne : ia ≠ []) (hlen : ia.length ≤ 100) :
    Turn P w K (.Name x px) (ItZn K (ia.map fun e => e.2)) (z :: TI :: TO :: ia.map fun e => e.1) z (fun i h => ZS0 h z TI TO ia i) where
  mem := List.mem_cons_self
  obj := fun i h st b hb => by
    obtain ⟨f0, f1, _, _, hz⟩ := st.zr
    obtain ⟨ws, _, hO⟩ := st.zo
    rcases List.mem_cons.mp hb with rfl | hb
    · exact ⟨_, hz, fun v q => nomatch q⟩
    · rcases List.mem_cons.mp hb with rfl | hb
      · exact ⟨_, st.ti, fun v q => nomatch q⟩
      · rcases List.mem_cons.mp hb with rfl | hb
        · exact ⟨_, hO, fun v q => nomatch q⟩
        · obtain ⟨e, he, rfl⟩ := List.mem_map.mp hb
          obtain ⟨o, q, _, d⟩ := st.its e he
          exact ⟨o, q, fun v q => by rw [d] at q; cases q⟩
  keep := fun i h h' st kp => by
    obtain ⟨f0, f1, a, b, hz⟩ := st.zr
    obtain ⟨ws, hw, hO⟩ := st.zo
    refine ⟨⟨f0, f1, a, b, kp z (by simp) _ hz⟩, kp TI (by simp) _ st.ti, ⟨ws, hw, kp TO (by simp) _ hO⟩, fun e he => (st.its e he).at fun o q => kp e.1 (List.mem_cons_of_mem _ (List.mem_cons_of_mem _ (List.mem_cons_of_mem _ (List.mem_map.mpr ⟨e, he, rfl⟩)))) o q⟩
  self := fun A i s Q E st h => by
    obtain ⟨f0, f1, _, _, hz⟩ := st.zr
    have hT : s.TypeIs (.ref z) "zip" := ⟨_, hz, rfl⟩
    refine wpAny_pyIter_slot hT F.slot_zip_iter (wpAny_call_entry F.slot_zip_iter hT F.entry_zip_iter ?_ (F.args_zip_iter_1 _))
    show wpAny _ _ (ret (.ref z)) _ _ s
    exact wpAny_pure ⟨_, rfl, "zip", _, hT, F.slot_zip_next.lookup, h⟩
  item := by
    intro X hP hW hK hc i pins s σ H E I hf st hg
    subst hP hW hK
    obtain ⟨xss, lx, hx⟩ := hg
    have tup : ∀ p ∈ ia, ∃ (j : Nat) (xs : List V), ia[j]? = some p ∧ xss[j]? = some xs ∧ SqT X.K H p.2 xs ∧ i < xs.length ∧ ∃ its : List Value, Vals xs its ∧ s.heap.IsTuple p.2 its.toArray := fun p hp => by
      obtain ⟨j, hj, rfl⟩ := List.getElem_of_mem hp
      have hj2 : j < xss.length := by
        rw [lx, List.length_map]
        exact hj
      obtain ⟨h1, h2⟩ := hx j ia[j].2 xss[j] (by rw [List.getElem?_map, List.getElem?_eq_getElem hj]; rfl) (List.getElem?_eq_getElem hj2)
      obtain ⟨its, rv, q, _⟩ := I.tuple h1
      exact ⟨j, xss[j], List.getElem?_eq_getElem hj, List.getElem?_eq_getElem hj2, h1, h2, its, rv, q⟩
    have full := st.full (h' := s.heap) fun p hp => by
      obtain ⟨j, xs, _, _, _, _, its, _, q⟩ := tup p hp
      rw [itemsAt_of q]
      exact q
    refine zn_next (I.ok.hd hc) (S.sep s.heap) full (fun e he => ?_) (by unfold withI; simpa using hne) (by unfold withI; rw [List.length_map]; exact hlen) fun h' tk st' hT hk => ?_
    · obtain ⟨p, hp, rfl⟩ := List.mem_map.mp he
      obtain ⟨j, xs, _, _, _, h2, its, rv, q⟩ := tup p hp
      rw [itemsAt_of q]
      have := rv.length
      simp only [List.size_toArray]
      omega
    · refine ⟨_, rfl, ?_⟩
      show wpAny _ _ (pure ()) _ _ _
      refine wpAny_pure ?_
      have fT : H s.heap.objs.size = none := I.hok.fresh (Nat.le_refl _)
      have esub : (withI s.heap ia).map (fun e => e.1) = ia.map fun e => e.1 := by
        unfold withI
        rw [List.map_map]
        rfl
      rw [esub] at hk
      have hfw : ∀ b ∈ z :: TO :: ia.map (fun e => e.1), FpOk X pins H b := fun b hb => hf b (by
        rcases List.mem_cons.mp hb with rfl | hb
        · exact List.mem_cons_self
        · exact List.mem_cons_of_mem _ (List.mem_cons_of_mem _ hb))
      have lv : (xss.map fun xs => xs.getD i V.non).length = ia.length := by
        rw [List.length_map, lx, List.length_map]
      have rv : Vals (xss.map fun xs => xs.getD i V.non) ((withI s.heap ia).map fun e => e.2.2.getD i Value.none) := by
        refine vals_of (l := []) (us := []) (by rw [lv, List.length_map]; unfold withI; rw [List.length_map]) fun j v u h1 h2 => ?_
        rw [List.getElem?_map] at h1 h2
        obtain ⟨xs, hxs, rfl⟩ := Option.map_eq_some_iff.mp h1
        obtain ⟨e, he, rfl⟩ := Option.map_eq_some_iff.mp h2
        unfold withI at he
        rw [List.getElem?_map] at he
        obtain ⟨p, hp, rfl⟩ := Option.map_eq_some_iff.mp he
        obtain ⟨h3, h4⟩ := hx j p.2 xs (by rw [List.getElem?_map, hp]; rfl) hxs
        obtain ⟨its, rv, q, _⟩ := I.tuple h3
        rw [itemsAt_of q, getD_at (List.getElem?_eq_getElem h4)]
        obtain ⟨u, hu, ru⟩ := rv.get (List.getElem?_eq_getElem h4)
        have : its.toArray.getD i Value.none = u := by
          rw [Array.getD_eq_getD_getElem?, List.getElem?_toArray, hu]
          rfl
        rw [this]
        exact ru
      have I1 : Inv X pins σ (upd H s.heap.objs.size (.tup (xss.map fun xs => xs.getD i V.non))) { s with heap := h', toks := tk } :=
        I.turnedNew (ch := z :: TO :: ia.map fun e => e.1) (fun b o hb q => hk b o hb q) hfw (Nat.le_refl _) ⟨by rw [lv, sizeLine_eq]; omega, _, rv, ⟨_, hT, rfl, _, rfl⟩⟩
      refine ⟨.ref s.heap.objs.size, _, I1, rfl, ⟨s.heap.objs.size, _, rfl, fT, rfl, by rw [lv, List.length_map], fun j a xs ha hxs => ?_⟩, st'.bare, fun b hb => ?_⟩
      · have hj : j < xss.length := by
          rw [lx]
          exact (List.getElem?_eq_some_iff.mp ha).1
        obtain ⟨h3, h4⟩ := hx j a xss[j] ha (List.getElem?_eq_getElem hj)
        have e : xs = xss[j] := I.tuple_inj hxs h3
        rw [e, List.getElem?_map, List.getElem?_eq_getElem hj, List.getElem?_eq_getElem h4]
        show some (xss[j].getD i V.non) = _
        rw [getD_at (List.getElem?_eq_getElem h4)]
      · have hne2 : b ≠ s.heap.objs.size := fun eb => by
          have : ∃ o, s.heap.get? b = some o := by
            obtain ⟨f0, f1, _, _, hz⟩ := st.zr
            obtain ⟨ws, _, hO⟩ := st.zo
            rcases List.mem_cons.mp hb with rfl | hb
            · exact ⟨_, hz⟩
            · rcases List.mem_cons.mp hb with rfl | hb
              · exact ⟨_, st.ti⟩
              · rcases List.mem_cons.mp hb with rfl | hb
                · exact ⟨_, hO⟩
                · obtain ⟨p5, hp5, e5⟩ := List.mem_map.mp hb
                  obtain ⟨o, q, _, d⟩ := st.its p5 hp5
                  rw [← e5]
                  exact ⟨o, q⟩
          obtain ⟨o, ho⟩ := this
          have := Heap.lt_size ho
          rw [eb] at this
          exact absurd this (Nat.lt_irrefl _)
        rw [upd_ne hne2]
        exact (hf b hb).1
  done := by
    intro X hP hW hK hc i pins s σ H E I hf st hg
    subst hP hW hK
    obtain ⟨xss, lx, hx⟩ := hg
    have tup : ∀ p ∈ ia, ∃ (xs : List V), i = xs.length ∧ ∃ its : List Value, Vals xs its ∧ s.heap.IsTuple p.2 its.toArray := fun p hp => by
      obtain ⟨j, hj, rfl⟩ := List.getElem_of_mem hp
      have hj2 : j < xss.length := by
        rw [lx, List.length_map]
        exact hj
      obtain ⟨h1, h2⟩ := hx j ia[j].2 xss[j] (by rw [List.getElem?_map, List.getElem?_eq_getElem hj]; rfl) (List.getElem?_eq_getElem hj2)
      obtain ⟨its, rv, q, _⟩ := I.tuple h1
      exact ⟨xss[j], h2, its, rv, q⟩
    have full := st.full (h' := s.heap) fun p hp => by
      obtain ⟨xs, _, its, _, q⟩ := tup p hp
      rw [itemsAt_of q]
      exact q
    refine zn_stop (I.ok.hd hc) (S.sep s.heap) full (fun e he => ?_) (by unfold withI; simpa using hne) fun h' hk => ⟨rfl, ?_⟩
    · obtain ⟨p, hp, rfl⟩ := List.mem_map.mp he
      obtain ⟨xs, h2, its, rv, q⟩ := tup p hp
      rw [itemsAt_of q]
      have := rv.length
      simp only [List.size_toArray]
      omega
    · have esub : (withI s.heap ia).map (fun e => e.1) = ia.map fun e => e.1 := by
        unfold withI
        rw [List.map_map]
        rfl
      rw [esub] at hk
      exact I.turnedL (t' := s.toks) (ch := z :: TO :: ia.map fun e => e.1) hk fun b hb => hf b (by
        rcases List.mem_cons.mp hb with rfl | hb
        · exact List.mem_cons_self
        · exact List.mem_cons_of_mem _ (List.mem_cons_of_mem _ hb))
end WV
end
section
set_option maxRecDepth 100000
set_option maxHeartbeats 4000000
namespace WV
open PySem PySem.Spec PyProof.Rows L2
abbrev tupIt (a : Addr) : Obj := { cls := .type "tuple_iterator", data := .fields #[.ref a, .int 0 0] }
abbrev zT1 (h : Heap) (o1 : Obj) : Heap := (h.push o1).push { cls := .type "tuple", data := .seq #[.ref h.objs.size] }
abbrev zO1 (h : Heap) (o1 : Obj) : Heap := (zT1 h o1).push { cls := .type "tuple", data := .seq #[.none] }
abbrev zZ1 (h : Heap) (o1 : Obj) : Heap := (zO1 h o1).push { cls := .type "zip", data := .fields #[.none, .bool false, .bool false, .ref (h.push o1).objs.size, .ref (zT1 h o1).objs.size] }
theorem tc_zip1 (a : Value) : checkTypeCall "zip" ⟨[a], []⟩ = pure () := by kernel_rfl
theorem nc_zip1 (a : Value) : checkBuiltinCall "zip.__new__" ⟨[.type "zip", a], []⟩ = pure () := by kernel_rfl
theorem ao_zip1 (obj a : Value) : argsOk "object.__init__" ⟨[obj, a], []⟩ := by unfold argsOk; kernel_rfl
theorem meets_zip1 {v1 : Value} {o1 : Obj} {H1 : Heap → Prop} (B1 : Begins v1 o1 H1) :
    Meets (Builtin.«zip.__new__» ⟨[.type "zip", v1], []⟩) (fun _ R s => H1 s.heap ∧ R (.ok (.ret (.ref (zO1 s.heap o1).objs.size))) { s with heap := zZ1 s.heap o1 }) :=
  .of_wp fun prog w A R s h => by
    obtain ⟨hp, g, d, tk, os⟩ := s
    obtain ⟨h1, h⟩ := h
    have hsub := sub_zip
    have q1 : ∀ {A' : Around} {E : Value → Shared → Prop} {Q : Value → Shared → Prop}, Q (.ref hp.objs.size) ⟨(hp.push o1), g, d, tk, os⟩ → wpAny (model prog w) A' (pyIter v1) Q E ⟨hp, g, d, tk, os⟩ :=
      fun q => B1.iter prog w _ _ ⟨hp, g, d, tk, os⟩ _ (B1.keeps _ _ h1 fun b o' e => e) q
    wp_walk using q1
    exact ⟨_, rfl, h⟩
abbrev zT4 (h : Heap) (o1 o2 o3 o4 : Obj) : Heap := ((((h.push o1).push o2).push o3).push o4).push { cls := .type "tuple", data := .seq #[.ref h.objs.size, .ref (h.push o1).objs.size, .ref ((h.push o1).push o2).objs.size, .ref (((h.push o1).push o2).push o3).objs.size] }
abbrev zO4 (h : Heap) (o1 o2 o3 o4 : Obj) : Heap := (zT4 h o1 o2 o3 o4).push { cls := .type "tuple", data := .seq #[.none, .none, .none, .none] }
abbrev zZ4 (h : Heap) (o1 o2 o3 o4 : Obj) : Heap := (zO4 h o1 o2 o3 o4).push { cls := .type "zip", data := .fields #[.none, .bool false, .bool false, .ref ((((h.push o1).push o2).push o3).push o4).objs.size, .ref (zT4 h o1 o2 o3 o4).objs.size] }
theorem tc_zip4 (a b c d : Value) : checkTypeCall "zip" ⟨[a, b, c, d], []⟩ = pure () := by kernel_rfl
theorem nc_zip4 (a b c d : Value) : checkBuiltinCall "zip.__new__" ⟨[.type "zip", a, b, c, d], []⟩ = pure () := by kernel_rfl
theorem ao_zip4 (obj a b c d : Value) : argsOk "object.__init__" ⟨[obj, a, b, c, d], []⟩ := by unfold argsOk; kernel_rfl
theorem meets_zip4 {v1 v2 v3 v4 : Value} {o1 o2 o3 o4 : Obj} {H1 H2 H3 H4 : Heap → Prop} (B1 : Begins v1 o1 H1) (B2 : Begins v2 o2 H2) (B3 : Begins v3 o3 H3) (B4 : Begins v4 o4 H4) :
    Meets (Builtin.«zip.__new__» ⟨[.type "zip", v1, v2, v3, v4], []⟩) (fun _ R s => (H1 s.heap ∧ H2 s.heap ∧ H3 s.heap ∧ H4 s.heap) ∧
      R (.ok (.ret (.ref (zO4 s.heap o1 o2 o3 o4).objs.size))) { s with heap := zZ4 s.heap o1 o2 o3 o4 }) :=
  .of_wp fun prog w A R s h => by
    obtain ⟨hp, g, d, tk, os⟩ := s
    obtain ⟨⟨h1, h2, h3, h4⟩, h⟩ := h
    have hsub := sub_zip
    have q1 : ∀ {A' : Around} {E : Value → Shared → Prop} {Q : Value → Shared → Prop}, Q (.ref hp.objs.size) ⟨(hp.push o1), g, d, tk, os⟩ → wpAny (model prog w) A' (pyIter v1) Q E ⟨hp, g, d, tk, os⟩ :=
      fun q => B1.iter prog w _ _ ⟨hp, g, d, tk, os⟩ _ (B1.keeps _ _ h1 fun b o' e => e) q
    have q2 : ∀ {A' : Around} {E : Value → Shared → Prop} {Q : Value → Shared → Prop}, Q (.ref (hp.push o1).objs.size) ⟨((hp.push o1).push o2), g, d, tk, os⟩ → wpAny (model prog w) A' (pyIter v2) Q E ⟨(hp.push o1), g, d, tk, os⟩ :=
      fun q => B2.iter prog w _ _ ⟨(hp.push o1), g, d, tk, os⟩ _ (B2.keeps _ _ h2 fun b o' e => (Heap.get?_push_of_some _ e)) q
    have q3 : ∀ {A' : Around} {E : Value → Shared → Prop} {Q : Value → Shared → Prop}, Q (.ref ((hp.push o1).push o2).objs.size) ⟨(((hp.push o1).push o2).push o3), g, d, tk, os⟩ → wpAny (model prog w) A' (pyIter v3) Q E ⟨((hp.push o1).push o2), g, d, tk, os⟩ :=
      fun q => B3.iter prog w _ _ ⟨((hp.push o1).push o2), g, d, tk, os⟩ _ (B3.keeps _ _ h3 fun b o' e => (Heap.get?_push_of_some _ (Heap.get?_push_of_some _ e))) q
    have q4 : ∀ {A' : Around} {E : Value → Shared → Prop} {Q : Value → Shared → Prop}, Q (.ref (((hp.push o1).push o2).push o3).objs.size) ⟨((((hp.push o1).push o2).push o3).push o4), g, d, tk, os⟩ → wpAny (model prog w) A' (pyIter v4) Q E ⟨(((hp.push o1).push o2).push o3), g, d, tk, os⟩ :=
      fun q => B4.iter prog w _ _ ⟨(((hp.push o1).push o2).push o3), g, d, tk, os⟩ _ (B4.keeps _ _ h4 fun b o' e => (Heap.get?_push_of_some _ (Heap.get?_push_of_some _ (Heap.get?_push_of_some _ e)))) q
    wp_walk using q1, q2, q3, q4
    exact ⟨_, rfl, h⟩
section
variable {prog : Program} {w : World} {A : Around} {E : Value → Shared → Prop} {s : Shared}
/-- the iterators, beside what they walk -/
def iaOf (N : Nat) : List Addr → List (Addr × Addr)
  | [] => []
  | a :: as => (N, a) :: iaOf (N + 1) as
theorem zip_beg1 {a : Addr} {its : Array Value} {Q : Value → Shared → Prop} (h1 : s.heap.IsTuple a its)
    (h : ∀ h', IsZ h' (s.heap.objs.size + 3) (s.heap.objs.size + 1) (s.heap.objs.size + 2) .none (.bool false) → IsTp h' (s.heap.objs.size + 1) #[.ref s.heap.objs.size] → IsTp h' (s.heap.objs.size + 2) #[.none] → h'.get? s.heap.objs.size = some (tupIt a) →
      (∀ c o, s.heap.get? c = some o → h'.get? c = some o) → Q (.ref (s.heap.objs.size + 3)) { s with heap := h' }) :
    wpAny (model prog w) A (call (.type "zip") [.ref a]) Q E s := by
  refine callType_new F.called_zip (by decide) (tc_zip1 _) (nc_zip1 _) (fun obj => ao_zip1 obj _) F.entry_zip_new (meets_zip1 (begins_tuple a its)) ⟨h1, ?_⟩
  have z1 : (s.heap.push (tupIt a)).objs.size = s.heap.objs.size + 1 := by rw [Heap.size_push]
  have zT : (zT1 s.heap (tupIt a)).objs.size = s.heap.objs.size + 2 := by rw [Heap.size_push, z1]
  have zO : (zO1 s.heap (tupIt a)).objs.size = s.heap.objs.size + 3 := by rw [Heap.size_push, zT]
  have gZ : (zZ1 s.heap (tupIt a)).get? (zO1 s.heap (tupIt a)).objs.size = some { cls := .type "zip", data := .fields #[.none, .bool false, .bool false, .ref (s.heap.push (tupIt a)).objs.size, .ref (zT1 s.heap (tupIt a)).objs.size] } := Heap.get?_push_size _ rfl
  have gO : (zZ1 s.heap (tupIt a)).get? (zT1 s.heap (tupIt a)).objs.size = some { cls := .type "tuple", data := .seq #[.none] } := Heap.get?_push_of_some _ (Heap.get?_push_size _ rfl)
  have gT : (zZ1 s.heap (tupIt a)).get? (s.heap.push (tupIt a)).objs.size = some { cls := .type "tuple", data := .seq #[.ref s.heap.objs.size] } := Heap.get?_push_of_some _ (Heap.get?_push_of_some _ (Heap.get?_push_size _ rfl))
  have g1 : (zZ1 s.heap (tupIt a)).get? s.heap.objs.size = some (tupIt a) := Heap.get?_push_of_some _ (Heap.get?_push_of_some _ (Heap.get?_push_of_some _ (Heap.get?_push_size _ rfl)))
  rw [zO, zT, z1] at gZ
  rw [zT] at gO
  rw [z1] at gT
  show _ ∧ _
  rw [zO]
  exact ⟨⟨_, gZ, rfl⟩, h _ gZ gT gO g1 fun c o e => Heap.get?_push_of_some _ (Heap.get?_push_of_some _ (Heap.get?_push_of_some _ (Heap.get?_push_of_some _ e)))⟩
theorem zip_beg4 {v1 v2 v3 v4 : Value} {o1 o2 o3 o4 : Obj} {H1 H2 H3 H4 : Heap → Prop} {Q : Value → Shared → Prop} (B1 : Begins v1 o1 H1) (B2 : Begins v2 o2 H2) (B3 : Begins v3 o3 H3) (B4 : Begins v4 o4 H4) (h1 : H1 s.heap) (h2 : H2 s.heap) (h3 : H3 s.heap) (h4 : H4 s.heap)
    (h : ∀ h', IsZ h' (s.heap.objs.size + 6) (s.heap.objs.size + 4) (s.heap.objs.size + 5) .none (.bool false) → IsTp h' (s.heap.objs.size + 4) #[.ref s.heap.objs.size, .ref (s.heap.objs.size + 1), .ref (s.heap.objs.size + 2), .ref (s.heap.objs.size + 3)] → IsTp h' (s.heap.objs.size + 5) #[.none, .none, .none, .none] →
      h'.get? s.heap.objs.size = some o1 → h'.get? (s.heap.objs.size + 1) = some o2 → h'.get? (s.heap.objs.size + 2) = some o3 → h'.get? (s.heap.objs.size + 3) = some o4 →
      (∀ c o, s.heap.get? c = some o → h'.get? c = some o) → Q (.ref (s.heap.objs.size + 6)) { s with heap := h' }) :
    wpAny (model prog w) A (call (.type "zip") [v1, v2, v3, v4]) Q E s := by
  refine callType_new F.called_zip (by decide) (tc_zip4 _ _ _ _) (nc_zip4 _ _ _ _) (fun obj => ao_zip4 obj _ _ _ _) F.entry_zip_new (meets_zip4 B1 B2 B3 B4) ⟨⟨h1, h2, h3, h4⟩, ?_⟩
  have f1 := B1.free
  have f2 := B2.free
  have f3 := B3.free
  have f4 := B4.free
  have z1 : (s.heap.push o1).objs.size = s.heap.objs.size + 1 := by rw [Heap.size_push]
  have z2 : ((s.heap.push o1).push o2).objs.size = s.heap.objs.size + 2 := by rw [Heap.size_push, z1]
  have z3 : (((s.heap.push o1).push o2).push o3).objs.size = s.heap.objs.size + 3 := by rw [Heap.size_push, z2]
  have z4 : ((((s.heap.push o1).push o2).push o3).push o4).objs.size = s.heap.objs.size + 4 := by rw [Heap.size_push, z3]
  have zT : (zT4 s.heap o1 o2 o3 o4).objs.size = s.heap.objs.size + 5 := by rw [Heap.size_push, z4]
  have zO : (zO4 s.heap o1 o2 o3 o4).objs.size = s.heap.objs.size + 6 := by rw [Heap.size_push, zT]
  have gZ : (zZ4 s.heap o1 o2 o3 o4).get? (zO4 s.heap o1 o2 o3 o4).objs.size = some { cls := .type "zip", data := .fields #[.none, .bool false, .bool false, .ref ((((s.heap.push o1).push o2).push o3).push o4).objs.size, .ref (zT4 s.heap o1 o2 o3 o4).objs.size] } := Heap.get?_push_size _ rfl
  have gO : (zZ4 s.heap o1 o2 o3 o4).get? (zT4 s.heap o1 o2 o3 o4).objs.size = some { cls := .type "tuple", data := .seq #[.none, .none, .none, .none] } := Heap.get?_push_of_some _ (Heap.get?_push_size _ rfl)
  have gT : (zZ4 s.heap o1 o2 o3 o4).get? ((((s.heap.push o1).push o2).push o3).push o4).objs.size = some { cls := .type "tuple", data := .seq #[.ref s.heap.objs.size, .ref (s.heap.push o1).objs.size, .ref ((s.heap.push o1).push o2).objs.size, .ref (((s.heap.push o1).push o2).push o3).objs.size] } := Heap.get?_push_of_some _ (Heap.get?_push_of_some _ (Heap.get?_push_size _ rfl))
  have g4 : (zZ4 s.heap o1 o2 o3 o4).get? (((s.heap.push o1).push o2).push o3).objs.size = some o4 := Heap.get?_push_of_some _ (Heap.get?_push_of_some _ (Heap.get?_push_of_some _ (Heap.get?_push_size _ f4)))
  have g3 : (zZ4 s.heap o1 o2 o3 o4).get? ((s.heap.push o1).push o2).objs.size = some o3 := Heap.get?_push_of_some _ (Heap.get?_push_of_some _ (Heap.get?_push_of_some _ (Heap.get?_push_of_some _ (Heap.get?_push_size _ f3))))
  have g2 : (zZ4 s.heap o1 o2 o3 o4).get? (s.heap.push o1).objs.size = some o2 := Heap.get?_push_of_some _ (Heap.get?_push_of_some _ (Heap.get?_push_of_some _ (Heap.get?_push_of_some _ (Heap.get?_push_of_some _ (Heap.get?_push_size _ f2)))))
  have g1 : (zZ4 s.heap o1 o2 o3 o4).get? s.heap.objs.size = some o1 := Heap.get?_push_of_some _ (Heap.get?_push_of_some _ (Heap.get?_push_of_some _ (Heap.get?_push_of_some _ (Heap.get?_push_of_some _ (Heap.get?_push_of_some _ (Heap.get?_push_size _ f1))))))
  rw [zO, zT, z4] at gZ
  rw [zT] at gO
  rw [z4, z3, z2, z1] at gT
  rw [z1] at g2
  rw [z2] at g3
  rw [z3] at g4
  show _ ∧ _
  rw [zO]
  exact ⟨⟨_, gZ, rfl⟩, h _ gZ gT gO g1 g2 g3 g4 fun c o e => Heap.get?_push_of_some _ (Heap.get?_push_of_some _ (Heap.get?_push_of_some _ (Heap.get?_push_of_some _ (Heap.get?_push_of_some _ (Heap.get?_push_of_some _ (Heap.get?_push_of_some _ e))))))⟩
end
end WV
end
section
set_option maxRecDepth 100000
set_option maxHeartbeats 4000000
namespace WV
open PySem PySem.Spec PyProof.Rows L2
theorem iaOf_snd : ∀ (N : Nat) (as : List Addr), (iaOf N as).map (fun e => e.2) = as
  | _, [] => rfl
  | N, a :: as => by
    show a :: (iaOf (N + 1) as).map (fun e => e.2) = _
    rw [iaOf_snd]
theorem iaOf_len : ∀ (N : Nat) (as : List Addr), (iaOf N as).length = as.length
  | _, [] => rfl
  | N, a :: as => congrArg Nat.succ (iaOf_len (N + 1) as)
theorem iaOf_mem : ∀ (N : Nat) (as : List Addr) (e : Addr × Addr), e ∈ iaOf N as → N ≤ e.1 ∧ e.1 < N + as.length ∧ e.2 ∈ as
  | _, [], e, h => by cases h
  | N, a :: as, e, h => by
    rcases List.mem_cons.mp h with rfl | h
    · exact ⟨Nat.le_refl _, Nat.lt_add_of_pos_right (Nat.succ_pos _), List.mem_cons_self⟩
    · obtain ⟨h1, h2, h3⟩ := iaOf_mem (N + 1) as e h
      have hh : (a :: as).length = as.length + 1 := rfl
      refine ⟨Nat.le_of_succ_le h1, ?_, List.mem_cons_of_mem _ h3⟩
      rw [hh]
      have : N + 1 + as.length = N + (as.length + 1) := by omega
      rw [← this]
      exact h2
theorem iaOf_nd : ∀ (N : Nat) (as : List Addr), ((iaOf N as).map fun e => e.1).Nodup
  | _, [] => .nil
  | N, a :: as => by
    show (N :: (iaOf (N + 1) as).map fun e => e.1).Nodup
    refine List.nodup_cons.mpr ⟨fun h => ?_, iaOf_nd (N + 1) as⟩
    obtain ⟨e, he, q⟩ := List.mem_map.mp h
    have h1 := (iaOf_mem (N + 1) as e he).1
    rw [q] at h1
    exact absurd h1 (Nat.not_succ_le_self _)
theorem nn1 {a N k : Nat} (h : a < N + k) : a ≠ N + k + 2 ∧ a ≠ N + k ∧ a ≠ N + k + 1 := by omega
theorem nn2 {a N k : Nat} (h : a < N) : a ≠ N + k + 2 ∧ a ≠ N + k + 1 := by omega
theorem nn3 {a b N : Nat} (h : a < N) (h2 : N ≤ b) : a ≠ b := by omega
theorem nn4 {N k : Nat} : N + k ≠ N + k + 2 ∧ N + k + 1 ≠ N + k + 2 ∧ N + k ≠ N + k + 1 := by omega
theorem nn5 {N k : Nat} : N ≤ N + k + 2 ∧ N ≤ N + k ∧ N ≤ N + k + 1 := by omega
theorem iaOf_sep {N : Nat} {as : List Addr} (h : ∀ a ∈ as, a < N) : ZSp (N + as.length + 2) (N + as.length) (N + as.length + 1) (iaOf N as) :=
  ⟨nn4.1, nn4.2.1, nn4.2.2, fun e he => nn1 (iaOf_mem N as e he).2.1, fun e he => nn2 (h _ (iaOf_mem N as e he).2.2), fun e he e' he' => nn3 (h _ (iaOf_mem N as e he).2.2) (iaOf_mem N as e' he').1, iaOf_nd N as⟩
section
variable {prog : Program} {w : World} {A : Around} {E : Value → Shared → Prop} {s : Shared}
theorem zip_begN {Q : Value → Shared → Prop} : ∀ (as : List Addr) (h1 : 1 ≤ as.length) (h4 : as.length ≤ 4) (ht : ∀ a ∈ as, ∃ its, s.heap.IsTuple a its)
    (h : ∀ h', ZS0 h' (s.heap.objs.size + as.length + 2) (s.heap.objs.size + as.length) (s.heap.objs.size + as.length + 1) (iaOf s.heap.objs.size as) 0 → (∀ c o, s.heap.get? c = some o → h'.get? c = some o) → Q (.ref (s.heap.objs.size + as.length + 2)) { s with heap := h' }),
    wpAny (model prog w) A (call (.type "zip") (as.map Value.ref)) Q E s
  | [a], _, _, ht, h => by
    obtain ⟨i1, t1⟩ := ht a (by simp)
    refine zip_beg1 t1 fun h' hz hT hO g1 hk => h h' ⟨⟨_, _, .inl rfl, .inl rfl, hz⟩, hT, ⟨_, rfl, hO⟩, fun e he => ?_⟩ hk
    rcases List.mem_cons.mp he with rfl | he
    · exact ⟨_, g1, rfl, rfl⟩
    · cases he
  | [a, b], _, _, ht, h => by
    obtain ⟨i1, t1⟩ := ht a (by simp)
    obtain ⟨i2, t2⟩ := ht b (by simp)
    refine zip_begins2 (begins_tuple a i1) (begins_tuple b i2) t1 t2 fun h' hz hT hO g1 g2 _ hk => h h' ⟨⟨_, _, .inl rfl, .inl rfl, hz⟩, hT, ⟨_, rfl, hO⟩, fun e he => ?_⟩ hk
    rcases List.mem_cons.mp he with rfl | he
    · exact ⟨_, g1, rfl, rfl⟩
    · rcases List.mem_cons.mp he with rfl | he
      · exact ⟨_, g2, rfl, rfl⟩
      · cases he
  | [a, b, c], _, _, ht, h => by
    obtain ⟨i1, t1⟩ := ht a (by simp)
    obtain ⟨i2, t2⟩ := ht b (by simp)
    obtain ⟨i3, t3⟩ := ht c (by simp)
    refine zip_begins3 (begins_tuple a i1) (begins_tuple b i2) (begins_tuple c i3) t1 t2 t3 fun h' hz hT hO g1 g2 g3 _ hk => h h' ⟨⟨_, _, .inl rfl, .inl rfl, hz⟩, hT, ⟨_, rfl, hO⟩, fun e he => ?_⟩ hk
    rcases List.mem_cons.mp he with rfl | he
    · exact ⟨_, g1, rfl, rfl⟩
    · rcases List.mem_cons.mp he with rfl | he
      · exact ⟨_, g2, rfl, rfl⟩
      · rcases List.mem_cons.mp he with rfl | he
        · exact ⟨_, g3, rfl, rfl⟩
        · cases he
  | [a, b, c, d], _, _, ht, h => by
    obtain ⟨i1, t1⟩ := ht a (by simp)
    obtain ⟨i2, t2⟩ := ht b (by simp)
    obtain ⟨i3, t3⟩ := ht c (by simp)
    obtain ⟨i4, t4⟩ := ht d (by simp)
    refine zip_beg4 (begins_tuple a i1) (begins_tuple b i2) (begins_tuple c i3) (begins_tuple d i4) t1 t2 t3 t4 fun h' hz hT hO g1 g2 g3 g4 hk => h h' ⟨⟨_, _, .inl rfl, .inl rfl, hz⟩, hT, ⟨_, rfl, hO⟩, fun e he => ?_⟩ hk
    rcases List.mem_cons.mp he with rfl | he
    · exact ⟨_, g1, rfl, rfl⟩
    · rcases List.mem_cons.mp he with rfl | he
      · exact ⟨_, g2, rfl, rfl⟩
      · rcases List.mem_cons.mp he with rfl | he
        · exact ⟨_, g3, rfl, rfl⟩
        · rcases List.mem_cons.mp he with rfl | he
          · exact ⟨_, g4, rfl, rfl⟩
          · cases he
  | [], h1, _, _, _ => by simp at h1
  | _ :: _ :: _ :: _ :: _ :: _, _, h4, _, _ => by simp at h4
end
theorem callWith_zipS {M : Model} {A : Around} {E : Value → Shared → Prop} {s : Shared} {K : PySem.W.Frag} {env : Env} {pos p : Pos} {first : List Value} {Q : Value → Shared → Prop} {e : Expr} (h : wpAny M A (eval e env) (fun v s₁ => PySem.W.StarOf M A E v (fun vs s₂ => K.In s₂.heap ∧ wpAny M A (call (.type "zip") (first ++ vs)) Q E s₂) s₁) E s)
    (he : starEach [.Starred e p] env = [(true, eval e env)] := by rfl) :
    wpAny M A (callWith pos (.type "zip") first (backTo pos (starEach [.Starred e p] env)) []) Q E s := by
  rw [he]
  exact PySem.W.ks_call (P := fun h => K.In h) rfl (fun h _ => ⟨.machine, .inr (.inl rfl), fun A Q E s _ q => wpAny_pure q⟩) (PySem.W.ks_lone h)
def iZn (K : PySem.W.Frag) (te : TE) : TI := fun σ H R => te σ H fun x H1 => ∃ (p : Addr) (as : List Addr), x = .ref p ∧ SqL K H1 p (as.map V.ref) ∧ (1 ≤ as.length ∧ as.length ≤ 4) ∧ (∀ a ∈ as, ∃ xs, SqT K H1 a xs) ∧ R (ItZn K as) H1
theorem pi_zipStar {X : Cx} {e : Expr} {te : TE} {p pos sp px : Pos} {x : Str} (hg : Gl X "zip") (hm : X.mg "zip" = none) (he : PE X e te)
    (hst : starEach [.Starred e sp] X.env = [(true, eval e X.env)] := by rfl) :
    PI X (.Name x px) (.Call (.Name "zip" p) [.Starred e sp] [] pos) (iZn X.K te) := by
  refine ⟨fun pins s σ H R I h => Call_ (ld_blt I hg hm bt_zip (callWith_zipS (K := X.K) (thn (he.run pins s σ H _ I h) fun v s1 ⟨y, H1, I1, ry, q1⟩ => ?_) hst))⟩
  obtain ⟨p, as, rfl, hp, ⟨n1, n4⟩, ht, q⟩ := q1
  obtain rfl : v = Value.ref p := ry
  refine StX.star_any I1 (.inr hp) fun us s2 I2 rv => ⟨I2.kIn, ?_⟩
  have eu : us = as.map Value.ref := by
    have : ∀ (as : List Addr) (us : List Value), Vals (as.map V.ref) us → us = as.map Value.ref := fun as => by
      induction as with
      | nil => intro us h; cases h; rfl
      | cons a as ih =>
        intro us h
        cases h with
        | cons h1 h2 =>
          cases h1
          rw [ih _ h2]
          rfl
    exact this as us rv
  subst eu
  have lt : ∀ a ∈ as, ∃ its, s2.heap.IsTuple a its := fun a ha => by
    obtain ⟨xs, hx⟩ := ht a ha
    obtain ⟨its, _, q, _⟩ := I2.tuple hx
    exact ⟨_, q⟩
  refine zip_begN as n1 n4 lt fun h' hZ hk => ?_
  obtain ⟨f0, f1, _, _, hz⟩ := hZ.zr
  have hT : ({ s2 with heap := h' } : Shared).TypeIs (.ref (s2.heap.objs.size + as.length + 2)) "zip" := ⟨_, hz, rfl⟩
  refine wpAny_pyIter_slot hT F.slot_zip_iter (wpAny_call_entry F.slot_zip_iter hT F.entry_zip_iter ?_ (F.args_zip_iter_1 _))
  show wpAny _ _ (ret (.ref (s2.heap.objs.size + as.length + 2))) _ _ _
  refine wpAny_pure ⟨_, rfl, "zip", _, hT, F.slot_zip_next.lookup, ?_⟩
  have S := iaOf_sep (N := s2.heap.objs.size) (as := as) fun a ha => by
    obtain ⟨its, o, e, _⟩ := lt a ha
    exact Heap.lt_size e
  have T := turn_zipN (P := X.prog) (w := X.w) (K := X.K) (x := x) (px := px) S (by
    intro e
    have := iaOf_len s2.heap.objs.size as
    rw [e] at this
    rw [← this] at n1
    simp at n1) (by rw [iaOf_len]; omega)
  rw [iaOf_snd] at T
  refine ⟨_, _, _, _, H1, rfl, I2.kept (t' := s2.toks) hk, T, hZ, fun b hb => ?_, q⟩
  have hle : s2.heap.objs.size ≤ b := by
    rcases List.mem_cons.mp hb with rfl | hb
    · exact nn5.1
    · rcases List.mem_cons.mp hb with rfl | hb
      · exact nn5.2.1
      · rcases List.mem_cons.mp hb with rfl | hb
        · exact nn5.2.2
        · obtain ⟨e, he, rfl⟩ := List.mem_map.mp hb
          exact (iaOf_mem _ _ e he).1
  exact I2.fpOk hle (I2.hok.fresh hle)
end WV
end
section
set_option maxRecDepth 100000
set_option maxHeartbeats 4000000
namespace WV
open PySem PySem.Spec PyProof.Rows L2
def colS (ts : List (List Int)) (m : Nat) : List Int := (List.range m).map fun i => (ts.map fun ns => ns.getD i 0).sum
section
variable {P : Program} {w : World} {K : PySem.W.Frag} {mg : Str → Option Value} {base : Heap}
theorem rows_at {H : Hp} {xs : List V} {ts : List (List Int)} (hx : RpA K H xs (rowD ts)) : ∃ as : List Addr, xs = as.map V.ref ∧ as.length = ts.length ∧ ∀ (j : Nat) a, as[j]? = some a → ∃ ns, ts[j]? = some ns ∧ SqT K H a (ns.map V.int) := by
  have lx : xs.length = ts.length := by rw [hx.len, rowD_len]
  have key : ∀ (i : Nat) x, xs[i]? = some x → ∃ ns b, ts[i]? = some ns ∧ x = .ref b ∧ SqT K H b (ns.map V.int) := fun i x hxi => by
    have hi := (List.getElem?_eq_some_iff.mp hxi).1
    have g1 := List.getElem?_eq_getElem (show i < ts.length by omega)
    obtain ⟨v, hv, hr3⟩ := hx.get (rowD_at g1)
    have e : v = x := Option.some.inj (hv.symm.trans hxi)
    subst e
    obtain ⟨b, rfl, hb⟩ := hr3.unTi
    exact ⟨_, b, g1, rfl, hb⟩
  refine ⟨xs.map fun v => match v with | .ref a => a | _ => 0, ?_, by rw [List.length_map, lx], fun j a ha => ?_⟩
  · refine List.ext_getElem? fun i => ?_
    rw [List.map_map, List.getElem?_map]
    cases h : xs[i]? with
    | none => rfl
    | some x =>
      obtain ⟨ns, b, _, rfl, _⟩ := key i x h
      rfl
  · rw [List.getElem?_map] at ha
    obtain ⟨x, hx1, rfl⟩ := Option.map_eq_some_iff.mp ha
    obtain ⟨ns, b, h1, rfl, h2⟩ := key j x hx1
    exact ⟨ns, h1, h2⟩
theorem sc_counts_added : FnScope ["rows", "column"] ["rows"] (defScope s_counts_added) := ⟨rfl, rfl, rfl, by decide +kernel, rfl, by decide +kernel, by decide +kernel⟩
def sp_counts_added (K : PySem.W.Frag) : Sp := fun vs H Q _ => ∃ (a : Addr) (xs : List V) (m : Nat) (ts : List (List Int)), vs = [.ref a] ∧ SqL K H a xs ∧ RpA K H xs (rowD ts) ∧ TOk m ts ∧ ts.length ≤ 4 ∧ ∀ H' D, Same H H' → H' D = some (.lst ((colS ts m).map V.int)) → Q (.ref D) H'
theorem ok_counts_added (t : T K mg) : Okf P w K mg base 1 ("counts_added", none) ["rows"] [] (sp_counts_added K) := by
  refine okf (d := d_counts_added) t 67 rfl rfl sc_counts_added (fun _ _ _ _ _ _ us hl => match us, hl with | [_], _ => rfl) (fun vs H Q E h => ?_) (fun cdv A outer s H vs Q E hr h => ?_)
  · obtain ⟨a, xs, m, ts, rfl, _⟩ := h
    rfl
  · obtain ⟨a, xs, m, ts, rfl, ha, hx, tok, h4, q⟩ := h
    refine ⟨_, (pss_one (ps_ret (pe_lc (own := [("column", 1)]) (g := gName 1) (tt := tYes) rfl sc_counts_added.nd (pi_zipStar (by rfl) t.b_zip (pv 0)) (blkOk_by (own := [("column", 1)]) (N := ["rows", "column"]) (sc := defScope s_counts_added) (by decide +kernel)) (fun _ _ _ _ _ => (pg_name (i := 1) sc_counts_added.nd rfl (.inl rfl))) (fun _ _ _ _ _ => pts_nil) (fun _ _ _ _ _ => (pe_callB (cr_sumTK (K := K) rfl rfl) (by rfl) t.b_sum bt_sum (pa_cons (pv 1) pa_nil)))))), ?_⟩
    have t1 := tok.ne
    have t4 := tok.many
    obtain ⟨as, rfl, las, hat⟩ := rows_at hx
    refine ⟨_, rfl, a, as, rfl, ha, ⟨by omega, by omega⟩, fun b hb => ?_, fun D hD => ?_⟩
    · obtain ⟨j, hj, rfl⟩ := List.getElem_of_mem hb
      obtain ⟨ns, _, h2⟩ := hat j _ (List.getElem?_eq_getElem hj)
      exact ⟨_, h2⟩
    have rowL : ∀ (j : Nat) ns, ts[j]? = some ns → ns.length = m := fun j ns h => (tok.row ns (List.mem_of_getElem? h)).1
    have wk : Walk (ItZn K as) m (fun H' => Same H H') (fun i H' v H'' => ∃ T, v = .ref T ∧ H' T = none ∧ H'' = upd H' T (.tup ((ts.map fun ns => ns.getD i 0).map V.int))) := by
      refine ⟨fun i H' hi s' => ⟨ts.map fun ns => ns.map V.int, by rw [List.length_map, las], fun j b zs hb hz => ?_⟩, fun H' s' => ⟨ts.map fun ns => ns.map V.int, by rw [List.length_map, las], fun j b zs hb hz => ?_⟩, fun i H' v H'' hi s' y => ?_⟩
      · obtain ⟨ns, h1, h2⟩ := hat j b hb
        rw [List.getElem?_map, h1] at hz
        injection hz with hz
        subst hz
        exact ⟨s'.tup h2, by rw [List.length_map, rowL j ns h1]; exact hi⟩
      · obtain ⟨ns, h1, h2⟩ := hat j b hb
        rw [List.getElem?_map, h1] at hz
        injection hz with hz
        subst hz
        exact ⟨s'.tup h2, by rw [List.length_map, rowL j ns h1]⟩
      · obtain ⟨T, vs, rfl, hT, rfl, lv, hv⟩ := y
        refine ⟨T, rfl, hT, ?_⟩
        have ev : vs = (ts.map fun ns => ns.getD i 0).map V.int := by
          refine List.ext_getElem? fun j => ?_
          by_cases hj : j < as.length
          · obtain ⟨ns, h1, h2⟩ := hat j _ (List.getElem?_eq_getElem hj)
            rw [hv j _ _ (List.getElem?_eq_getElem hj) (s'.tup h2), List.getElem?_map, List.getElem?_map, List.getElem?_map, h1]
            have h3 : i < ns.length := by rw [rowL j ns h1]; exact hi
            rw [List.getElem?_eq_getElem h3]
            show some (V.int ns[i]) = some (V.int (ns.getD i 0))
            rw [getD_at (List.getElem?_eq_getElem h3)]
          · rw [List.getElem?_eq_none (by omega), List.getElem?_eq_none (by rw [List.length_map, List.length_map]; omega)]
        rw [ev]
    refine lc_all (K := K) wk hD (by omega) (fun H' s' => s') (fun i => .v (.int ((ts.map fun ns => ns.getD i 0).sum))) (fun i => rfl) (fun i z H5 H6 hi s5 y Qk kq => ?_) (fun H5 ys s5 e r => ?_)
    · obtain ⟨T, rfl, hT, rfl⟩ := y
      exact ⟨rfl, _, rfl, T, _, rfl, SqT.of upd_same, kq _ _ (Same.new hT) (.v _)⟩
    · have e3 : (List.range m).map (fun i => Dat.v (.int ((ts.map fun ns => ns.getD i 0).sum))) = iD (colS ts m) := by
        unfold iD colS
        rw [List.map_map]
        rfl
      rw [e3] at r
      rw [r.unints] at e
      exact q H5 D s5 e
theorem sc_common : FnScope ["rows", "whole", "parts", "row"] ["rows"] (defScope s_common) := ⟨rfl, rfl, rfl, by decide +kernel, rfl, by decide +kernel, by decide +kernel⟩
/-- told as a Common just if one code is least for all rows -/
def sp_common (K : PySem.W.Frag) : Sp := fun vs H Q _ => ∃ (a : Addr) (xs : List V) (m : Nat) (ts : List (List Int)), vs = [.ref a] ∧ SqL K H a xs ∧ RpA K H xs (rowD ts) ∧ TOk m ts ∧ ts.length ≤ 4 ∧ m ≤ 16 ∧
  (lo (colS ts m) = (ts.map lo).sum → ∀ H' x dx fs, Same H H' → H' x = some (.ins (He.ga K "Common") dx fs) → Q (.ref x) H') ∧ (lo (colS ts m) ≠ (ts.map lo).sum → ∀ H' x dx fs, Same H H' → H' x = some (.ins (He.ga K "Apart") dx fs) → Q (.ref x) H')
theorem colS_len (ts : List (List Int)) (m : Nat) : (colS ts m).length = m := by
  unfold colS
  rw [List.length_map, List.length_range]
theorem sum_nonneg : ∀ {l : List Int}, (∀ x ∈ l, 0 ≤ x) → 0 ≤ l.sum
  | [], _ => Int.le_refl _
  | x :: l, h => by
    rw [List.sum_cons]
    have := h x List.mem_cons_self
    have := sum_nonneg fun y hy => h y (List.mem_cons_of_mem _ hy)
    omega
theorem colS_pos {ts : List (List Int)} {m : Nat} (tok : TOk m ts) : ∀ x ∈ colS ts m, 0 ≤ x := fun x hx => by
  unfold colS at hx
  obtain ⟨i, hi, rfl⟩ := List.mem_map.mp hx
  refine sum_nonneg fun y hy => ?_
  obtain ⟨ns, hns, rfl⟩ := List.mem_map.mp hy
  have hi2 : i < ns.length := by
    rw [(tok.row ns hns).1]
    exact List.mem_range.mp hi
  show 0 ≤ ns.getD i 0
  rw [getD_at (List.getElem?_eq_getElem hi2)]
  exact (tok.row ns hns).2 _ (List.getElem_mem hi2)
theorem ok_common (t : T K mg) : Okf P w K mg base 8 ("common", none) ["rows"] [] (sp_common K) := by
  have O_check_tallies := ok_check_tallies (P := P) (w := w) (base := base) t
  have O_counts_added := ok_counts_added (P := P) (w := w) (base := base) t
  have O_least_of := ok_least_of (P := P) (w := w) (base := base) t
  have O_lengths_for := ok_lengths_for (P := P) (w := w) (base := base) t
  have O_Code_init := ok_Code1 (P := P) (w := w) (base := base) t
  have O_Common_init := ok_Common (P := P) (w := w) (base := base) t
  have O_Apart_init := ok_Apart (P := P) (w := w) (base := base) t
  refine okf (d := d_common) t 71 rfl rfl sc_common (fun _ _ _ _ _ _ us hl => match us, hl with | [_], _ => rfl) (fun vs H Q E h => ?_) (fun cdv A outer s H vs Q E hr h => ?_)
  · obtain ⟨a, xs, m, ts, rfl, _⟩ := h
    rfl
  · obtain ⟨a, xs, m, ts, rfl, ha, hx, tok, h4, hm, q1, q2⟩ := h
    refine ⟨_, (pss_cons (ps_expr (pe_f O_check_tallies (hr.mono (by decide)) t.g_check_tallies (pa_cons (pv 0) pa_nil)))
      (pss_cons (ps_par (i := 1) (j := 2) rfl sc_common.nd rfl rfl (by decide) rfl rfl (pa_cons (pe_f O_counts_added (hr.mono (by decide)) t.g_counts_added (pa_cons (pv 0) pa_nil)) (pa_cons (pe_lc (own := [("row", 3)]) (g := gName 3) (tt := tYes) rfl sc_common.nd (pi_list (pv 0)) (blkOk_by (own := [("row", 3)]) (N := ["rows", "whole", "parts", "row"]) (sc := defScope s_common) (by decide +kernel)) (fun _ _ _ _ _ => (pg_name (i := 3) sc_common.nd rfl (.inl rfl))) (fun _ _ _ _ _ => pts_nil) (fun _ _ _ _ _ => (pe_f O_least_of (hr.mono (by decide)) t.g_least_of (pa_cons (pv 3) pa_nil)))) pa_nil)) (by rfl))
      (pss_cons (ps_if (pt_cmpR op_eq (pe_f O_least_of (hr.mono (by decide)) t.g_least_of (pa_cons (pv 1) pa_nil)) (pe_callB (cr_sum rfl) (by rfl) t.b_sum bt_sum (pa_cons (pv 2) pa_nil)) (nomark _))
        (pss_one (ps_ret (pe_mkf O_Common_init t.m_Common (hr.mono (by decide)) t.g_Common (pa_cons (pv 0) (pa_cons (pe_mkf O_Code_init t.m_Code (hr.mono (by decide)) t.g_Code (pa_cons (pe_f O_lengths_for (hr.mono (by decide)) t.g_lengths_for (pa_cons (pv 1) pa_nil)) pa_nil)) pa_nil)))))
        pss_nil)
      (pss_one (ps_ret (pe_mkf O_Apart_init t.m_Apart (hr.mono (by decide)) t.g_Apart (pa_cons (pv 0) (pa_cons (pe_f O_least_of (hr.mono (by decide)) t.g_least_of (pa_cons (pv 1) pa_nil)) (pa_cons (pv 2) pa_nil))))))))), ?_⟩
    have t1 := tok.ne
    have t2 := tok.two
    have t4 := tok.many
    have lc := colS_len ts m
    have pc := colS_pos tok
    have lx : xs.length = ts.length := by rw [hx.len, rowD_len]
    refine ⟨_, rfl, a, xs, m, ts, rfl, ha, hx, tok, fun H1 s1 => ?_⟩
    refine ⟨_, rfl, a, xs, m, ts, rfl, s1.seq ha, hx.mono s1, tok, h4, fun H2 D s2 eD => ?_⟩
    have s12 := s1.trans s2
    refine ⟨_, rfl, a, rfl, ⟨_, s12.seq ha⟩, fun D2 hD2 => ?_⟩
    refine lc_all (K := K) (walk_list (xs := xs)) hD2 (by omega) (fun H' s3 => (s12.trans s3).seq ha) (fun i => .v (.int ((ts.map lo).getD i 0))) (fun i => rfl) (fun i z H5 H6 hi s5 y Qk kq => ?_) (fun H3 ys s3 e r => ?_)
    · obtain ⟨rfl, hxi⟩ := y
      have g1 := List.getElem?_eq_getElem (show i < ts.length by omega)
      obtain ⟨v, hv, hr3⟩ := hx.get (rowD_at g1)
      have ev : v = z := Option.some.inj (hv.symm.trans hxi)
      subst ev
      obtain ⟨b, rfl, hb⟩ := hr3.unTi
      obtain ⟨r1, r2⟩ := tok.row _ (List.getElem_mem (show i < ts.length by omega))
      refine ⟨rfl, _, rfl, b, _, rfl, .inr ((s12.trans s5).tup hb), ⟨by omega, by omega⟩, r2, fun H7 s7 => kq _ _ s7 ?_⟩
      have : (ts.map lo)[i]? = some (lo ts[i]) := by
        rw [List.getElem?_map, g1]
        rfl
      rw [getD_at this]
      exact .v _
    · have e3 : (List.range xs.length).map (fun i => Dat.v (.int ((ts.map lo).getD i 0))) = iD (ts.map lo) := by
        unfold iD
        conv => rhs; rw [← range_get (xs := ts.map lo) (fun i => (ts.map lo).getD i 0) fun i x hx => getD_at hx]
        rw [List.map_map, List.length_map, lx]
        rfl
      rw [e3] at r
      rw [r.unints] at e
      have s13 := s12.trans s3
      refine ⟨_, _, rfl, _, rfl, D, colS ts m, rfl, .inl (SqL.of (s3 _ _ eD)), ⟨by omega, by omega⟩, pc, fun H4 s4 => ?_⟩
      have e4 := s4 _ _ e
      have eD4 := s4 _ _ (s3 _ _ eD)
      have s14 := s13.trans s4
      refine ⟨_, rfl, D2, _, rfl, SqL.of e4, rfl, _, rfl, ?_⟩
      have fz : ∀ H', FzOk K H' 3 (.L (rowD ts)) := fun H' => by
        refine .L (by rw [rowD_len]; omega) fun d hd => ?_
        obtain ⟨ns, hns, rfl⟩ := List.mem_map.mp hd
        have := (tok.row ns hns).1
        refine .T (by unfold iD; rw [List.length_map]; omega) fun d hd => ?_
        obtain ⟨z, _, rfl⟩ := List.mem_map.mp hd
        exact .v (.inl ⟨_, rfl⟩)
      by_cases c : lo (colS ts m) = (ts.map lo).sum
      · rw [show decide (V.int (lo (colS ts m)) = V.int ((ts.map lo).sum)) = true from decide_eq_true (by rw [c])]
        refine iteT ⟨_, rfl, _, rfl, D, colS ts m, rfl, .inl (SqL.of eD4), ⟨by omega, by omega⟩, pc, fun H5 D5 s5 e5 => ?_⟩
        intro y dy hy hdy hney
        have sN : Same H5 (upd (upd H5 dy (.own y)) y (.ins (He.ga K "Code") dy [])) := (Same.new hdy).mut hy
        refine ⟨y, dy, D5, _, hgI (colS ts m), canonF (hgI (colS ts m)), rfl, upd_same, sN.seq (SqL.of e5), ?_, fun l h => ?_, ?_, .inl ⟨rfl, rfl⟩, fun H6 s6 hc => ⟨rfl, ?_⟩⟩
        · rw [hgI_len]
          omega
        · have := hgI_bnd (by omega) pc l h
          omega
        · rw [hgI_nat]
          exact (hg_ok (by omega) pc).1
        · have s16 := (s14.trans s5).trans (s6.same hy sN)
          intro x dx hx2 hdx hne
          have sM : Same H6 (upd (upd H6 dx (.own x)) x (.ins (He.ga K "Common") dx [])) := (Same.new hdx).mut hx2
          exact ⟨x, dx, .ref a, _, _, H6, rfl, upd_same, sM, hx2, .L (s16.seq ha) (hx.mono s16), fz _, fun H8 fs s8 e8 => ⟨rfl, q1 c H8 x dx fs (s16.trans (s8.same hx2 sM)) e8⟩⟩
      · rw [show decide (V.int (lo (colS ts m)) = V.int ((ts.map lo).sum)) = false from decide_eq_false (fun h => c (by injection h))]
        refine iteF ⟨_, rfl, _, rfl, D, colS ts m, rfl, .inl (SqL.of eD4), ⟨by omega, by omega⟩, pc, fun H5 s5 => ?_⟩
        refine ⟨_, rfl, fun x dx hx2 hdx hne => ?_⟩
        have s15 := s14.trans s5
        have sM : Same H5 (upd (upd H5 dx (.own x)) x (.ins (He.ga K "Apart") dx [])) := (Same.new hdx).mut hx2
        refine ⟨x, dx, .ref a, _, .ref D2, _, .L (iD (ts.map lo)), H5, rfl, upd_same, sM, hx2, .L (s15.seq ha) (hx.mono s15), fz _, .L (SqL.of (s5 _ _ e4)) (.ints _), ?_, fun H8 fs s8 e8 => ⟨rfl, q2 c H8 x dx fs (s15.trans (s8.same hx2 sM)) e8⟩⟩
        refine .L (by unfold iD; rw [List.length_map, List.length_map]; omega) fun d hd => ?_
        obtain ⟨z, _, rfl⟩ := List.mem_map.mp hd
        exact .v (.inl ⟨_, rfl⟩)
end
end WV
end
section
set_option maxRecDepth 100000
set_option maxHeartbeats 4000000
namespace WV
open PySem PySem.Spec PyProof.Rows L2
/-! ### rules as they stand -/
abbrev Row := List (Key × Int)
def rowP (r : Row) : List Dat := r.map fun p => .T [.v (kV p.1), .v (.int p.2)]
def rowT (k : Bool) (r : Row) : Dat := if k = true then .L (rowP r) else .T (rowP r)
section
variable {K : PySem.W.Frag} {H : Hp}
theorem SqL.updK {a d : Addr} {xs : List V} {kvs : List (Key × V)} {o : HO} (hd : H d = some (.dK kvs)) (h : SqL K H a xs) : SqL K (upd H d o) a xs := by
  rcases h with (h | ⟨u, h⟩) | h
  · refine .inl (.inl ?_)
    rw [upd_ne (ne_of h hd (by intro z; cases z))]
    exact h
  · refine .inl (.inr ⟨u, ?_⟩)
    rw [upd_ne (ne_of h hd (by intro z; cases z))]
    exact h
  · exact .inr h
mutual
theorem Rp.updK {d : Addr} {kvs : List (Key × V)} {o : HO} (hd : H d = some (.dK kvs)) : ∀ {v : V} {e : Dat}, Rp K H v e → Rp K (upd H d o) v e
  | _, .v _, .v _ => .v _
  | _, .L _, .L q r => .L (SqL.updK hd q) (RpA.updK hd r)
  | _, .T _, .T q r => .T (SqT.updD hd q) (RpA.updK hd r)
theorem RpA.updK {d : Addr} {kvs : List (Key × V)} {o : HO} (hd : H d = some (.dK kvs)) : ∀ {vs : List V} {es : List Dat}, RpA K H vs es → RpA K (upd H d o) vs es
  | _, [], .nil => .nil
  | _, _ :: _, .cons q r => .cons (Rp.updK hd q) (RpA.updK hd r)
end
theorem lock_same {H' : Hp} {d : Addr} {u : HO} {od : Obj} (hd : H d = some u) (s : Same (upd H d (.frz od u)) H') : Same H (upd H' d u) := fun b o h => by
  by_cases c : b = d
  · subst c
    rw [upd_same, ← hd, h]
  · rw [upd_ne c]
    refine s b o ?_
    rw [upd_ne c]
    exact h
theorem Rp.row {v : V} {k : Bool} {r : Row} (h : Rp K H v (rowT k r)) : ∃ a xs, v = .ref a ∧ SeqK k K H a xs ∧ RpA K H xs (rowP r) := by
  cases k with
  | true =>
    obtain ⟨a, xs, rfl, h1, h2⟩ := Rp.unL (ds := rowP r) h
    exact ⟨a, xs, rfl, h1, h2⟩
  | false =>
    obtain ⟨a, xs, rfl, h1, h2⟩ := Rp.unT (ds := rowP r) h
    exact ⟨a, xs, rfl, h1, h2⟩
theorem rowP_len (r : Row) : (rowP r).length = r.length := by
  unfold rowP
  rw [List.length_map]
theorem row_at {xs : List V} {r : Row} (h : RpA K H xs (rowP r)) {i : Nat} {x : V} (hx : xs[i]? = some x) : ∃ p b, r[i]? = some p ∧ x = .ref b ∧ SqT K H b [kV p.1, .int p.2] := by
  have hi := (List.getElem?_eq_some_iff.mp hx).1
  have hl := h.len
  rw [rowP_len] at hl
  have g1 := List.getElem?_eq_getElem (show i < r.length by omega)
  obtain ⟨v, hv, hr⟩ := h.get (i := i) (d := .T [.v (kV r[i].1), .v (.int r[i].2)]) (by unfold rowP; rw [List.getElem?_map, g1]; rfl)
  have e : v = x := Option.some.inj (hv.symm.trans hx)
  subst e
  obtain ⟨b, rfl, hb⟩ := two_un hr
  exact ⟨_, b, g1, rfl, hb⟩
abbrev Rules := List (Str × Row)
structure RulesAt (K : PySem.W.Frag) (H : Hp) (d : Addr) (k : Bool) (R : Rules) : Prop where
  ex : ∃ kvs, Rd H d (.dK kvs) ∧ kvs.map (fun p => p.1) = R.map (fun p => Sum.inr p.1) ∧ RpA K H (kvs.map fun p => p.2) (R.map fun p => rowT k p.2)
theorem RulesAt.mono {H' : Hp} {d : Addr} {k : Bool} {R : Rules} (e : Same H H') (h : RulesAt K H d k R) : RulesAt K H' d k R := by
  obtain ⟨kvs, h1, h2, h3⟩ := h.ex
  refine ⟨kvs, ?_, h2, h3.mono e⟩
  rcases h1 with h1 | ⟨o, h1⟩
  · exact .inl (e _ _ h1)
  · exact .inr ⟨o, e _ _ h1⟩
theorem RulesAt.get {d : Addr} {k : Bool} {R : Rules} (h : RulesAt K H d k R) (nd : (R.map fun p => p.1).Nodup) {i : Nat} {p : Str × Row} (hp : R[i]? = some p) : ∃ v, DGet H d (.str p.1) (some v) ∧ Rp K H v (rowT k p.2) := by
  obtain ⟨kvs, h1, h2, h3⟩ := h.ex
  have hi := (List.getElem?_eq_some_iff.mp hp).1
  have lk : kvs.length = R.length := by
    have := congrArg List.length h2
    rw [List.length_map, List.length_map] at this
    exact this
  have gk := List.getElem?_eq_getElem (show i < kvs.length by omega)
  obtain ⟨v, hv, hr⟩ := h3.get (i := i) (d := rowT k p.2) (by rw [List.getElem?_map, hp]; rfl)
  rw [List.getElem?_map, gk] at hv
  injection hv with hv
  have hv : kvs[i].2 = v := hv
  have ek : kvs[i].1 = Sum.inr p.1 := by
    have := congrArg (fun l => l[i]?) h2
    simp only [List.getElem?_map, gk, hp] at this
    injection this
  refine ⟨v, .inl ⟨kvs, .inr p.1, h1, rfl, ?_⟩, hr⟩
  have ndk : (kvs.map fun p => p.1).Nodup := by
    rw [h2]
    unfold List.Nodup at nd ⊢
    rw [List.pairwise_map] at nd ⊢
    exact nd.imp fun {a b} h e => h (by injection e)
  have key : ∀ (l : List (Key × V)) (i : Nat) (q : Key × V), (l.map fun p => p.1).Nodup → l[i]? = some q → valV l q.1 = some q.2 := fun l => by
    induction l with
    | nil => intro i q _ h; simp at h
    | cons a l ih =>
      intro i q hn h
      rw [List.map_cons, List.nodup_cons] at hn
      cases i with
      | zero =>
        simp at h
        subst h
        exact valV_pos rfl
      | succ i =>
        have h' : l[i]? = some q := by simpa using h
        have hne : ¬ a.1 = q.1 := fun e => hn.1 (by rw [e]; exact List.mem_map.mpr ⟨q, List.mem_of_getElem? h', rfl⟩)
        rw [valV_neg hne]
        exact ih i q hn.2 h'
  have := key kvs i kvs[i] ndk gk
  rw [ek, hv] at this
  exact this.symm
end
end WV
end
section
set_option maxRecDepth 100000
set_option maxHeartbeats 4000000
namespace WV
open PySem PySem.Spec PyProof.Rows L2
def capsL : List Nat := (Str.ofString "ABCDEFGHIJKLMNOPQRSTUVWXYZ").cps.toList
structure NameOk (s : Str) : Prop where
  one : 1 ≤ s.length
  eight : s.length ≤ 8
  caps : ∀ c ∈ s.cps.toList, c ∈ capsL
def partOk (n : Int) (R : Rules) : Key → Prop
  | .inl s => 0 ≤ s ∧ s < n
  | .inr nm => nm ∈ R.map fun p => p.1
structure ROk (n : Int) (R : Rules) : Prop where
  nd : (R.map fun p => p.1).Nodup
  name : ∀ p ∈ R, NameOk p.1
  row : ∀ p ∈ R, p.2.length ≤ 40 ∧ ∀ q ∈ p.2, (1 ≤ q.2 ∧ q.2 ≤ 1000000000000000000000000000000) ∧ partOk n R q.1
  acyc : ∃ rank : Str → Nat, ∀ p ∈ R, ∀ q ∈ p.2, ∀ nm, q.1 = .inr nm → rank nm < rank p.1
  ne : 1 ≤ R.length
  few : R.length ≤ 50
  signs : 1 ≤ n ∧ n ≤ 2000
def namesR (r : Row) : List Str := r.filterMap fun q => match q.1 with
  | .inl _ => none
  | .inr nm => some nm
theorem ty_key {K : PySem.W.Frag} {H : Hp} (k : Key) : TyX K H (kV k) (.type (match k with | .inl _ => "int" | .inr _ => "str")) := by
  cases k with
  | inl i => exact .base (.int i)
  | inr s => exact .base (.str s)
section
variable {P : Program} {w : World} {K : PySem.W.Frag} {mg : Str → Option Value} {base : Heap}
theorem sc_is_from : FnScope ["value", "least", "most"] ["value", "least", "most"] (defScope s_is_from) := ⟨rfl, rfl, rfl, by decide +kernel, rfl, by decide +kernel, by decide +kernel⟩
def sp_is_from : Sp := fun vs H Q _ => ∃ v a b : Int, vs = [.int v, .int a, .int b] ∧ (a ≤ v ∧ v ≤ b) ∧ Q (.bl true) H
theorem ok_is_from (t : T K mg) : Okf P w K mg base 1 ("is_from", none) ["value", "least", "most"] [] sp_is_from := by
  refine okf (d := d_is_from) t 44 rfl rfl sc_is_from (fun _ _ _ _ _ _ us hl => match us, hl with | [_, _, _], _ => rfl) (fun vs H Q E h => ?_) (fun cdv A outer s H vs Q E hr h => ?_)
  · obtain ⟨v, a, b, rfl, _⟩ := h
    rfl
  · obtain ⟨v, a, b, rfl, ⟨h1, h2⟩, q⟩ := h
    refine ⟨_, (pss_one (ps_ret (pe_and (pe_callB call_isi (by rfl) t.b_isinstance bt_isinstance (pa_cons (pv 0) (pa_cons (pe_bt t.b_int bt_int) pa_nil))) (pe_and (pe_not (pe_callB call_isi (by rfl) t.b_isinstance bt_isinstance (pa_cons (pv 0) (pa_cons (pe_bt t.b_bool bt_bool) pa_nil)))) (pe_one (pe_chain op_le op_le (pv 1) (pv 0) (pv 2))))))), ?_⟩
    refine ⟨_, rfl, _, _, _, _, true, rfl, .ty _, .base (.int v), kit_ty (by decide +kernel), true, rfl, ?_⟩
    refine ⟨_, rfl, _, _, _, _, false, rfl, .ty _, .base (.int v), kit_ty (by decide +kernel), false, rfl, true, rfl, ?_⟩
    refine ⟨_, rfl, _, rfl, a, v, rfl, rfl, true, congrArg V.bl (decide_eq_true h1), iteT ⟨_, rfl, v, b, rfl, rfl, ?_⟩⟩
    show Q (V.bl (decide (v ≤ b))) H
    rw [decide_eq_true h2]
    exact q
theorem sc_is_name : FnScope ["value", "letter"] ["value"] (defScope s_is_name) := ⟨rfl, rfl, rfl, by decide +kernel, rfl, by decide +kernel, by decide +kernel⟩
def sp_is_name : Sp := fun vs H Q _ => ∃ x : Str, vs = [.str x] ∧ NameOk x ∧ ∀ H', Same H H' → Q (.bl true) H'
theorem ok_is_name (t : T K mg) : Okf P w K mg base 1 ("is_name", none) ["value"] [] sp_is_name := by
  refine okf (d := d_is_name) t 45 rfl rfl sc_is_name (fun _ _ _ _ _ _ us hl => match us, hl with | [_], _ => rfl) (fun vs H Q E h => ?_) (fun cdv A outer s H vs Q E hr h => ?_)
  · obtain ⟨x, rfl, _⟩ := h
    rfl
  · obtain ⟨x, rfl, ok, q⟩ := h
    have h1 := ok.one
    have h8 := ok.eight
    refine ⟨_, (pss_one (ps_ret (pe_and (pe_callB call_isi (by rfl) t.b_isinstance bt_isinstance (pa_cons (pv 0) (pa_cons (pe_bt t.b_str bt_str) pa_nil))) (pe_and (pe_chain op_le op_le pe_int (pe_callB call_len_str (by rfl) t.b_len bt_len (pa_cons (pv 0) pa_nil)) pe_int) (pe_one (pe_callB (cr_all rfl) (by rfl) t.b_all bt_all (pa_cons (pe_lc (own := [("letter", 1)]) (g := gName 1) (tt := tYes) rfl sc_is_name.nd (pi_str (pv 0)) (blkOk_by (own := [("letter", 1)]) (N := ["value", "letter"]) (sc := defScope s_is_name) (by decide +kernel)) (fun _ _ _ _ _ => (pg_name (i := 1) sc_is_name.nd rfl (.inl rfl))) (fun _ _ _ _ _ => pts_nil) (fun _ _ _ _ _ => (pe_cmpR op_in_sign (pv 1) (pe_k t.i_CAPITALS) (by rfl)))) pa_nil))))))), ?_⟩
    refine ⟨_, rfl, _, _, _, _, true, rfl, .ty _, .base (.str x), kit_ty (by decide +kernel), true, rfl, ?_⟩
    refine ⟨_, rfl, x, rfl, by rw [sizeLine_eq]; omega, 1, _, rfl, rfl, true, congrArg V.bl (decide_eq_true (by omega)), iteT ⟨_, 8, rfl, rfl, true, congrArg V.bl (decide_eq_true (by omega)), ?_⟩⟩
    refine ⟨_, rfl, x, rfl, fun D hD => ?_⟩
    have hz : x.cps.size = x.length := rfl
    refine lc_all (K := K) (walk_str (z := x)) hD (by rw [hz]; omega) (fun H' s2 => trivial) (fun i => .v (.bl true)) (fun i => rfl) (fun i y H2 H3 hi s2 yy Qk kq => ?_) (fun H4 ys s2 e r => ?_)
    · obtain ⟨rfl, c, hc, rfl⟩ := yy
      refine ⟨rfl, _, rfl, c, _, rfl, rfl, kq _ _ (Same.refl _) ?_⟩
      rw [decide_eq_true]
      · exact .v _
      · refine ok.caps c ?_
        rw [Array.mem_toList_iff]
        exact Array.mem_of_getElem? hc
    · have e3 : (List.range x.cps.size).map (fun i => Dat.v (.bl true)) = fD ((List.replicate x.cps.size true).map V.bl) := by
        unfold fD
        rw [List.map_map, List.map_replicate, List.map_const', List.length_range]
        rfl
      rw [e3] at r
      rw [r.unflat] at e
      refine ⟨D, _, rfl, SqL.of e, ?_⟩
      rw [show (List.replicate x.cps.size true).all id = true by simp]
      exact q H4 s2
theorem sc_is_part : FnScope ["value", "rules", "signs"] ["value", "rules", "signs"] (defScope s_is_part) := ⟨rfl, rfl, rfl, by decide +kernel, rfl, by decide +kernel, by decide +kernel⟩
def sp_is_part (K : PySem.W.Frag) : Sp := fun vs H Q _ => ∃ (b d : Addr) (n : Int) (k : Key) (c : Int) (kk : Bool) (R : Rules), vs = [.ref b, .ref d, .int n] ∧ SqT K H b [kV k, .int c] ∧ RulesAt K H d kk R ∧ ROk n R ∧ (1 ≤ c ∧ c ≤ 1000000000000000000000000000000) ∧ partOk n R k ∧ ∀ H', Same H H' → Q (.bl true) H'
theorem ok_is_part (t : T K mg) : Okf P w K mg base 2 ("is_part", none) ["value", "rules", "signs"] [] (sp_is_part K) := by
  have O_is_from := ok_is_from (P := P) (w := w) (base := base) t
  have O_is_name := ok_is_name (P := P) (w := w) (base := base) t
  refine okf (d := d_is_part) t 46 rfl rfl sc_is_part (fun _ _ _ _ _ _ us hl => match us, hl with | [_, _, _], _ => rfl) (fun vs H Q E h => ?_) (fun cdv A outer s H vs Q E hr h => ?_)
  · obtain ⟨b, d, n, k, c, kk, R, rfl, _⟩ := h
    rfl
  · obtain ⟨b, d, n, k, c, kk, R, rfl, hb, hd, ok, hc, hk, q⟩ := h
    have hu := hu_of hr
    refine ⟨_, (pss_cons (ps_if (PW.pt (pw_or (pt_not (pt_val (pe_callB call_isiT (by rfl) t.b_isinstance bt_isinstance (pa_cons (pv 0) (pa_cons (pe_tup (pa_cons (pe_bt t.b_tuple bt_tuple) (pa_cons (pe_bt t.b_list bt_list) pa_nil))) pa_nil))))) (pw_or (pt_cmpR op_ne (pe_callB call_len_seq (by rfl) t.b_len bt_len (pa_cons (pv 0) pa_nil)) pe_int (nomark _)) (pw_or1 (pt_not (pt_val (pe_f O_is_from (hr.mono (by decide)) t.g_is_from (pa_cons (pe_ix ix_tup (pv 0) pe_int (fun _ _ => rfl)) (pa_cons pe_int (pa_cons (pe_k t.i_MOST_COUNT) pa_nil))))))))))
        (pss_one (ps_ret pe_bl))
        pss_nil)
      (pss_cons (ps_if (pt_val (pe_callB call_isi (by rfl) t.b_isinstance bt_isinstance (pa_cons (pe_ix ix_tup (pv 0) pe_int (fun _ _ => rfl)) (pa_cons (pe_bt t.b_str bt_str) pa_nil))))
        (pss_one (ps_ret (pe_and (pe_f O_is_name (hr.mono (by decide)) t.g_is_name (pa_cons (pe_ix ix_tup (pv 0) pe_int (fun _ _ => rfl)) pa_nil)) (pe_one (pe_cmp (pc_din hu (pe_ix ix_tup (pv 0) pe_int (fun _ _ => rfl)) (pv 1)))))))
        pss_nil)
      (pss_one (ps_ret (pe_f O_is_from (hr.mono (by decide)) t.g_is_from (pa_cons (pe_ix ix_tup (pv 0) pe_int (fun _ _ => rfl)) (pa_cons pe_int (pa_cons (pe_op op_sub (pv 2) pe_int) pa_nil)))))))), ?_⟩
    refine ⟨_, rfl, by show 2 ≤ sizeLine; decide, fun tp htp => ?_⟩
    have s1 := Same.new (o := .tup [V.ty "tuple", V.ty "list"]) htp
    have hb1 := s1.tup hb
    refine ⟨_, tp, _, _, _, true, rfl, upd_same, pair2, tyx_T hb1, kit2 (x := true) (y := false) (by decide +kernel) (by decide +kernel), true, rfl, iteF ?_⟩
    have hd1 := hd.mono s1
    generalize upd H tp (.tup [V.ty "tuple", V.ty "list"]) = H1 at s1 hb1 hd1
    refine ⟨_, rfl, b, _, rfl, .inr hb1, rfl, false, rfl, iteF ?_⟩
    refine ⟨_, rfl, b, _, _, _, rfl, rfl, hb1, rfl, c, 1, _, rfl, hc, true, rfl, iteF ?_⟩
    cases k with
    | inl i =>
      refine ⟨_, rfl, b, _, _, _, rfl, rfl, hb1, rfl, _, _, _, _, false, rfl, .ty _, .base (.int i), kit_ty (by decide +kernel), false, rfl, iteF ?_⟩
      have hk : 0 ≤ i ∧ i < n := hk
      exact ⟨_, rfl, b, _, _, _, rfl, rfl, hb1, rfl, _, rfl, _, _, rfl, rfl, i, 0, n - 1, rfl, ⟨hk.1, by omega⟩, q H1 s1⟩
    | inr nm =>
      have hk : nm ∈ R.map fun p => p.1 := hk
      obtain ⟨p, hp, rfl⟩ := List.mem_map.mp hk
      obtain ⟨i, hi, rfl⟩ := List.getElem_of_mem hp
      refine ⟨_, rfl, b, _, _, _, rfl, rfl, hb1, rfl, _, _, _, _, true, rfl, .ty _, .base (.str _), kit_ty (by decide +kernel), true, rfl, iteT ?_⟩
      refine ⟨_, rfl, b, _, _, _, rfl, rfl, hb1, rfl, R[i].1, rfl, ok.name _ (List.getElem_mem hi), fun H3 s3 => ⟨true, rfl, iteT ?_⟩⟩
      obtain ⟨v, hv, _⟩ := (hd1.mono s3).get ok.nd (List.getElem?_eq_getElem hi)
      exact ⟨_, rfl, b, _, _, _, rfl, rfl, s3.tup hb1, rfl, _, rfl, d, some v, rfl, hv, q H3 (s1.trans s3)⟩
end
end WV
end
section
set_option maxRecDepth 100000
set_option maxHeartbeats 4000000
namespace WV
open PySem PySem.Spec PyProof.Rows L2
def isN : Key → Bool
  | .inl _ => false
  | .inr _ => true
theorem namesR_eq (r : Row) : (namesR r).map V.str = (r.filter fun q => isN q.1).map fun q => kV q.1 := by
  induction r with
  | nil => rfl
  | cons q r ih =>
    obtain ⟨k, c⟩ := q
    cases k with
    | inl i => exact ih
    | inr s =>
      show V.str s :: (namesR r).map V.str = V.str s :: _
      rw [ih]
theorem range_filter {α β : Type} {xs : List α} (d : α) (p : α → Bool) (f : α → β) : ((List.range xs.length).filter fun i => p (xs.getD i d)).map (fun i => f (xs.getD i d)) = (xs.filter p).map f := by
  have e := range_get (xs := xs) (fun i => xs.getD i d) fun i x hx => getD_at hx
  conv => rhs; rw [← e]
  rw [List.filter_map, List.map_map]
  rfl
section
variable {P : Program} {w : World} {K : PySem.W.Frag} {mg : Str → Option Value} {base : Heap}
theorem sc_is_rule : FnScope ["value", "rules", "signs", "part"] ["value", "rules", "signs"] (defScope s_is_rule) := ⟨rfl, rfl, rfl, by decide +kernel, rfl, by decide +kernel, by decide +kernel⟩
def sp_is_rule (K : PySem.W.Frag) : Sp := fun vs H Q _ => ∃ (v : V) (d : Addr) (n : Int) (kr : Bool) (r : Row) (kk : Bool) (R : Rules), vs = [v, .ref d, .int n] ∧ Rp K H v (rowT kr r) ∧ RulesAt K H d kk R ∧ ROk n R ∧ (r.length ≤ 40 ∧ ∀ q ∈ r, (1 ≤ q.2 ∧ q.2 ≤ 1000000000000000000000000000000) ∧ partOk n R q.1) ∧ ∀ H', Same H H' → Q (.bl true) H'
theorem ok_is_rule (t : T K mg) : Okf P w K mg base 3 ("is_rule", none) ["value", "rules", "signs"] [] (sp_is_rule K) := by
  have O_is_part := ok_is_part (P := P) (w := w) (base := base) t
  refine okf (d := d_is_rule) t 47 rfl rfl sc_is_rule (fun _ _ _ _ _ _ us hl => match us, hl with | [_, _, _], _ => rfl) (fun vs H Q E h => ?_) (fun cdv A outer s H vs Q E hr h => ?_)
  · obtain ⟨v, d, n, kr, r, kk, R, rfl, _⟩ := h
    rfl
  · obtain ⟨v, d, n, kr, r, kk, R, rfl, hv, hd, ok, ⟨hl, hrow⟩, q⟩ := h
    refine ⟨_, (pss_cons (ps_if (PW.pt (pw_or (pt_not (pt_val (pe_callB call_isiT (by rfl) t.b_isinstance bt_isinstance (pa_cons (pv 0) (pa_cons (pe_tup (pa_cons (pe_bt t.b_tuple bt_tuple) (pa_cons (pe_bt t.b_list bt_list) pa_nil))) pa_nil))))) (pw_or1 (pt_cmpR op_gt (pe_callB call_len_seq (by rfl) t.b_len bt_len (pa_cons (pv 0) pa_nil)) (pe_k t.i_MOST_ITEMS) (nomark _)))))
        (pss_one (ps_ret pe_bl))
        pss_nil)
      (pss_one (ps_ret (pe_callB (cr_all rfl) (by rfl) t.b_all bt_all (pa_cons (pe_lc (own := [("part", 3)]) (g := gName 3) (tt := tYes) rfl sc_is_rule.nd (pi_seq (pv 0)) (blkOk_by (own := [("part", 3)]) (N := ["value", "rules", "signs", "part"]) (sc := defScope s_is_rule) (by decide +kernel)) (fun _ _ _ _ _ => (pg_name (i := 3) sc_is_rule.nd rfl (.inl rfl))) (fun _ _ _ _ _ => pts_nil) (fun _ _ _ _ _ => (pe_f O_is_part (hr.mono (by decide)) t.g_is_part (pa_cons (pv 3) (pa_cons (pv 1) (pa_cons (pv 2) pa_nil)))))) pa_nil))))), ?_⟩
    obtain ⟨a, xs, rfl, ha, hx⟩ := hv.row
    have lx : xs.length = r.length := by rw [hx.len, rowP_len]
    refine ⟨_, rfl, by show 2 ≤ sizeLine; decide, fun tp htp => ?_⟩
    have s1 := Same.new (o := .tup [V.ty "tuple", V.ty "list"]) htp
    have hty : ∃ ty, TyX K (upd H tp (.tup [V.ty "tuple", V.ty "list"])) (.ref a) (.type ty) ∧ PySem.W.kitAny K (.type ty) [.type "tuple", .type "list"] = some true := by
      cases kr with
      | true => exact ⟨_, tyx_L (s1.seq ha), kit2 (x := false) (y := true) (by decide +kernel) (by decide +kernel)⟩
      | false => exact ⟨_, tyx_T (s1.tup ha), kit2 (x := true) (y := false) (by decide +kernel) (by decide +kernel)⟩
    obtain ⟨ty, h1, h2⟩ := hty
    refine ⟨_, tp, _, _, _, true, rfl, upd_same, pair2, h1, h2, true, rfl, iteF ?_⟩
    have hq : SqL K (upd H tp (.tup [V.ty "tuple", V.ty "list"])) a xs ∨ SqT K (upd H tp (.tup [V.ty "tuple", V.ty "list"])) a xs := by
      cases kr with
      | true => exact .inl (s1.seq ha)
      | false => exact .inr (s1.tup ha)
    refine ⟨_, rfl, a, xs, rfl, hq, _, _, rfl, rfl, false, congrArg V.bl (decide_eq_false (by omega)), iteF ?_⟩
    refine ⟨_, rfl, a, kr, xs, rfl, s1.seqk ha, fun D hD => ?_⟩
    refine lc_all (K := K) (walk_seq (xs := xs)) hD (by omega) (fun H' s2 => (s1.trans s2).seqk ha) (fun i => .v (.bl true)) (fun i => rfl) (fun i x H2 H3 hi s2 y Qk kq => ?_) (fun H4 ys s2 e r' => ?_)
    · obtain ⟨rfl, hxi⟩ := y
      obtain ⟨p, b, hp, rfl, hb⟩ := row_at hx hxi
      have s12 := s1.trans s2
      obtain ⟨p1, p2⟩ := hrow p (List.mem_of_getElem? hp)
      exact ⟨rfl, _, rfl, _, rfl, _, rfl, b, d, n, p.1, p.2, kk, R, rfl, s12.tup hb, hd.mono s12, ok, p1, p2, fun H5 s5 => kq _ _ s5 (.v _)⟩
    · have e3 : (List.range xs.length).map (fun i => Dat.v (.bl true)) = fD ((List.replicate xs.length true).map V.bl) := by
        unfold fD
        rw [List.map_map, List.map_replicate, List.map_const', List.length_range]
        rfl
      rw [e3] at r'
      rw [r'.unflat] at e
      refine ⟨D, _, rfl, SqL.of e, ?_⟩
      rw [show (List.replicate xs.length true).all id = true by simp]
      exact q H4 (s1.trans s2)
theorem sc_names_in : FnScope ["row", "part", "count"] ["row"] (defScope s_names_in) := ⟨rfl, rfl, rfl, by decide +kernel, rfl, by decide +kernel, by decide +kernel⟩
def sp_names_in (K : PySem.W.Frag) : Sp := fun vs H Q _ => ∃ (v : V) (kr : Bool) (r : Row), vs = [v] ∧ Rp K H v (rowT kr r) ∧ r.length ≤ 1000 ∧ ∀ H' D, H D = none → Same H H' → H' D = some (.lst ((namesR r).map V.str)) → Q (.ref D) H'
theorem ok_names_in (t : T K mg) : Okf P w K mg base 1 ("names_in", none) ["row"] [] (sp_names_in K) := by
  refine okf (d := d_names_in) t 48 rfl rfl sc_names_in (fun _ _ _ _ _ _ us hl => match us, hl with | [_], _ => rfl) (fun vs H Q E h => ?_) (fun cdv A outer s H vs Q E hr h => ?_)
  · obtain ⟨v, kr, r, rfl, _⟩ := h
    rfl
  · obtain ⟨v, kr, r, rfl, hv, hl, q⟩ := h
    refine ⟨_, (pss_one (ps_ret (pe_lc (own := [("part", 1), ("count", 2)]) (g := gTup K 2 (gCons (gName 1) (gCons (gName 2) gNil))) rfl sc_names_in.nd (pi_seq (pv 0)) (blkOk_by (own := [("part", 1), ("count", 2)]) (N := ["row", "part", "count"]) (sc := defScope s_names_in) (by decide +kernel)) (fun _ _ _ _ _ => (pg_tup rfl (pgs_cons (pg_name (i := 1) sc_names_in.nd rfl (.inl rfl)) (pgs_cons (pg_name (i := 2) sc_names_in.nd rfl (.inl rfl)) pgs_nil)))) (fun _ _ _ _ _ => pts_one (pt_val (pe_callB (call_isiK (K := K) rfl) (by rfl) t.b_isinstance bt_isinstance (pa_cons (pv 1) (pa_cons (pe_bt t.b_str bt_str) pa_nil))))) (fun _ _ _ _ _ => (pv 1))))), ?_⟩
    obtain ⟨a, xs, rfl, ha, hx⟩ := hv.row
    have lx : xs.length = r.length := by rw [hx.len, rowP_len]
    refine ⟨_, rfl, a, kr, xs, rfl, ha, fun D hD => ?_⟩
    refine lc_dat (K := K) (walk_seq (xs := xs)) hD (by omega) (fun H' s2 => s2.seqk ha) (fun i => isN (r.getD i (.inl 0, 0)).1) (fun i => .v (kV (r.getD i (.inl 0, 0)).1)) (fun i => rfl) (fun i x H2 H3 hi s2 y Qk kf kt => ?_) (fun H4 ys s2 e r' => ?_)
    · obtain ⟨rfl, hxi⟩ := y
      obtain ⟨p, b, hp, rfl, hb⟩ := row_at hx hxi
      have gp : r.getD i (.inl 0, 0) = p := getD_at hp
      obtain ⟨k, c⟩ := p
      refine g_two (s2.tup hb) ⟨rfl, ?_⟩
      cases k with
      | inl z => exact ⟨_, rfl, _, _, _, _, false, rfl, .ty _, .base (.int z), kit_ty (by decide +kernel), false, rfl, iteF (kf _ (Same.refl _) (by rw [gp]; rfl))⟩
      | inr z => exact ⟨_, rfl, _, _, _, _, true, rfl, .ty _, .base (.str z), kit_ty (by decide +kernel), true, rfl, iteT ⟨_, rfl, kt _ _ (Same.refl _) (by rw [gp]; rfl) (by rw [gp]; exact .v _)⟩⟩
    · have e3 : ((List.range xs.length).filter fun i => isN (r.getD i (.inl 0, 0)).1).map (fun i => Dat.v (kV (r.getD i (.inl 0, 0)).1)) = fD ((namesR r).map V.str) := by
        rw [namesR_eq, lx]
        unfold fD
        rw [List.map_map]
        exact range_filter (xs := r) (.inl 0, 0) (fun q => isN q.1) fun q => Dat.v (kV q.1)
      rw [e3] at r'
      rw [r'.unflat] at e
      exact q H4 D hD s2 e
theorem sc_check_rules : FnScope ["signs", "rules", "name"] ["signs", "rules"] (defScope s_check_rules) := ⟨rfl, rfl, rfl, by decide +kernel, rfl, by decide +kernel, by decide +kernel⟩
def sp_check_rules (K : PySem.W.Frag) : Sp := fun vs H Q _ => ∃ (n : Int) (d : Addr) (kk : Bool) (R : Rules) (kvs : List (Key × V)), vs = [.int n, .ref d] ∧ H d = some (.dK kvs) ∧ RulesAt K H d kk R ∧ ROk n R ∧ ∀ H', Same H H' → Q .non H'
theorem RulesAt.lock {H : Hp} {d : Addr} {kk : Bool} {R : Rules} {kvs : List (Key × V)} {od : Obj} (hd : H d = some (.dK kvs)) (h : RulesAt K H d kk R) : RulesAt K (upd H d (.frz od (.dK kvs))) d kk R := by
  obtain ⟨kvs', h1, h2, h3⟩ := h.ex
  have e : kvs' = kvs := by
    rcases h1 with h1 | ⟨o, h1⟩
    · rw [hd] at h1
      injection h1 with h1
      injection h1 with h1
      exact h1.symm
    · rw [hd] at h1
      cases h1
  subst e
  exact ⟨kvs', .inr ⟨od, upd_same⟩, h2, h3.updK hd⟩
theorem RulesAt.kvs {H : Hp} {d : Addr} {kk : Bool} {R : Rules} {kvs : List (Key × V)} (hd : H d = some (.dK kvs)) (h : RulesAt K H d kk R) : kvs.map (fun p => p.1) = R.map (fun p => Sum.inr p.1) ∧ RpA K H (kvs.map fun p => p.2) (R.map fun p => rowT kk p.2) := by
  obtain ⟨kvs', h1, h2, h3⟩ := h.ex
  have e : kvs' = kvs := by
    rcases h1 with h1 | ⟨o, h1⟩
    · rw [hd] at h1
      injection h1 with h1
      injection h1 with h1
      exact h1.symm
    · rw [hd] at h1
      cases h1
  subst e
  exact ⟨h2, h3⟩
theorem ok_check_rules (t : T K mg) : Okf P w K mg base 4 ("check_rules", none) ["signs", "rules"] [] (sp_check_rules K) := by
  have O_is_from := ok_is_from (P := P) (w := w) (base := base) t
  have O_is_name := ok_is_name (P := P) (w := w) (base := base) t
  have O_is_rule := ok_is_rule (P := P) (w := w) (base := base) t
  refine okf (d := d_check_rules) t 51 rfl rfl sc_check_rules (fun _ _ _ _ _ _ us hl => match us, hl with | [_, _], _ => rfl) (fun vs H Q E h => ?_) (fun cdv A outer s H vs Q E hr h => ?_)
  · obtain ⟨n, d, kk, R, kvs, rfl, _⟩ := h
    rfl
  · obtain ⟨n, d, kk, R, kvs, rfl, hd, hR, ok, q⟩ := h
    have hu := hu_of hr
    refine ⟨_, (pss_cons (ps_if (pt_not (pt_val (pe_f O_is_from (hr.mono (by decide)) t.g_is_from (pa_cons (pv 0) (pa_cons pe_int (pa_cons (pe_k t.i_MOST_TEXT_SIGNS) pa_nil))))))
        (pss_one ps_never)
        pss_nil)
      (pss_cons (ps_if (pt_not (pt_chain op_le op_le pe_int (pe_callB call_lenD (by rfl) t.b_len bt_len (pa_cons (pv 1) pa_nil)) (pe_k t.i_MOST_RULES)))
        (pss_one ps_never)
        pss_nil)
      (pss_one (ps_lock (ps_for PassesOwn.never rfl (pi_keys (pv 1)) (pg_name (i := 2) sc_check_rules.nd rfl (.inl rfl))
        (pss_one (ps_if (PW.pt (pw_or (pt_not (pt_val (pe_f O_is_name (hr.mono (by decide)) t.g_is_name (pa_cons (pv 2) pa_nil)))) (pw_or1 (pt_not (pt_val (pe_f O_is_rule (hr.mono (by decide)) t.g_is_rule (pa_cons (pe_dget hu (pv 1) (pv 2) (fun _ _ => rfl)) (pa_cons (pv 1) (pa_cons (pv 0) pa_nil)))))))))
          (pss_one ps_never)
          pss_nil))))))), ?_⟩
    have k1 := ok.ne
    have k2 := ok.few
    obtain ⟨ek, _⟩ := hR.kvs hd
    have lk : kvs.length = R.length := by
      have := congrArg List.length ek
      rw [List.length_map, List.length_map] at this
      exact this
    refine ⟨_, rfl, n, 1, 2000, rfl, ok.signs, true, rfl, iteF ?_⟩
    refine ⟨_, rfl, d, kvs, rfl, hd, 1, _, rfl, rfl, true, congrArg V.bl (decide_eq_true (by omega)), iteT ⟨_, 2000, rfl, rfl, true, congrArg V.bl (decide_eq_true (by omega)), ?_⟩⟩
    refine ⟨d, _, hd, trivial, fun od => ⟨_, rfl, d, od, rfl, .inl ⟨kvs, upd_same, ?_⟩⟩⟩
    have hRl := hR.lock (od := od) hd
    refine for_it (walk_keys (kvs := kvs)) (fun i σ H' => Same (upd H d (.frz od (.dK kvs))) H' ∧ ∃ u, σ = [some (.int n), some (.ref d), u]) ⟨Same.refl _, none, rfl⟩ (fun i σ H' _ p => p.1 _ _ upd_same) (fun i x σ H2 H3 hi pp y => ?_) (fun σ H2 pp => ⟨pp.1 _ _ upd_same, q _ (lock_same hd pp.1)⟩)
    obtain ⟨s1, u, rfl⟩ := pp
    obtain ⟨rfl, k, v, hk, rfl⟩ := y
    have hi2 : i < R.length := by omega
    have ek2 : k = .inr R[i].1 := by
      have := congrArg (fun l => l[i]?) ek
      simp only [List.getElem?_map, hk, List.getElem?_eq_getElem hi2] at this
      injection this
    subst ek2
    have ri := ok.row _ (List.getElem_mem hi2)
    refine ⟨_, rfl, R[i].1, rfl, ok.name _ (List.getElem_mem hi2), fun H4 s4 => ⟨true, rfl, iteF ?_⟩⟩
    have s14 := s1.trans s4
    obtain ⟨v2, hv2, hr2⟩ := (hRl.mono s14).get ok.nd (List.getElem?_eq_getElem hi2)
    exact ⟨_, rfl, _, rfl, d, v2, rfl, hv2, _, rfl, _, rfl, v2, d, n, kk, R[i].2, kk, R, rfl, hr2, hRl.mono s14, ok, ri, fun H5 s5 => ⟨true, rfl, iteF ⟨s14.trans s5, _, rfl⟩⟩⟩
end
end WV
end
section
set_option maxRecDepth 100000
set_option maxHeartbeats 4000000
namespace WV
/-! ### names in order: each behind those it needs -/
section
variable {α : Type} [DecidableEq α]
abbrev NRs (α : Type) := List (α × List α)
def outP (P ins : List α) : Nat := (ins.filter fun x => decide (x ∉ P)).length
def upL (NR : NRs α) (x : α) : List α := NR.flatMap fun p => (p.2.filter fun y => decide (y = x)).map fun _ => p.1
structure NOk (NR : NRs α) : Prop where
  nd : (NR.map fun p => p.1).Nodup
  ins : ∀ p ∈ NR, ∀ x ∈ p.2, x ∈ NR.map fun p => p.1
  acyc : ∃ rank : α → Nat, ∀ p ∈ NR, ∀ x ∈ p.2, rank x < rank p.1
theorem outP_nil (ins : List α) : outP [] ins = ins.length := by
  unfold outP
  rw [List.filter_eq_self.mpr]
  intro a _
  simp
theorem outP_snoc {P : List α} {x : α} (hx : x ∉ P) : ∀ ins : List α, outP P ins = outP (P ++ [x]) ins + (ins.filter fun y => decide (y = x)).length
  | [] => rfl
  | y :: ins => by
    have ih := outP_snoc hx ins
    unfold outP at ih ⊢
    by_cases c : y = x
    · subst c
      rw [List.filter_cons, List.filter_cons, List.filter_cons, if_pos (by simpa using hx), if_neg (by simp), if_pos (by simp), List.length_cons, List.length_cons, ih]
      omega
    · by_cases d : y ∈ P
      · rw [List.filter_cons, List.filter_cons, List.filter_cons, if_neg (by simpa using d), if_neg (by simp [d]), if_neg (by simpa using c), ih]
      · rw [List.filter_cons, List.filter_cons, List.filter_cons, if_pos (by simpa using d), if_pos (by simp [d, c]), if_neg (by simpa using c), List.length_cons, List.length_cons, ih]
        omega
theorem outP_zero {P ins : List α} (h : outP P ins = 0) : ∀ x ∈ ins, x ∈ P := fun x hx => by
  unfold outP at h
  have := List.length_eq_zero_iff.mp h
  rw [List.filter_eq_nil_iff] at this
  have := this x hx
  simpa using this
theorem count_const (n : α) : ∀ l : List α, ((l.map fun _ => n).count n) = l.length
  | [] => rfl
  | a :: l => by
    rw [List.map_cons, List.count_cons_self, count_const n l, List.length_cons]
theorem count_other {n m : α} (h : n ≠ m) : ∀ l : List α, ((l.map fun _ => n).count m) = 0
  | [] => rfl
  | a :: l => by
    rw [List.map_cons, List.count_cons_of_ne h, count_other h l]
theorem upL_none {x nm : α} : ∀ {NR : NRs α}, nm ∉ NR.map (fun p => p.1) → (upL NR x).count nm = 0
  | [], _ => rfl
  | p :: NR, h => by
    rw [List.map_cons, List.mem_cons, not_or] at h
    unfold upL
    rw [List.flatMap_cons, List.count_append, count_other (Ne.symm h.1)]
    have := upL_none (x := x) h.2
    unfold upL at this
    rw [this]
theorem upL_count {x : α} : ∀ {NR : NRs α}, (NR.map fun p => p.1).Nodup → ∀ p ∈ NR, (upL NR x).count p.1 = (p.2.filter fun y => decide (y = x)).length
  | [], _, p, h => by cases h
  | q :: NR, nd, p, h => by
    rw [List.map_cons, List.nodup_cons] at nd
    unfold upL
    rw [List.flatMap_cons, List.count_append]
    rcases List.mem_cons.mp h with rfl | h
    · rw [count_const]
      have := upL_none (x := x) nd.1
      unfold upL at this
      rw [this]
      rfl
    · have hne : q.1 ≠ p.1 := fun e => nd.1 (by rw [e]; exact List.mem_map.mpr ⟨p, h, rfl⟩)
      rw [count_other hne]
      have := upL_count (x := x) nd.2 p h
      unfold upL at this
      rw [this, Nat.zero_add]
theorem upL_mem {x nm : α} {NR : NRs α} (h : nm ∈ upL NR x) : nm ∈ NR.map fun p => p.1 := by
  unfold upL at h
  obtain ⟨p, hp, h2⟩ := List.mem_flatMap.mp h
  obtain ⟨y, _, rfl⟩ := List.mem_map.mp h2
  exact List.mem_map.mpr ⟨p, hp, rfl⟩
/-- in the midst: pre of upL x is done -/
structure K1 (NR : NRs α) (P : List α) (x : α) (pre found : List α) (L : α → Int) : Prop where
  nd : found.Nodup
  sub : ∀ n ∈ found, n ∈ NR.map fun p => p.1
  hd : ∃ r, found = P ++ x :: r
  lack : ∀ p ∈ NR, L p.1 = (outP P p.2 : Int) - (pre.count p.1 : Int)
  iff : ∀ n ∈ NR.map (fun p => p.1), n ∈ found ↔ L n = 0
  topo : ∀ (i : Nat) p, p ∈ NR → found[i]? = some p.1 → ∀ y ∈ p.2, y ∈ found.take i
structure K0 (NR : NRs α) (P found : List α) (L : α → Int) : Prop where
  nd : found.Nodup
  sub : ∀ n ∈ found, n ∈ NR.map fun p => p.1
  hd : ∃ r, found = P ++ r
  lack : ∀ p ∈ NR, L p.1 = (outP P p.2 : Int)
  iff : ∀ n ∈ NR.map (fun p => p.1), n ∈ found ↔ L n = 0
  topo : ∀ (i : Nat) p, p ∈ NR → found[i]? = some p.1 → ∀ y ∈ p.2, y ∈ found.take i
theorem K0.start {NR : NRs α} (ok : NOk NR) {L : α → Int} (hL : ∀ p ∈ NR, L p.1 = p.2.length) : K0 NR [] ((NR.map fun p => p.1).filter fun n => decide (L n = 0)) L := by
  refine ⟨ok.nd.filter _, fun n hn => (List.mem_filter.mp hn).1, ⟨_, rfl⟩, fun p hp => by rw [hL p hp, outP_nil], fun n hn => ?_, fun i p hp h y hy => ?_⟩
  · rw [List.mem_filter]
    simp [hn]
  · have := (List.mem_filter.mp (List.mem_of_getElem? h)).2
    rw [decide_eq_true_iff, hL p hp] at this
    have : p.2 = [] := List.length_eq_zero_iff.mp (by omega)
    rw [this] at hy
    cases hy
theorem K0.to1 {NR : NRs α} {P found : List α} {L : α → Int} (k : K0 NR P found L) {x : α} (hx : found[P.length]? = some x) : K1 NR P x [] found L := by
  obtain ⟨r, hr⟩ := k.hd
  rw [hr, List.getElem?_append_right (Nat.le_refl _), Nat.sub_self] at hx
  cases r with
  | nil => simp at hx
  | cons y r =>
    simp at hx
    subst hx
    refine ⟨k.nd, k.sub, ⟨r, hr⟩, fun p hp => ?_, k.iff, k.topo⟩
    rw [k.lack p hp]
    simp
theorem K1.notP {NR : NRs α} {P pre found : List α} {x : α} {L : α → Int} (k : K1 NR P x pre found L) : x ∉ P := fun h => by
  obtain ⟨r, hr⟩ := k.hd
  have := k.nd
  rw [hr] at this
  exact (List.nodup_append.mp this).2.2 x h x List.mem_cons_self rfl
theorem K1.step {NR : NRs α} (ok : NOk NR) {P pre suf found : List α} {x n : α} {L : α → Int} (k : K1 NR P x pre found L) (he : upL NR x = pre ++ n :: suf) :
    K1 NR P x (pre ++ [n]) (if L n - 1 = 0 then found ++ [n] else found) (fun m => if m = n then L n - 1 else L m) := by
  have hn : n ∈ NR.map fun p => p.1 := upL_mem (x := x) (by rw [he]; simp)
  obtain ⟨p, hp, rfl⟩ := List.mem_map.mp hn
  have c1 := upL_count (x := x) ok.nd p hp
  rw [he, List.count_append, List.count_cons_self] at c1
  have c2 := outP_snoc k.notP p.2
  have c3 := k.lack p hp
  have pos : L p.1 ≠ 0 := by omega
  have nf : p.1 ∉ found := fun h => pos ((k.iff p.1 hn).mp h)
  have uniq : ∀ q ∈ NR, q.1 = p.1 → q = p := fun q hq e => by
    obtain ⟨i, hi, rfl⟩ := List.getElem_of_mem hq
    obtain ⟨j, hj, rfl⟩ := List.getElem_of_mem hp
    have : i = j := by
      have nd := ok.nd
      rcases Nat.lt_trichotomy i j with h | h | h
      · exact absurd e (by
          have := List.pairwise_iff_getElem.mp nd i j (by simpa using hi) (by simpa using hj) h
          simpa using this)
      · exact h
      · exact absurd e.symm (by
          have := List.pairwise_iff_getElem.mp nd j i (by simpa using hj) (by simpa using hi) h
          simpa using this)
    subst this
    rfl
  have lack' : ∀ q ∈ NR, (if q.1 = p.1 then L p.1 - 1 else L q.1) = (outP P q.2 : Int) - ((pre ++ [p.1]).count q.1 : Int) := fun q hq => by
    by_cases e : q.1 = p.1
    · have := uniq q hq e
      subst this
      rw [if_pos rfl, List.count_append, c3]
      simp
      omega
    · rw [if_neg e, k.lack q hq, List.count_append, List.count_cons_of_ne (Ne.symm e)]
      simp
  by_cases z : L p.1 - 1 = 0
  · rw [if_pos z]
    refine ⟨?_, fun m hm => ?_, ?_, lack', fun m hm => ?_, fun i q hq h y hy => ?_⟩
    · refine List.nodup_append.mpr ⟨k.nd, by simp, fun a ha b hb e => ?_⟩
      rw [List.mem_singleton] at hb
      rw [e, hb] at ha
      exact nf ha
    · rcases List.mem_append.mp hm with h | h
      · exact k.sub m h
      · rw [List.mem_singleton.mp h]
        exact hn
    · obtain ⟨r, hr⟩ := k.hd
      exact ⟨r ++ [p.1], by rw [hr, List.append_assoc]; rfl⟩
    · show m ∈ found ++ [p.1] ↔ (if m = p.1 then L p.1 - 1 else L m) = 0
      by_cases e : m = p.1
      · rw [if_pos e, e]
        simp [z]
      · rw [if_neg e, List.mem_append, List.mem_singleton]
        rw [← k.iff m hm]
        simp [e]
    · have hi := (List.getElem?_eq_some_iff.mp h).1
      rw [List.length_append, List.length_singleton] at hi
      by_cases hlt : i < found.length
      · rw [List.getElem?_append_left hlt] at h
        have := k.topo i q hq h y hy
        rw [List.take_append_of_le_length (Nat.le_of_lt hlt)]
        exact this
      · have ei : i = found.length := by omega
        rw [ei, List.getElem?_append_right (Nat.le_refl _), Nat.sub_self] at h
        injection h with h
        have := uniq q hq h.symm
        subst this
        rw [ei, List.take_left]
        have hz : outP (P ++ [x]) q.2 = 0 := by omega
        have := outP_zero hz y hy
        obtain ⟨r, hr⟩ := k.hd
        rw [hr]
        rcases List.mem_append.mp this with h | h
        · exact List.mem_append_left _ h
        · rw [List.mem_singleton.mp h]
          exact List.mem_append_right _ List.mem_cons_self
  · rw [if_neg z]
    refine ⟨k.nd, k.sub, k.hd, lack', fun m hm => ?_, k.topo⟩
    show m ∈ found ↔ (if m = p.1 then L p.1 - 1 else L m) = 0
    by_cases e : m = p.1
    · rw [if_pos e, e]
      exact ⟨fun h => absurd h nf, fun h => absurd h z⟩
    · rw [if_neg e]
      exact k.iff m hm
theorem K1.done {NR : NRs α} (ok : NOk NR) {P found : List α} {x : α} {L : α → Int} (k : K1 NR P x (upL NR x) found L) : K0 NR (P ++ [x]) found L := by
  obtain ⟨r, hr⟩ := k.hd
  refine ⟨k.nd, k.sub, ⟨r, by rw [hr, List.append_assoc]; rfl⟩, fun p hp => ?_, k.iff, k.topo⟩
  have c1 := upL_count (x := x) ok.nd p hp
  have c2 := outP_snoc k.notP p.2
  have c3 := k.lack p hp
  omega
theorem K0.all {NR : NRs α} (ok : NOk NR) {found : List α} {L : α → Int} (k : K0 NR found found L) : ∀ n ∈ NR.map (fun p => p.1), n ∈ found := by
  obtain ⟨rank, hr⟩ := ok.acyc
  have key : ∀ (m : Nat) n, rank n ≤ m → n ∈ NR.map (fun p => p.1) → n ∈ found := fun m => by
    induction m with
    | zero =>
      intro n hm hn
      obtain ⟨p, hp, rfl⟩ := List.mem_map.mp hn
      refine (k.iff p.1 hn).mpr ?_
      rw [k.lack p hp]
      have : p.2 = [] := by
        cases h : p.2 with
        | nil => rfl
        | cons y r =>
          have := hr p hp y (by rw [h]; exact List.mem_cons_self)
          omega
      rw [this]
      rfl
    | succ m ih =>
      intro n hm hn
      obtain ⟨p, hp, rfl⟩ := List.mem_map.mp hn
      refine (k.iff p.1 hn).mpr ?_
      rw [k.lack p hp]
      have : outP found p.2 = 0 := by
        unfold outP
        rw [List.length_eq_zero_iff, List.filter_eq_nil_iff]
        intro y hy
        have := ih y (by have := hr p hp y hy; omega) (ok.ins p hp y hy)
        simpa using this
      rw [this]
      rfl
  exact fun n hn => key (rank n) n (Nat.le_refl _) hn
theorem nodup_len : ∀ (l m : List α), l.Nodup → (∀ x ∈ l, x ∈ m) → l.length ≤ m.length
  | [], m, _, _ => Nat.zero_le _
  | a :: l, m, nd, h => by
    obtain ⟨h1, h2⟩ := List.nodup_cons.mp nd
    have ha := h a List.mem_cons_self
    have := nodup_len l (m.erase a) h2 fun x hx => (List.mem_erase_of_ne (fun e => h1 (by rw [← e]; exact hx))).mpr (h x (List.mem_cons_of_mem _ hx))
    rw [List.length_erase_of_mem ha] at this
    have := List.length_pos_of_mem ha
    rw [List.length_cons]
    omega
theorem K0.small {NR : NRs α} {P found : List α} {L : α → Int} (k : K0 NR P found L) : found.length ≤ NR.length := by
  have := nodup_len found _ k.nd k.sub
  rw [List.length_map] at this
  exact this
end
end WV
end
section
set_option maxRecDepth 100000
set_option maxHeartbeats 4000000
namespace WV
open PySem PySem.Spec PyProof.Rows L2
def nrsOf (R : Rules) : NRs Str := R.map fun p => (p.1, namesR p.2)
theorem nrs_names (R : Rules) : (nrsOf R).map (fun p => p.1) = R.map fun p => p.1 := by
  unfold nrsOf
  rw [List.map_map]
  rfl
theorem namesR_mem {r : Row} {x : Str} (h : x ∈ namesR r) : ∃ q ∈ r, q.1 = .inr x := by
  unfold namesR at h
  obtain ⟨q, hq, e⟩ := List.mem_filterMap.mp h
  refine ⟨q, hq, ?_⟩
  cases h2 : q.1 with
  | inl i => rw [h2] at e; cases e
  | inr s =>
    rw [h2] at e
    injection e with e
    rw [e]
theorem namesR_len (r : Row) : (namesR r).length ≤ r.length := by
  unfold namesR
  exact List.length_filterMap_le ..
theorem ROk.nrs {n : Int} {R : Rules} (ok : ROk n R) : NOk (nrsOf R) := by
  refine ⟨by rw [nrs_names]; exact ok.nd, fun p hp x hx => ?_, ?_⟩
  · obtain ⟨q, hq, rfl⟩ := List.mem_map.mp hp
    obtain ⟨z, hz, e⟩ := namesR_mem hx
    have := (ok.row q hq).2 z hz
    rw [e] at this
    rw [nrs_names]
    exact this.2
  · obtain ⟨rank, hr⟩ := ok.acyc
    refine ⟨rank, fun p hp x hx => ?_⟩
    obtain ⟨q, hq, rfl⟩ := List.mem_map.mp hp
    obtain ⟨z, hz, e⟩ := namesR_mem hx
    exact hr q hq z hz x e
section
variable {K : PySem.W.Frag} {H : Hp}
theorem DF.ne {a d : Addr} {m : Nat} {f : Key → Option V} {o : HO} (h : DF H a m f) (ne : a ≠ d) : DF (upd H d o) a m f :=
  let ⟨kvs, h1, h2, h3⟩ := h.ex; ⟨kvs, by rw [upd_ne ne]; exact h1, h2, h3⟩
/-- a dict of ints by name -/
structure LK (H : Hp) (dl : Addr) (N : List Str) (L : Str → Int) : Prop where
  ex : ∃ m f, m ≤ 10000 ∧ DF H dl m f ∧ ∀ n ∈ N, f (.inr n) = some (.int (L n))
theorem LK.ne {dl d : Addr} {N : List Str} {L : Str → Int} {o : HO} (h : LK H dl N L) (ne : dl ≠ d) : LK (upd H d o) dl N L :=
  let ⟨m, f, h1, h2, h3⟩ := h.ex; ⟨m, f, h1, h2.ne ne, h3⟩
theorem LK.mono {H' : Hp} {dl : Addr} {N : List Str} {L : Str → Int} (e : Same H H') (h : LK H dl N L) : LK H' dl N L :=
  let ⟨m, f, h1, h2, h3⟩ := h.ex; ⟨m, f, h1, h2.mono e, h3⟩
theorem LK.isK {dl : Addr} {N : List Str} {L : Str → Int} (h : LK H dl N L) : ∃ kvs, H dl = some (.dK kvs) :=
  let ⟨_, _, _, h2, _⟩ := h.ex; let ⟨kvs, h, _⟩ := h2.ex; ⟨kvs, h⟩
/-- a dict of lists of names by name -/
structure AB (H0 H : Hp) (da : Addr) (N : List Str) (B : Str → Addr) (U : Str → List Str) : Prop where
  ex : ∃ m f, m ≤ 10000 ∧ DF H da m f ∧ ∀ n ∈ N, f (.inr n) = some (.ref (B n))
  ls : ∀ n ∈ N, H (B n) = some (.lst ((U n).map V.str))
  inj : ∀ n ∈ N, ∀ n' ∈ N, B n = B n' → n = n'
  fresh : ∀ n ∈ N, H0 (B n) = none
theorem AB.isK {H0 : Hp} {da : Addr} {N : List Str} {B : Str → Addr} {U : Str → List Str} (h : AB H0 H da N B U) : ∃ kvs, H da = some (.dK kvs) :=
  let ⟨_, _, _, h2, _⟩ := h.ex; let ⟨kvs, h, _⟩ := h2.ex; ⟨kvs, h⟩
theorem AB.mono {H0 H' : Hp} {da : Addr} {N : List Str} {B : Str → Addr} {U : Str → List Str} (e : Same H H') (h : AB H0 H da N B U) : AB H0 H' da N B U :=
  ⟨let ⟨m, f, h1, h2, h3⟩ := h.ex; ⟨m, f, h1, h2.mono e, h3⟩, fun n hn => e _ _ (h.ls n hn), h.inj, h.fresh⟩
theorem AB.ne {H0 : Hp} {da d : Addr} {N : List Str} {B : Str → Addr} {U : Str → List Str} {o : HO} (h : AB H0 H da N B U) (n1 : da ≠ d) (n2 : ∀ n ∈ N, B n ≠ d) : AB H0 (upd H d o) da N B U :=
  ⟨let ⟨m, f, h1, h2, h3⟩ := h.ex; ⟨m, f, h1, h2.ne n1, h3⟩, fun n hn => by rw [upd_ne (n2 n hn)]; exact h.ls n hn, h.inj, h.fresh⟩
theorem AB.push {H0 : Hp} {da : Addr} {N : List Str} {B : Str → Addr} {U : Str → List Str} (h : AB H0 H da N B U) {x y : Str} (hx : x ∈ N) : AB H0 (upd H (B x) (.lst ((U x).map V.str ++ [V.str y]))) da N B (fun z => if z = x then U x ++ [y] else U z) := by
  refine ⟨?_, fun n hn => ?_, h.inj, h.fresh⟩
  · obtain ⟨m, f, h1, h2, h3⟩ := h.ex
    obtain ⟨kvs, hk⟩ := h.isK
    exact ⟨m, f, h1, h2.ne (fun e => by rw [e, h.ls x hx] at hk; cases hk), h3⟩
  · by_cases c : n = x
    · subst c
      rw [upd_same, if_pos rfl, List.map_append]
      rfl
    · rw [upd_ne (fun e => c (h.inj n hn x hx e)), if_neg c]
      exact h.ls n hn
theorem AB.congr {H0 : Hp} {da : Addr} {N : List Str} {B : Str → Addr} {U U' : Str → List Str} (h : AB H0 H da N B U) (e : ∀ n ∈ N, U n = U' n) : AB H0 H da N B U' :=
  ⟨h.ex, fun n hn => by rw [← e n hn]; exact h.ls n hn, h.inj, h.fresh⟩
theorem AB.get {H0 : Hp} {da : Addr} {N : List Str} {B : Str → Addr} {U : Str → List Str} (h : AB H0 H da N B U) {x : Str} (hx : x ∈ N) : DGet H da (.str x) (some (.ref (B x))) :=
  let ⟨_, _, _, h2, h3⟩ := h.ex; h2.get (k := .inr x) (h3 x hx)
theorem LK.get {dl : Addr} {N : List Str} {L : Str → Int} (h : LK H dl N L) {x : Str} (hx : x ∈ N) : DGet H dl (.str x) (some (.int (L x))) :=
  let ⟨_, _, _, h2, h3⟩ := h.ex; h2.get (k := .inr x) (h3 x hx)
end
theorem LK.put {H : Hp} {dl : Addr} {N : List Str} {L : Str → Int} (h : LK H dl N L) {x : Str} (hx : x ∈ N) (z : Int) : ∃ kvs', DPut H dl (.str x) (.int z) (upd H dl (.dK kvs')) ∧ LK (upd H dl (.dK kvs')) dl N (fun m => if m = x then z else L m) := by
  obtain ⟨m, f, h1, h2, h3⟩ := h.ex
  obtain ⟨kvs, e, hl, hf⟩ := h2.ex
  have hk : valV kvs (.inr x) = some (.int (L x)) := by rw [hf, h3 x hx]
  have len : (putK kvs (.inr x) (V.int z)).length = kvs.length := by
    unfold putK
    rw [valV_any, hk]
    show (if true = true then _ else _ : List (Key × V)).length = _
    rw [if_pos rfl, List.length_map]
  refine ⟨_, DPut.k (k := .inr x) e (by rw [sizeLine_eq]; omega), m, fun j => if j = .inr x then some (.int z) else f j, h1, ⟨_, upd_same, by omega, fun j => by rw [valV_put, hf j]⟩, fun n hn => ?_⟩
  by_cases c : n = x
  · have e1 : (fun j : Key => if j = .inr x then some (V.int z) else f j) (.inr n) = some (.int z) := if_pos (by rw [c])
    rw [e1, if_pos c]
  · have e1 : (fun j : Key => if j = .inr x then some (V.int z) else f j) (.inr n) = f (.inr n) := if_neg (fun e => c (by injection e))
    rw [e1, if_neg c]
    exact h3 n hn
section
variable {P : Program} {w : World} {K : PySem.W.Frag} {mg : Str → Option Value} {base : Heap}
theorem lock_same2 {H HB : Hp} {d : Addr} {u : HO} (s : Same H HB) : Same (upd H d u) (upd HB d u) := fun b o h => by
  by_cases c : b = d
  · subst c
    rw [upd_same] at h ⊢
    exact h
  · rw [upd_ne c] at h ⊢
    exact s b o h
theorem upL_snoc {R : Rules} {i : Nat} {p : Str × Row} (hp : R[i]? = some p) (x : Str) : upL (nrsOf (R.take (i + 1))) x = upL (nrsOf (R.take i)) x ++ ((namesR p.2).filter fun y => decide (y = x)).map fun _ => p.1 := by
  rw [take_snoc hp]
  unfold nrsOf upL
  rw [List.map_append, List.flatMap_append]
  simp
theorem upL_len {R : Rules} (h : ∀ p ∈ R, p.2.length ≤ 40) (x : Str) : (upL (nrsOf R) x).length ≤ R.length * 40 := by
  unfold upL nrsOf
  induction R with
  | nil => simp
  | cons p R ih =>
    rw [List.map_cons, List.flatMap_cons, List.length_append, List.length_map, List.length_cons]
    have h1 := h p List.mem_cons_self
    have h2 := namesR_len p.2
    have h3 := List.length_filter_le (fun y => decide (y = x)) (namesR p.2)
    have := ih fun q hq => h q (List.mem_cons_of_mem _ hq)
    simp only
    omega
theorem sc_in_order : FnScope ["rules", "lacking", "above", "name", "inner", "found", "at", "outer"] ["rules"] (defScope s_in_order) := ⟨rfl, rfl, rfl, by decide +kernel, rfl, by decide +kernel, by decide +kernel⟩
def Topo (R : Rules) (ord : List Str) : Prop := ∀ (i : Nat) p, p ∈ R → ord[i]? = some p.1 → ∀ y ∈ namesR p.2, y ∈ ord.take i
def sp_in_order (K : PySem.W.Frag) : Sp := fun vs H Q _ => ∃ (d : Addr) (n : Int) (kk : Bool) (R : Rules) (kvs : List (Key × V)), vs = [.ref d] ∧ H d = some (.dK kvs) ∧ RulesAt K H d kk R ∧ ROk n R ∧
  ∀ H' F ord, Same H H' → H' F = some (.lst (ord.map V.str)) → ord.Nodup → (∀ x, x ∈ ord ↔ x ∈ R.map fun p => p.1) → Topo R ord → Q (.ref F) H'
theorem ok_in_order (t : T K mg) : Okf P w K mg base 2 ("in_order", none) ["rules"] [] (sp_in_order K) := by
  have O_names_in := ok_names_in (P := P) (w := w) (base := base) t
  refine okf (d := d_in_order) t 49 rfl rfl sc_in_order (fun _ _ _ _ _ _ us hl => match us, hl with | [_], _ => rfl) (fun vs H Q E h => ?_) (fun cdv A outer s H vs Q E hr h => ?_)
  · obtain ⟨d, n, kk, R, kvs, rfl, _⟩ := h
    rfl
  · obtain ⟨d, n, kk, R, kvs, rfl, hd, hR, ok, q⟩ := h
    have hu := hu_of hr
    refine ⟨_, (pss_cons (ps_lock (ps_set (i := 1) sc_in_order.nd rfl (.inr rfl) (pe_dc (own := [("name", 3)]) (g := gName 3) (tt := tYes) rfl sc_in_order.nd (pi_keys (pv 0)) (blkOk_by (own := [("name", 3)]) (N := ["rules", "lacking", "above", "name", "inner", "found", "at", "outer"]) (sc := defScope s_in_order) (by decide +kernel)) (fun _ _ _ _ _ => (pg_name (i := 3) sc_in_order.nd rfl (.inl rfl))) (fun _ _ _ _ _ => pts_nil) (fun _ _ _ _ _ => (pv 3)) (fun _ _ _ _ _ => (pe_callB (call_len_seqK (K := K) rfl) (by rfl) t.b_len bt_len (pa_cons (pe_f O_names_in (hr.mono (by decide)) t.g_names_in (pa_cons (pe_dget hu (pv 0) (pv 3) (fun _ _ => rfl)) pa_nil)) pa_nil))))))
      (pss_cons (ps_lock (ps_setDc (i := 2) (own := [("name", 3)]) (g := gName 3) (tt := tYes) rfl sc_in_order.nd rfl rfl (swd_true rfl rfl rfl (by decide +kernel)) (pi_keys (pv 0)) (blkOk_by (own := [("name", 3)]) (N := ["rules", "lacking", "above", "name", "inner", "found", "at", "outer"]) (sc := defScope s_in_order) (by decide +kernel)) (fun _ _ _ _ _ => (pg_name (i := 3) sc_in_order.nd rfl (.inl rfl))) (fun _ _ _ _ _ => pts_nil) (fun _ _ _ _ _ => (pv 3)) (fun _ _ _ _ _ => (pe_lst pa_nil))))
      (pss_cons (ps_lock (ps_for PassesOwn.never rfl (pi_keys (pv 0)) (pg_name (i := 3) sc_in_order.nd rfl (.inl rfl))
        (pss_one (ps_for PassesOwn.never rfl (pi_list (pe_f O_names_in (hr.mono (by decide)) t.g_names_in (pa_cons (pe_dget hu (pv 0) (pv 3) (fun _ _ => rfl)) pa_nil))) (pg_name (i := 4) sc_in_order.nd rfl (.inl rfl))
          (pss_one (ps_expr (pe_bm PySem.F.plainAttrs_list PySem.F.slot_list_append PySem.F.type_list_append mt_append (pe_dget hu (pv 2) (pv 4) (fun _ _ => rfl)) (pa_cons (pv 3) pa_nil))))))))
      (pss_cons (ps_lock (ps_par (i := 5) (j := 6) rfl sc_in_order.nd rfl rfl (by decide) rfl rfl (pa_cons (pe_lc (own := [("name", 3)]) (g := gName 3) rfl sc_in_order.nd (pi_keys (pv 0)) (blkOk_by (own := [("name", 3)]) (N := ["rules", "lacking", "above", "name", "inner", "found", "at", "outer"]) (sc := defScope s_in_order) (by decide +kernel)) (fun _ _ _ _ _ => (pg_name (i := 3) sc_in_order.nd rfl (.inl rfl))) (fun _ _ _ _ _ => pts_one (pt_cmpR op_eq (pe_dget hu (pv 1) (pv 3) (fun _ _ => rfl)) pe_int (nomark _))) (fun _ _ _ _ _ => (pv 3))) (pa_cons pe_int pa_nil)) (by rfl)))
      (pss_cons (ps_while PassesOwn.never (pt_cmpR op_lt (pv 6) (pe_callB call_len_seq (by rfl) t.b_len bt_len (pa_cons (pv 5) pa_nil)) (nomark _))
        (pss_cons (ps_for PassesOwn.never rfl (pi_list (pe_dget hu (pv 2) (pe_ix ix_list (pv 5) (pv 6) (fun _ _ => rfl)) (fun _ _ => rfl))) (pg_name (i := 7) sc_in_order.nd rfl (.inl rfl))
          (pss_cons (ps_dput hu (pv 1) (pv 7) (pe_op op_sub (pe_dget hu (pv 1) (pv 7) (fun _ _ => rfl)) pe_int) rfl)
          (pss_one (ps_if (pt_cmpR op_eq (pe_dget hu (pv 1) (pv 7) (fun _ _ => rfl)) pe_int (nomark _))
            (pss_one (ps_expr (pe_bm PySem.F.plainAttrs_list PySem.F.slot_list_append PySem.F.type_list_append mt_append (pv 5) (pa_cons (pv 7) pa_nil))))
            pss_nil))))
        (pss_one (ps_set (i := 6) sc_in_order.nd rfl (.inl rfl) (pe_op op_add (pv 6) pe_int)))))
      (pss_one (ps_ret (pv 5)))))))), ?_⟩
    have rf := ok.few
    obtain ⟨ek, _⟩ := hR.kvs hd
    have lk : kvs.length = R.length := by
      have := congrArg List.length ek
      rw [List.length_map, List.length_map] at this
      exact this
    have keyAt : ∀ (i : Nat) k v, kvs[i]? = some (k, v) → ∃ p, R[i]? = some p ∧ k = .inr p.1 := fun i k v hk => by
      have hi := (List.getElem?_eq_some_iff.mp hk).1
      have g := List.getElem?_eq_getElem (show i < R.length by omega)
      refine ⟨_, g, ?_⟩
      have := congrArg (fun l => l[i]?) ek
      simp only [List.getElem?_map, hk, g] at this
      injection this
    have neAt : ∀ (i : Nat) p, R[i]? = some p → ∀ q ∈ R.take i, q.1 ≠ p.1 := fun i p hp q hq e => by
      obtain ⟨hi, rfl⟩ := List.getElem?_eq_some_iff.mp hp
      obtain ⟨j, hj, rfl⟩ := List.getElem_of_mem hq
      rw [List.length_take] at hj
      rw [List.getElem_take] at e
      have := List.pairwise_iff_getElem.mp ok.nd j i (by rw [List.length_map]; omega) (by rw [List.length_map]; omega) (by omega)
      rw [List.getElem_map, List.getElem_map] at this
      exact this e
    -- lacking
    refine ⟨d, _, hd, trivial, fun od => ⟨_, rfl, d, od, rfl, .inl ⟨kvs, upd_same, fun dl hdl => ?_⟩⟩⟩
    have hdl0 : H dl = none := by
      cases h : H dl with
      | none => rfl
      | some o =>
        by_cases c : dl = d
        · rw [c, upd_same] at hdl
          cases hdl
        · rw [upd_ne c, h] at hdl
          cases hdl
    have dld : dl ≠ d := fun e => by rw [e, hd] at hdl0; cases hdl0
    refine dc_it (walk_keys (kvs := kvs)) (fun i H' => Same (upd H d (.frz od (.dK kvs))) H' ∧ ∃ f, DF H' dl i f ∧ ∀ p ∈ R.take i, f (.inr p.1) = some (.int ((namesR p.2).length : Nat))) ⟨Same.new hdl, _, DF.nil, fun p hp => by simp at hp⟩ (fun i H' _ p => p.1 _ _ upd_same) (fun i x H1 H2 hi pp y => ?_) (fun H1 pp => ?_)
    · obtain ⟨s1, f, df, hf⟩ := pp
      obtain ⟨rfl, k, v, hk, rfl⟩ := y
      obtain ⟨p, hp, rfl⟩ := keyAt i k v hk
      obtain ⟨v2, hv2, hr2⟩ := ((hR.lock hd).mono s1).get ok.nd hp
      have rl := (ok.row p (List.mem_of_getElem? hp)).1
      refine ⟨rfl, tyes ⟨_, rfl, _, rfl, _, rfl, d, v2, rfl, hv2, v2, kk, p.2, rfl, hr2, by omega, fun H3 D3 _ s3 e3 => ⟨D3, _, rfl, .inl (SqL.of e3), ?_⟩⟩⟩
      obtain ⟨kvs3, e4, l4, hf4⟩ := (df.mono s3).ex
      have lput := length_putK kvs3 (.inr p.1) (V.int ((namesR p.2).length : Nat))
      refine ⟨kvs3, .inr p.1, rfl, e4, by rw [sizeLine_eq]; omega, ?_⟩
      rw [List.length_map]
      refine ⟨(s1.trans s3).mut (by rw [upd_ne dld]; exact hdl0), fun j => if j = .inr p.1 then some (.int ((namesR p.2).length : Nat)) else f j, ⟨_, upd_same, by omega, fun j => by rw [valV_put, hf4 j]⟩, fun q hq => ?_⟩
      rw [take_snoc hp] at hq
      rcases List.mem_append.mp hq with hq | hq
      · show (if Sum.inr q.1 = Sum.inr p.1 then _ else _) = _
        rw [if_neg (fun e => neAt i p hp q hq (by injection e))]
        exact hf q hq
      · rw [List.mem_singleton.mp hq]
        show (if Sum.inr p.1 = Sum.inr p.1 then _ else _) = _
        rw [if_pos rfl]
    · obtain ⟨s1, f, df, hf⟩ := pp
      rw [List.take_of_length_le (by omega)] at hf
      refine ⟨s1 _ _ upd_same, ?_⟩
      have sA := lock_same hd s1
      have dfA := df.ne (o := .dK kvs) dld
      have hdA : (upd H1 d (.dK kvs)) d = some (.dK kvs) := upd_same
      generalize upd H1 d (.dK kvs) = HA at sA dfA hdA
      clear s1 df
      have Linit : ∃ L : Str → Int, ∀ p ∈ R, L p.1 = (namesR p.2).length := by
        refine ⟨fun x => match f (.inr x) with | some (.int z) => z | _ => 0, fun p hp => ?_⟩
        show (match f (.inr p.1) with | some (.int z) => z | _ => 0) = _
        rw [hf p hp]
      obtain ⟨L0, hL0⟩ := Linit
      have lkA : LK HA dl (R.map fun p => p.1) L0 := ⟨_, f, by omega, dfA, fun n hn => by
        obtain ⟨p, hp, rfl⟩ := List.mem_map.mp hn
        show f (.inr p.1) = some (.int (L0 p.1))
        rw [hf p hp, hL0 p hp]⟩
      clear dfA hf f
      -- above
      refine ⟨d, _, hdA, trivial, fun od2 => ⟨_, rfl, d, od2, rfl, .inl ⟨kvs, upd_same, fun da hda => ?_⟩⟩⟩
      have hdaA : HA da = none := by
        cases h : HA da with
        | none => rfl
        | some o =>
          by_cases c : da = d
          · rw [c, upd_same] at hda
            cases hda
          · rw [upd_ne c, h] at hda
            cases hda
      have hda0 : H da = none := by
        cases h : H da with
        | none => rfl
        | some o => rw [sA _ _ h] at hdaA; cases hdaA
      have dad : da ≠ d := fun e => by rw [e, hd] at hda0; cases hda0
      have dal : da ≠ dl := fun e => by
        obtain ⟨k, hk⟩ := lkA.isK
        rw [e, hk] at hdaA
        cases hdaA
      refine dc_it (walk_keys (kvs := kvs)) (fun i H' => Same (upd HA d (.frz od2 (.dK kvs))) H' ∧ ∃ B f, DF H' da i f ∧ (∀ p ∈ R.take i, f (.inr p.1) = some (.ref (B p.1)) ∧ H' (B p.1) = some (.lst []) ∧ HA (B p.1) = none) ∧ ∀ p ∈ R.take i, ∀ q ∈ R.take i, B p.1 = B q.1 → p.1 = q.1) ⟨Same.new hda, fun _ => 0, _, DF.nil, fun p hp => by simp at hp, fun p hp => by simp at hp⟩ (fun i H' _ p => p.1 _ _ upd_same) (fun i x H1 H2 hi pp y => ?_) (fun H1 pp => ?_)
      · obtain ⟨s1, B, f, df, hf, inj⟩ := pp
        obtain ⟨rfl, k, v, hk, rfl⟩ := y
        obtain ⟨p, hp, rfl⟩ := keyAt i k v hk
        refine ⟨rfl, tyes ⟨_, rfl, by decide, fun b hb => ?_⟩⟩
        have s2 := Same.new (o := .lst []) hb
        obtain ⟨kvs3, e4, l4, hf4⟩ := (df.mono s2).ex
        have lput := length_putK kvs3 (.inr p.1) (V.ref b)
        have hbA : HA b = none := by
          cases h : HA b with
          | none => rfl
          | some o =>
            by_cases c : b = d
            · have := s1 d _ upd_same
              rw [c, this] at hb
              cases hb
            · have := s1 b o (by rw [upd_ne c]; exact h)
              rw [this] at hb
              cases hb
        have bda : b ≠ da := fun e => by
          obtain ⟨k3, e3, _⟩ := df.ex
          rw [e, e3] at hb
          cases hb
        refine ⟨kvs3, .inr p.1, rfl, e4, by rw [sizeLine_eq]; omega, ?_⟩
        refine ⟨(s1.trans s2).mut (by rw [upd_ne dad]; exact hdaA), fun z => if z = p.1 then b else B z, fun j => if j = .inr p.1 then some (.ref b) else f j, ⟨_, upd_same, by omega, fun j => by rw [valV_put, hf4 j]⟩, fun q hq => ?_, fun q hq q' hq' e => ?_⟩
        · rw [take_snoc hp] at hq
          rcases List.mem_append.mp hq with hq | hq
          · have ne := neAt i p hp q hq
            obtain ⟨h1, h2, h3⟩ := hf q hq
            have eB : (fun z => if z = p.1 then b else B z) q.1 = B q.1 := if_neg ne
            rw [eB]
            refine ⟨(if_neg (fun e => ne (by injection e))).trans h1, ?_, h3⟩
            rw [upd_ne (fun e => by
              obtain ⟨k3, e3, _⟩ := df.ex
              rw [e, e3] at h2
              cases h2)]
            exact s2 _ _ h2
          · rw [List.mem_singleton.mp hq]
            have eB : (fun z => if z = p.1 then b else B z) p.1 = b := if_pos rfl
            rw [eB]
            refine ⟨if_pos rfl, ?_, hbA⟩
            rw [upd_ne bda, upd_same]
        · rw [take_snoc hp] at hq hq'
          have old : ∀ q ∈ R.take i, B q.1 ≠ b := fun q hq e => by
            have := (hf q hq).2.1
            rw [e, hb] at this
            cases this
          have e : (if q.1 = p.1 then b else B q.1) = (if q'.1 = p.1 then b else B q'.1) := e
          rcases List.mem_append.mp hq with h1 | h1
          · rw [if_neg (neAt i p hp q h1)] at e
            rcases List.mem_append.mp hq' with h2 | h2
            · rw [if_neg (neAt i p hp q' h2)] at e
              exact inj q h1 q' h2 e
            · rw [List.mem_singleton.mp h2, if_pos rfl] at e
              exact absurd e (old q h1)
          · rw [List.mem_singleton.mp h1, if_pos rfl] at e
            rcases List.mem_append.mp hq' with h2 | h2
            · rw [if_neg (neAt i p hp q' h2)] at e
              exact absurd e.symm (old q' h2)
            · rw [List.mem_singleton.mp h1, List.mem_singleton.mp h2]
      · obtain ⟨s1, B, f, df, hf, inj⟩ := pp
        rw [List.take_of_length_le (by omega)] at hf inj
        refine ⟨s1 _ _ upd_same, ?_⟩
        have sB := lock_same hdA s1
        have hBd : ∀ p ∈ R, B p.1 ≠ d := fun p hp e => by
          have := (hf p hp).2.2
          rw [e, hdA] at this
          cases this
        have abB : AB H (upd H1 d (.dK kvs)) da (R.map fun p => p.1) B fun _ => [] := by
          refine ⟨⟨_, f, by omega, df.ne dad, fun n hn => ?_⟩, fun n hn => ?_, fun n hn n' hn' e => ?_, fun n hn => ?_⟩
          · obtain ⟨p, hp, rfl⟩ := List.mem_map.mp hn
            exact (hf p hp).1
          · obtain ⟨p, hp, rfl⟩ := List.mem_map.mp hn
            rw [upd_ne (hBd p hp)]
            exact (hf p hp).2.1
          · obtain ⟨p, hp, rfl⟩ := List.mem_map.mp hn
            obtain ⟨p', hp', rfl⟩ := List.mem_map.mp hn'
            exact inj p hp p' hp' e
          · obtain ⟨p, hp, rfl⟩ := List.mem_map.mp hn
            show H (B p.1) = none
            cases h : H (B p.1) with
            | none => rfl
            | some o =>
              have := (hf p hp).2.2
              rw [sA _ _ h] at this
              cases this
        have hdB : (upd H1 d (.dK kvs)) d = some (.dK kvs) := upd_same
        have lkB := lkA.mono sB
        have sHB := sA.trans sB
        generalize upd H1 d (.dK kvs) = HB at sB abB hdB lkB sHB
        clear s1 df hf inj f
        have hNy : ∀ p ∈ R, ∀ y ∈ namesR p.2, y ∈ R.map fun p => p.1 := fun p hp y hy => by
          have := ok.nrs.ins (p.1, namesR p.2) (List.mem_map.mpr ⟨p, hp, rfl⟩) y hy
          rw [nrs_names] at this
          exact this
        have hBdn : ∀ {H' : Hp} {U : Str → List Str}, AB H H' da (R.map fun p => p.1) B U → ∀ n ∈ R.map (fun p => p.1), B n ≠ d := fun ab n hn e => by
          have := ab.fresh n hn
          rw [e, hd] at this
          cases this
        -- who stands above whom
        refine ⟨d, _, hdB, trivial, fun od3 => ⟨_, rfl, d, od3, rfl, .inl ⟨kvs, upd_same, ?_⟩⟩⟩
        refine for_it (walk_keys (kvs := kvs)) (fun i σ H' => Same (upd H d (.frz od3 (.dK kvs))) H' ∧ ∃ u3 u4, σ = [some (.ref d), some (.ref dl), some (.ref da), u3, u4, none, none, none] ∧ AB H H' da (R.map fun p => p.1) B (fun x => upL (nrsOf (R.take i)) x) ∧ LK H' dl (R.map fun p => p.1) L0)
          ⟨lock_same2 sHB, none, none, rfl, ((abB.congr fun n _ => rfl).ne dad (hBdn abB)), lkB.ne dld⟩ (fun i σ H' _ p => p.1 _ _ upd_same) (fun i x σ H1 H2 hi pp y => ?_) (fun σ H1 pp => ?_)
        · obtain ⟨s1, u3, u4, rfl, ab, lkk⟩ := pp
          obtain ⟨rfl, k, v, hk, rfl⟩ := y
          obtain ⟨p, hp, rfl⟩ := keyAt i k v hk
          have pm := List.mem_of_getElem? hp
          obtain ⟨v2, hv2, hr2⟩ := ((hR.lock (od := od3) hd).mono s1).get ok.nd hp
          have rl := (ok.row p pm).1
          have nl := namesR_len p.2
          refine ⟨_, rfl, _, rfl, d, v2, rfl, hv2, v2, kk, p.2, rfl, hr2, by omega, fun H3 Dn fn s3 en => ⟨Dn, rfl, ⟨_, SqL.of en⟩, ?_⟩⟩
          have dnB : ∀ n ∈ R.map (fun p => p.1), B n ≠ Dn := fun n hn e => by
            have := ab.ls n hn
            rw [e, fn] at this
            cases this
          refine for_it (walk_list (xs := (namesR p.2).map V.str)) (fun j σ H' => Same (upd H d (.frz od3 (.dK kvs))) H' ∧ H' Dn = some (.lst ((namesR p.2).map V.str)) ∧ ∃ u4, σ = [some (.ref d), some (.ref dl), some (.ref da), some (.str p.1), u4, none, none, none] ∧ AB H H' da (R.map fun p => p.1) B (fun x => upL (nrsOf (R.take i)) x ++ (((namesR p.2).take j).filter fun y => decide (y = x)).map fun _ => p.1) ∧ LK H' dl (R.map fun p => p.1) L0)
            ⟨s1.trans s3, en, u4, rfl, (ab.mono s3).congr fun n _ => by simp, lkk.mono s3⟩ (fun j σ H' _ p => SqL.of p.2.1) (fun j x σ H4 H5 hj p2 y => ?_) (fun σ H4 p2 => ?_)
          · obtain ⟨s4, en4, u4, rfl, ab4, lk4⟩ := p2
            obtain ⟨rfl, hx⟩ := y
            obtain ⟨z, hz, rfl⟩ := strs_at hx
            have zN := hNy p pm z (List.mem_of_getElem? hz)
            have lU : (upL (nrsOf (R.take i)) z ++ (((namesR p.2).take j).filter fun y => decide (y = z)).map fun _ => p.1).length < sizeLine := by
              have h1 := upL_len (R := R.take i) (fun q hq => (ok.row q (List.mem_of_mem_take hq)).1) z
              have h2 := List.length_filter_le (fun y => decide (y = z)) ((namesR p.2).take j)
              rw [List.length_take] at h1 h2
              rw [List.length_append, List.length_map, sizeLine_eq]
              omega
            refine ⟨_, rfl, _, rfl, da, _, rfl, ab4.get zN, .inl ⟨rfl, _, SqL.of (ab4.ls z zN)⟩, _, rfl, B z, _, _, rfl, rfl, ab4.ls z zN, by rw [List.length_map]; exact lU, ?_⟩
            have ne0 : (upd H d (.frz od3 (.dK kvs))) (B z) = none := by
              rw [upd_ne (hBdn ab4 z zN)]
              exact ab4.fresh z zN
            refine ⟨s4.mut ne0, ?_, _, rfl, (ab4.push zN (y := p.1)).congr fun x hx => ?_, lk4.ne (fun e => ?_)⟩
            · rw [upd_ne (Ne.symm (dnB z zN))]
              exact en4
            · show (if x = z then _ else _) = _
              rw [take_snoc hz, List.filter_append]
              by_cases c : x = z
              · subst c
                rw [if_pos rfl, List.filter_cons, decide_eq_true rfl]
                simp
              · rw [if_neg c, List.filter_cons, decide_eq_false (Ne.symm c)]
                simp
            · obtain ⟨k5, h5⟩ := lk4.isK
              rw [e, ab4.ls z zN] at h5
              cases h5
          · obtain ⟨s4, en4, u4, rfl, ab4, lk4⟩ := p2
            refine ⟨s4, _, _, rfl, ab4.congr fun x _ => ?_, lk4⟩
            rw [upL_snoc hp, List.length_map, List.take_of_length_le (Nat.le_refl _)]
        · obtain ⟨s1, u3, u4, rfl, ab, lkk⟩ := pp
          rw [List.take_of_length_le (by omega)] at ab
          refine ⟨s1 _ _ upd_same, ?_⟩
          have sC := lock_same hd s1
          have abC := ab.ne (o := .dK kvs) dad (hBdn ab)
          have lkC := lkk.ne (o := .dK kvs) dld
          have hdC : (upd H1 d (.dK kvs)) d = some (.dK kvs) := upd_same
          generalize upd H1 d (.dK kvs) = HC at sC abC lkC hdC
          clear s1 ab lkk
          -- those that need none
          refine ⟨d, _, hdC, trivial, fun od4 => ⟨_, rfl, d, od4, rfl, .inl ⟨kvs, upd_same, fun F hF => ?_⟩⟩⟩
          have lkL := lkC.ne (o := .frz od4 (.dK kvs)) dld
          have hF0 : HC F = none := by
            cases h : HC F with
            | none => rfl
            | some o =>
              by_cases c : F = d
              · rw [c, upd_same] at hF
                cases hF
              · rw [upd_ne c, h] at hF
                cases hF
          refine lc_dat (K := K) (walk_keys (kvs := kvs)) hF (by omega) (fun H' s2 => s2 _ _ upd_same) (fun i => decide (L0 (R.getD i (⟨#[]⟩, [])).1 = 0)) (fun i => .v (.str (R.getD i (⟨#[]⟩, [])).1)) (fun i => rfl) (fun i x H2 H3 hi s2 y Qk kf kt => ?_) (fun H4 ys s2 e r' => ?_)
          · obtain ⟨rfl, k, v, hk, rfl⟩ := y
            obtain ⟨p, hp, rfl⟩ := keyAt i k v hk
            have gp : R.getD i (⟨#[]⟩, []) = p := getD_at hp
            have pN : p.1 ∈ R.map fun p => p.1 := List.mem_map.mpr ⟨p, List.mem_of_getElem? hp, rfl⟩
            refine ⟨rfl, _, rfl, _, rfl, dl, _, rfl, (lkL.mono s2).get pN, rfl, decide (L0 p.1 = 0), ?_, ?_⟩
            · refine congrArg V.bl ?_
              by_cases c : L0 p.1 = 0
              · rw [decide_eq_true c, decide_eq_true (by rw [c])]
              · rw [decide_eq_false c, decide_eq_false (fun h => c (by injection h))]
            · by_cases c : L0 p.1 = 0
              · rw [decide_eq_true c]
                exact iteT ⟨_, rfl, kt _ _ (Same.refl _) (by rw [gp]; exact decide_eq_true c) (by rw [gp]; exact .v _)⟩
              · rw [decide_eq_false c]
                exact iteF (kf _ (Same.refl _) (by rw [gp]; exact decide_eq_false c))
          · have e3 : ((List.range kvs.length).filter fun i => decide (L0 (R.getD i (⟨#[]⟩, [])).1 = 0)).map (fun i => Dat.v (.str (R.getD i (⟨#[]⟩, [])).1)) = fD ((((nrsOf R).map fun p => p.1).filter fun n => decide (L0 n = 0)).map V.str) := by
              rw [lk, nrs_names]
              unfold fD
              rw [List.filter_map, List.map_map, List.map_map]
              exact range_filter (xs := R) (⟨#[]⟩, []) (fun p => decide (L0 p.1 = 0)) fun p => Dat.v (.str p.1)
            rw [e3] at r'
            rw [r'.unflat] at e
            refine ⟨_, _, rfl, s2 _ _ upd_same, ?_⟩
            have sD := lock_same hdC s2
            have sHD := sC.trans sD
            have abD := abC.mono sD
            have lkD := lkC.mono sD
            have Fd : F ≠ d := fun e5 => by rw [e5, hdC] at hF0; cases hF0
            have eF : (upd H4 d (.dK kvs)) F = some (.lst ((((nrsOf R).map fun p => p.1).filter fun n => decide (L0 n = 0)).map V.str)) := by
              rw [upd_ne Fd]
              exact e
            have FB : ∀ n ∈ R.map (fun p => p.1), B n ≠ F := fun n hn e5 => by
              have := abC.ls n hn
              rw [e5, hF0] at this
              cases this
            have Fdl : dl ≠ F := fun e5 => by
              obtain ⟨k5, h5⟩ := lkC.isK
              rw [e5, hF0] at h5
              cases h5
            have Fda : da ≠ F := fun e5 => by
              obtain ⟨k5, h5⟩ := abC.isK
              rw [e5, hF0] at h5
              cases h5
            have hFH : H F = none := by
              cases h : H F with
              | none => rfl
              | some o => rw [sC _ _ h] at hF0; cases hF0
            generalize upd H4 d (.dK kvs) = HD at sD sHD abD lkD eF
            clear s2 e r'
            have k0 : K0 (nrsOf R) [] (((nrsOf R).map fun p => p.1).filter fun n => decide (L0 n = 0)) L0 := K0.start ok.nrs fun p hp => by
              obtain ⟨q, hq, rfl⟩ := List.mem_map.mp hp
              exact hL0 q hq
            have lNR : (nrsOf R).length = R.length := by unfold nrsOf; rw [List.length_map]
            have nN := nrs_names R
            -- one by one
            refine ⟨fun k σ H' => Same H H' ∧ ∃ (P found : List Str) (L : Str → Int) (u7 : Option V), k = R.length - P.length ∧ σ = [some (.ref d), some (.ref dl), some (.ref da), u3, u4, some (.ref F), some (.int (P.length : Nat)), u7] ∧ K0 (nrsOf R) P found L ∧ H' F = some (.lst (found.map V.str)) ∧ AB H H' da (R.map fun p => p.1) B (fun x => upL (nrsOf R) x) ∧ LK H' dl (R.map fun p => p.1) L,
              ⟨R.length - 0, sHD, [], _, L0, none, rfl, rfl, k0, eF, abD, lkD⟩, ?_⟩
            rintro k σ H5 ⟨s5, P, found, L, u7, rfl, rfl, k0, eF, ab, lkk⟩
            have lf := k0.small
            rw [lNR] at lf
            obtain ⟨r0, hr0⟩ := k0.hd
            have lP : found.length = P.length + r0.length := by rw [hr0, List.length_append]
            refine ⟨_, rfl, _, rfl, F, _, rfl, .inl (SqL.of eF), _, _, rfl, rfl, decide (P.length < found.length), ?_, ?_⟩
            · show V.bl (decide (((P.length : Nat) : Int) < ((found.map V.str).length : Nat))) = _
              rw [List.length_map, dec_nat]
            by_cases c : P.length < found.length
            · rw [decide_eq_true c]
              refine iteT ⟨fun σ' H' => ∃ m', m' < R.length - P.length ∧ (Same H H' ∧ ∃ (P found : List Str) (L : Str → Int) (u7 : Option V), m' = R.length - P.length ∧ σ' = [some (.ref d), some (.ref dl), some (.ref da), u3, u4, some (.ref F), some (.int (P.length : Nat)), u7] ∧ K0 (nrsOf R) P found L ∧ H' F = some (.lst (found.map V.str)) ∧ AB H H' da (R.map fun p => p.1) B (fun x => upL (nrsOf R) x) ∧ LK H' dl (R.map fun p => p.1) L), fun _ _ h => h, ?_⟩
              have gx := List.getElem?_eq_getElem c
              have k1 := k0.to1 gx
              generalize hx : found[P.length] = x at *
              have xN : x ∈ R.map fun p => p.1 := by
                rw [← nN]
                exact k0.sub x (List.mem_of_getElem? gx)
              refine ⟨.ref da, rfl, .ref F, rfl, _, rfl, F, _, _, _, rfl, rfl, SqL.of eF, atI_nat (at_strs gx), da, _, rfl, ab.get xN, B x, rfl, ⟨_, SqL.of (ab.ls x xN)⟩, ?_⟩
              refine for_it (walk_list (xs := (upL (nrsOf R) x).map V.str)) (fun j σ H' => Same H H' ∧ ∃ (found : List Str) (L : Str → Int) (u7 : Option V), σ = [some (.ref d), some (.ref dl), some (.ref da), u3, u4, some (.ref F), some (.int (P.length : Nat)), u7] ∧ K1 (nrsOf R) P x ((upL (nrsOf R) x).take j) found L ∧ H' F = some (.lst (found.map V.str)) ∧ AB H H' da (R.map fun p => p.1) B (fun x => upL (nrsOf R) x) ∧ LK H' dl (R.map fun p => p.1) L)
                ⟨s5, found, L, u7, rfl, k1, eF, ab, lkk⟩ (fun j σ H' _ p => by obtain ⟨_, _, _, _, _, _, _, ab, _⟩ := p; exact SqL.of (ab.ls x xN)) (fun j y σ H6 H7 hj p2 yy => ?_) (fun σ H6 p2 => ?_)
              · obtain ⟨s6, found, L, u7, rfl, k1, eF, ab, lkk⟩ := p2
                obtain ⟨rfl, hy⟩ := yy
                obtain ⟨z, hz, rfl⟩ := strs_at hy
                have hz2 := (List.getElem?_eq_some_iff.mp hz)
                obtain ⟨hz3, hz4⟩ := hz2
                have zN : z ∈ R.map fun p => p.1 := by
                  rw [← nN]
                  exact upL_mem (x := x) (List.mem_of_getElem? hz)
                have he : upL (nrsOf R) x = (upL (nrsOf R) x).take j ++ z :: (upL (nrsOf R) x).drop (j + 1) := by
                  conv => lhs; rw [← List.take_append_drop j (upL (nrsOf R) x), List.drop_eq_getElem_cons hz3, hz4]
                have k2 := k1.step ok.nrs he
                rw [← take_snoc hz] at k2
                obtain ⟨kvs', p1, lk2⟩ := lkk.put zN (L z - 1)
                obtain ⟨kl, hkl⟩ := lkk.isK
                have dlF : F ≠ dl := Ne.symm Fdl
                have ab2 := ab.ne (o := .dK kvs') dal (fun n hn e => by
                  have := ab.ls n hn
                  rw [e, hkl] at this
                  cases this)
                have eF2 : (upd H7 dl (.dK kvs')) F = some (.lst (found.map V.str)) := by
                  rw [upd_ne dlF]
                  exact eF
                have s7 : Same H (upd H7 dl (.dK kvs')) := s6.mut hdl0
                refine ⟨.ref dl, rfl, _, rfl, dl, _, rfl, lkk.get zN, _, _, rfl, rfl, .ref dl, rfl, _, rfl, dl, _, rfl, p1, ?_⟩
                generalize upd H7 dl (.dK kvs') = H8 at lk2 ab2 eF2 s7
                have g8 := lk2.get zN
                rw [if_pos rfl] at g8
                refine ⟨.ref dl, rfl, _, rfl, dl, _, rfl, g8, rfl, decide (L z - 1 = 0), ?_, ?_⟩
                · refine congrArg V.bl ?_
                  by_cases c : L z - 1 = 0
                  · rw [decide_eq_true c, decide_eq_true (by rw [c])]
                  · rw [decide_eq_false c, decide_eq_false (fun h => c (by injection h))]
                have lf2 : found.length ≤ R.length := by
                  have := nodup_len found _ k1.nd k1.sub
                  rw [nN, List.length_map] at this
                  exact this
                by_cases c : L z - 1 = 0
                · rw [decide_eq_true c]
                  rw [if_pos c] at k2
                  refine iteT ⟨.ref F, rfl, .inl ⟨rfl, _, SqL.of eF2⟩, _, rfl, F, _, _, rfl, rfl, eF2, by rw [List.length_map, sizeLine_eq]; omega, ?_⟩
                  refine ⟨s7.mut hFH, _, _, _, rfl, k2, ?_, ab2.ne (fun e => Fda e) FB, lk2.ne Fdl⟩
                  rw [upd_same, List.map_append]
                  rfl
                · rw [decide_eq_false c]
                  rw [if_neg c] at k2
                  exact iteF ⟨s7, _, _, _, rfl, k2, eF2, ab2, lk2⟩
              · obtain ⟨s6, found2, L2, u72, rfl, k1, eF, ab, lkk⟩ := p2
                rw [List.length_map, List.take_of_length_le (Nat.le_refl _)] at k1
                have k3 := k1.done ok.nrs
                refine ⟨_, rfl, _, _, rfl, rfl, ?_⟩
                refine ⟨R.length - (P ++ [x]).length, by rw [List.length_append, List.length_singleton]; omega, s6, P ++ [x], found2, L2, u72, rfl, ?_, k3, eF, ab, lkk⟩
                rw [List.length_append]
                rfl
            · rw [decide_eq_false c]
              have er0 : r0 = [] := List.length_eq_zero_iff.mp (by omega)
              subst er0
              rw [List.append_nil] at hr0
              subst hr0
              refine iteF ⟨_, rfl, q H5 F found s5 eF k0.nd (fun y => ⟨fun h => by rw [← nN]; exact k0.sub y h, fun h => k0.all ok.nrs y (by rw [nN]; exact h)⟩) fun i p hp hi y hy => ?_⟩
              exact k0.topo i (p.1, namesR p.2) (List.mem_map.mpr ⟨p, hp, rfl⟩) hi y hy
end
end WV
end
section
set_option maxRecDepth 100000
set_option maxHeartbeats 4000000
namespace WV
open PySem PySem.Spec PyProof.Rows L2
/-! ### names below -/
def trueD (S : List Str) : List (Key × V) := S.map fun x => (Sum.inr x, V.bl true)
theorem trueD_get {S : List Str} (x : Str) : valV (trueD S) (.inr x) = if x ∈ S then some (.bl true) else none := by
  induction S with
  | nil => rfl
  | cons y S ih =>
    by_cases c : y = x
    · subst c
      rw [if_pos List.mem_cons_self]
      exact valV_pos rfl
    · have : valV (trueD (y :: S)) (.inr x) = valV (trueD S) (.inr x) := valV_neg (fun e => c (by injection e))
      rw [this, ih]
      by_cases d : x ∈ S
      · rw [if_pos d, if_pos (List.mem_cons_of_mem _ d)]
      · rw [if_neg d, if_neg (fun h => by rcases List.mem_cons.mp h with h | h; exact c h.symm; exact d h)]
theorem trueD_put {S : List Str} {x : Str} (h : x ∉ S) : putK (trueD S) (.inr x) (.bl true) = trueD (S ++ [x]) := by
  rw [putK_new _ (by rw [trueD_get, if_neg h])]
  unfold trueD
  rw [List.map_append]
  rfl
theorem trueD_put' {S : List Str} {x : Str} (h : x ∈ S) : putK (trueD S) (.inr x) (.bl true) = trueD S := by
  unfold putK
  rw [valV_any, trueD_get, if_pos h]
  show (if true = true then _ else _ : List (Key × V)) = _
  rw [if_pos rfl]
  unfold trueD
  rw [List.map_map]
  refine List.map_congr_left fun y _ => ?_
  show (if (Sum.inr y : Key) = Sum.inr x then ((Sum.inr y : Key), V.bl true) else (Sum.inr y, V.bl true)) = _
  by_cases c : (Sum.inr y : Key) = Sum.inr x
  · rw [if_pos c]
  · rw [if_neg c]
def muR (R : Rules) (S : List Str) : Nat := (R.map fun p => if p.1 ∈ S then 0 else 1 + (namesR p.2).length).sum
theorem muR_mono {S : List Str} {x : Str} : ∀ R : Rules, muR R (S ++ [x]) ≤ muR R S
  | [] => Nat.le_refl _
  | q :: R => by
    have ih := muR_mono (S := S) (x := x) R
    unfold muR at ih ⊢
    rw [List.map_cons, List.map_cons, List.sum_cons, List.sum_cons]
    by_cases c : q.1 ∈ S
    · rw [if_pos c, if_pos (List.mem_append_left _ c)]
      omega
    · rw [if_neg c]
      by_cases d : q.1 ∈ S ++ [x]
      · rw [if_pos d]
        omega
      · rw [if_neg d]
        omega
theorem muR_drop {S : List Str} : ∀ (R : Rules) (p : Str × Row), p ∈ R → p.1 ∉ S → muR R (S ++ [p.1]) + 1 + (namesR p.2).length ≤ muR R S
  | [], p, h, _ => by cases h
  | q :: R, p, h, hS => by
    have e1 : ∀ S, muR (q :: R) S = (if q.1 ∈ S then 0 else 1 + (namesR q.2).length) + muR R S := fun S => by
      unfold muR
      rw [List.map_cons, List.sum_cons]
    rw [e1, e1]
    rcases List.mem_cons.mp h with rfl | h
    · have := muR_mono (S := S) (x := p.1) R
      rw [if_neg hS, if_pos (by simp)]
      omega
    · have ih := muR_drop R p h hS
      by_cases c : q.1 ∈ S
      · rw [if_pos c, if_pos (List.mem_append_left _ c)]
        omega
      · rw [if_neg c]
        by_cases d : q.1 ∈ S ++ [p.1]
        · rw [if_pos d]
          omega
        · rw [if_neg d]
          omega
theorem muR_le {R : Rules} (h : ∀ p ∈ R, p.2.length ≤ 40) (S : List Str) : muR R S ≤ R.length * 41 := by
  induction R with
  | nil => exact Nat.zero_le _
  | cons q R ih =>
    have e1 : muR (q :: R) S = (if q.1 ∈ S then 0 else 1 + (namesR q.2).length) + muR R S := by
      unfold muR
      rw [List.map_cons, List.sum_cons]
    rw [e1, List.length_cons]
    have := ih fun p hp => h p (List.mem_cons_of_mem _ hp)
    have h1 := h q List.mem_cons_self
    have h2 := namesR_len q.2
    by_cases c : q.1 ∈ S
    · rw [if_pos c]
      omega
    · rw [if_neg c]
      omega
/-- all that the names of S need is in S, or waits -/
def Clo (R : Rules) (S W : List Str) : Prop := ∀ p ∈ R, p.1 ∈ S → ∀ y ∈ namesR p.2, y ∈ S ∨ y ∈ W
section
variable {P : Program} {w : World} {K : PySem.W.Frag} {mg : Str → Option Value} {base : Heap}
theorem sc_names_below : FnScope ["rules", "name", "met", "waiting", "here"] ["rules", "name"] (defScope s_names_below) := ⟨rfl, rfl, rfl, by decide +kernel, rfl, by decide +kernel, by decide +kernel⟩
def sp_names_below (K : PySem.W.Frag) : Sp := fun vs H Q _ => ∃ (d : Addr) (n : Int) (kk : Bool) (R : Rules) (p0 : Str × Row), vs = [.ref d, .str p0.1] ∧ RulesAt K H d kk R ∧ ROk n R ∧ p0 ∈ R ∧
  ∀ H' D S, H D = none → Same H H' → H' D = some (.dK (trueD S)) → (∀ x ∈ S, x ∈ R.map fun p => p.1) → S.Nodup → Clo R S [] → (∀ y ∈ namesR p0.2, y ∈ S) → Q (.ref D) H'
theorem ok_names_below (t : T K mg) : Okf P w K mg base 2 ("names_below", none) ["rules", "name"] [] (sp_names_below K) := by
  have O_names_in := ok_names_in (P := P) (w := w) (base := base) t
  refine okf (d := d_names_below) t 50 rfl rfl sc_names_below (fun _ _ _ _ _ _ us hl => match us, hl with | [_, _], _ => rfl) (fun vs H Q E h => ?_) (fun cdv A outer s H vs Q E hr h => ?_)
  · obtain ⟨d, n, kk, R, p0, rfl, _⟩ := h
    rfl
  · obtain ⟨d, n, kk, R, p0, rfl, hR, ok, hp0, q⟩ := h
    have hu := hu_of hr
    refine ⟨_, (pss_cons (ps_par (i := 2) (j := 3) rfl sc_names_below.nd rfl rfl (by decide) rfl rfl (pa_cons pe_dnewK (pa_cons (pe_f O_names_in (hr.mono (by decide)) t.g_names_in (pa_cons (pe_dget hu (pv 0) (pv 1) (fun _ _ => rfl)) pa_nil)) pa_nil)) (by rfl))
      (pss_cons (ps_while PassesOwn.never (pt_truth (pv 3) (by intro _; rfl))
        (pss_cons (ps_set (i := 4) sc_names_below.nd rfl (.inl rfl) (pe_bm0 PySem.F.plainAttrs_list PySem.F.slot_list_pop PySem.F.type_list_pop mt_pop (pv 3)))
        (pss_one (ps_if (pt_cmp (pc_dnotin hu (pv 4) (pv 2)))
          (pss_cons (ps_dput hu (pv 2) (pv 4) pe_bl rfl)
          (pss_one (ps_expr (pe_bm PySem.F.plainAttrs_list PySem.F.slot_list_extend PySem.F.type_list_extend mt_extendA (pv 3) (pa_cons (pe_f O_names_in (hr.mono (by decide)) t.g_names_in (pa_cons (pe_dget hu (pv 0) (pv 4) (fun _ _ => rfl)) pa_nil)) pa_nil)))))
          pss_nil))))
      (pss_one (ps_ret (pv 2))))), ?_⟩
    have rf := ok.few
    have hNy : ∀ p ∈ R, ∀ y ∈ namesR p.2, y ∈ R.map fun p => p.1 := fun p hp y hy => by
      have := ok.nrs.ins (p.1, namesR p.2) (List.mem_map.mpr ⟨p, hp, rfl⟩) y hy
      rw [nrs_names] at this
      exact this
    have rl : ∀ p ∈ R, (namesR p.2).length ≤ 40 := fun p hp => Nat.le_trans (namesR_len p.2) (ok.row p hp).1
    obtain ⟨i0, hi0, e0⟩ := List.getElem_of_mem hp0
    intro D hD
    have s1 := Same.new (o := .dK []) hD
    have eD : (upd H D (.dK [])) D = some (.dK (trueD [])) := upd_same
    have hR1 := hR.mono s1
    generalize upd H D (.dK []) = H1 at s1 eD hR1
    obtain ⟨v, hv, hr2⟩ := hR1.get ok.nd (i := i0) (p := p0) (by rw [← e0]; exact List.getElem?_eq_getElem hi0)
    refine ⟨_, rfl, _, rfl, d, v, rfl, hv, v, kk, p0.2, rfl, hr2, Nat.le_trans (ok.row p0 hp0).1 (by decide), fun H2 W hW s2 eW => ⟨_, _, rfl, ?_⟩⟩
    have WD : W ≠ D := fun e => by rw [e, eD] at hW; cases hW
    have hWH : H W = none := by
      cases h : H W with
      | none => rfl
      | some o => rw [s1 _ _ h] at hW; cases hW
    have ml := muR_le (fun p hp => (ok.row p hp).1) []
    refine ⟨fun k σ H' => Same H H' ∧ ∃ (S ws : List Str) (u : Option V), k = ws.length + muR R S ∧ σ = [some (.ref d), some (.str p0.1), some (.ref D), some (.ref W), u] ∧ H' D = some (.dK (trueD S)) ∧ H' W = some (.lst (ws.map V.str)) ∧ (∀ x ∈ S, x ∈ R.map fun p => p.1) ∧ (∀ x ∈ ws, x ∈ R.map fun p => p.1) ∧ S.Nodup ∧ Clo R S ws ∧ (∀ y ∈ namesR p0.2, y ∈ S ∨ y ∈ ws) ∧ ws.length + muR R S ≤ 5000,
      ⟨_, s1.trans s2, [], namesR p0.2, none, rfl, rfl, s2 _ _ eD, eW, fun x h => absurd h List.not_mem_nil, hNy p0 hp0, .nil, fun p _ h => absurd h List.not_mem_nil, fun y hy => .inr hy, by have := rl p0 hp0; omega⟩, ?_⟩
    rintro k σ H3 ⟨s3, S, ws, u, rfl, rfl, eD, eW, hS, hws, nd, clo, base0, bd⟩
    refine ⟨_, rfl, !ws.isEmpty, .inl ⟨_, SqL.of eW, by cases ws <;> rfl⟩, ?_⟩
    cases hw : ws.reverse with
    | nil =>
      have e : ws = [] := by simpa using hw
      subst e
      exact iteF ⟨_, rfl, q H3 D S hD s3 eD hS nd clo fun y hy => (base0 y hy).resolve_right List.not_mem_nil⟩
    | cons x r =>
      have ew : ws = r.reverse ++ [x] := by
        have := congrArg List.reverse hw
        rw [List.reverse_reverse, List.reverse_cons] at this
        exact this
      generalize r.reverse = ws0 at ew
      subst ew
      have hne : (!(ws0 ++ [x]).isEmpty) = true := by simp
      rw [hne]
      refine iteT ⟨fun σ' H' => ∃ m', m' < (ws0 ++ [x]).length + muR R S ∧ (Same H H' ∧ ∃ (S ws : List Str) (u : Option V), m' = ws.length + muR R S ∧ σ' = [some (.ref d), some (.str p0.1), some (.ref D), some (.ref W), u] ∧ H' D = some (.dK (trueD S)) ∧ H' W = some (.lst (ws.map V.str)) ∧ (∀ x ∈ S, x ∈ R.map fun p => p.1) ∧ (∀ x ∈ ws, x ∈ R.map fun p => p.1) ∧ S.Nodup ∧ Clo R S ws ∧ (∀ y ∈ namesR p0.2, y ∈ S ∨ y ∈ ws) ∧ ws.length + muR R S ≤ 5000), fun _ _ h => h, ?_⟩
      refine ⟨_, rfl, .inl ⟨rfl, _, SqL.of eW⟩, W, _, .str x, rfl, rfl, eW, by rw [List.map_append]; simp, ?_⟩
      have ed : ((ws0 ++ [x]).map V.str).dropLast = ws0.map V.str := by
        rw [List.map_append]
        simp
      rw [ed]
      have s4 : Same H (upd H3 W (.lst (ws0.map V.str))) := s3.mut hWH
      have eW4 : (upd H3 W (.lst (ws0.map V.str))) W = some (.lst (ws0.map V.str)) := upd_same
      have eD4 : (upd H3 W (.lst (ws0.map V.str))) D = some (.dK (trueD S)) := by
        rw [upd_ne (Ne.symm WD)]
        exact eD
      generalize upd H3 W (.lst (ws0.map V.str)) = H4 at s4 eW4 eD4
      have xN := hws x (by simp)
      have wsN : ∀ y ∈ ws0, y ∈ R.map fun p => p.1 := fun y hy => hws y (List.mem_append_left _ hy)
      rw [List.length_append, List.length_singleton] at bd ⊢
      refine ⟨_, rfl, _, rfl, D, valV (trueD S) (.inr x), rfl, .inl ⟨_, .inr x, .inl eD4, rfl, rfl⟩, _, rfl, ?_⟩
      by_cases hx : x ∈ S
      · rw [trueD_get, if_pos hx]
        refine iteF ⟨ws0.length + muR R S, by omega, s4, S, ws0, _, rfl, rfl, eD4, eW4, hS, wsN, nd, fun p hp hpS y hy => ?_, fun y hy => ?_, by omega⟩
        · rcases clo p hp hpS y hy with h | h
          · exact .inl h
          · rcases List.mem_append.mp h with h | h
            · exact .inr h
            · rw [List.mem_singleton.mp h]
              exact .inl hx
        · rcases base0 y hy with h | h
          · exact .inl h
          · rcases List.mem_append.mp h with h | h
            · exact .inr h
            · rw [List.mem_singleton.mp h]
              exact .inl hx
      · rw [trueD_get, if_neg hx]
        obtain ⟨px, hpx, rfl⟩ := List.mem_map.mp xN
        obtain ⟨ix, hix, ex⟩ := List.getElem_of_mem hpx
        have md := muR_drop R px hpx hx
        refine iteT ⟨_, rfl, _, rfl, D, _, rfl, DPut.k (k := .inr px.1) eD4 ?_, ?_⟩
        · unfold trueD
          rw [List.length_map, sizeLine_eq]
          have := nodup_len S _ nd hS
          rw [List.length_map] at this
          omega
        rw [trueD_put hx]
        have s5 : Same H (upd H4 D (.dK (trueD (S ++ [px.1])))) := s4.mut hD
        have eD5 : (upd H4 D (.dK (trueD (S ++ [px.1])))) D = some (.dK (trueD (S ++ [px.1]))) := upd_same
        have eW5 : (upd H4 D (.dK (trueD (S ++ [px.1])))) W = some (.lst (ws0.map V.str)) := by
          rw [upd_ne WD]
          exact eW4
        generalize upd H4 D (.dK (trueD (S ++ [px.1]))) = H5 at s5 eD5 eW5
        obtain ⟨v5, hv5, hr5⟩ := (hR.mono s5).get ok.nd (i := ix) (p := px) (by rw [← ex]; exact List.getElem?_eq_getElem hix)
        refine ⟨_, rfl, .inl ⟨rfl, _, SqL.of eW5⟩, _, rfl, _, rfl, d, v5, rfl, hv5, v5, kk, px.2, rfl, hr5, Nat.le_trans (ok.row px hpx).1 (by decide), fun H6 D6 h6 s6 e6 => ?_⟩
        have rlx := rl px hpx
        refine ⟨W, D6, _, _, rfl, rfl, s6 _ _ eW5, .inl e6, by rw [List.length_map, List.length_map, sizeLine_eq]; omega, ?_⟩
        refine ⟨(ws0 ++ namesR px.2).length + muR R (S ++ [px.1]), by rw [List.length_append]; omega, (s5.trans s6).mut hWH, S ++ [px.1], ws0 ++ namesR px.2, _, rfl, rfl, ?_, ?_, fun y hy => ?_, fun y hy => ?_, ?_, fun p hp hpS y hy => ?_, fun y hy => ?_, by rw [List.length_append]; omega⟩
        · rw [upd_ne (Ne.symm WD)]
          exact s6 _ _ eD5
        · rw [upd_same, List.map_append]
        · rcases List.mem_append.mp hy with h | h
          · exact hS y h
          · rw [List.mem_singleton.mp h]
            exact xN
        · rcases List.mem_append.mp hy with h | h
          · exact wsN y h
          · exact hNy px hpx y h
        · refine List.nodup_append.mpr ⟨nd, by simp, fun a ha b hb e => ?_⟩
          rw [List.mem_singleton.mp hb] at e
          exact hx (by rw [← e]; exact ha)
        · rcases List.mem_append.mp hpS with h | h
          · rcases clo p hp h y hy with h | h
            · exact .inl (List.mem_append_left _ h)
            · rcases List.mem_append.mp h with h | h
              · exact .inr (List.mem_append_left _ h)
              · exact .inl (List.mem_append_right _ h)
          · have e5 := List.mem_singleton.mp h
            have : p = px := by
              obtain ⟨ip, hip, e6⟩ := List.getElem_of_mem hp
              subst e6
              subst ex
              rcases Nat.lt_trichotomy ip ix with h | h | h
              · have := List.pairwise_iff_getElem.mp ok.nd ip ix (by simpa using hip) (by simpa using hix) h
                simp at this
                exact absurd e5 this
              · subst h
                rfl
              · have := List.pairwise_iff_getElem.mp ok.nd ix ip (by simpa using hix) (by simpa using hip) h
                simp at this
                exact absurd e5.symm this
            subst this
            exact .inr (List.mem_append_right _ hy)
        · rcases base0 y hy with h | h
          · exact .inl (List.mem_append_left _ h)
          · rcases List.mem_append.mp h with h | h
            · exact .inr (List.mem_append_left _ h)
            · exact .inl (List.mem_append_right _ h)
end
end WV
end
section
set_option maxRecDepth 100000
set_option maxHeartbeats 4000000
namespace WV
open PySem PySem.Spec PyProof.Rows L2
/-! ### what rules tell: values by name -/
def rowSum (f : Key → Int) (r : Row) : Int := (r.map fun q => q.2 * f q.1).sum
def rowOf (R : Rules) (nm : Str) : Row := (R.lookup nm).getD []
def valStep (R : Rules) (f : Key → Int) (nm : Str) : Key → Int := fun k => if k = .inr nm then rowSum f (rowOf R nm) else f k
def val0 (g : Int → Int) : Key → Int
  | .inl s => g s
  | .inr _ => 0
def valF (R : Rules) (ord : List Str) (g : Int → Int) : Key → Int := ord.foldl (valStep R) (val0 g)
theorem rowOf_at {R : Rules} (nd : (R.map fun p => p.1).Nodup) {p : Str × Row} (hp : p ∈ R) : rowOf R p.1 = p.2 := by
  unfold rowOf
  induction R with
  | nil => cases hp
  | cons q R ih =>
    rw [List.map_cons, List.nodup_cons] at nd
    rcases List.mem_cons.mp hp with rfl | hp
    · rw [List.lookup_cons, beq_self_eq_true]
      rfl
    · have hne : (p.1 == q.1) = false := by
        rw [beq_eq_false_iff_ne]
        exact fun e => nd.1 (by rw [← e]; exact List.mem_map.mpr ⟨p, hp, rfl⟩)
      rw [List.lookup_cons, hne]
      exact ih nd.2 hp
theorem rowSum_congr {f g : Key → Int} {r : Row} (h : ∀ q ∈ r, f q.1 = g q.1) : rowSum f r = rowSum g r := by
  unfold rowSum
  refine congrArg List.sum (List.map_congr_left fun q hq => ?_)
  rw [h q hq]
theorem valF_snoc {R : Rules} {ord : List Str} {nm : Str} {g : Int → Int} : valF R (ord ++ [nm]) g = valStep R (valF R ord g) nm := by
  unfold valF
  rw [List.foldl_append]
  rfl
theorem valF_sign {R : Rules} {g : Int → Int} (s : Int) : ∀ ord : List Str, valF R ord g (.inl s) = g s := by
  have key : ∀ (ord : List Str) (f : Key → Int), (ord.foldl (valStep R) f) (.inl s) = f (.inl s) := fun ord => by
    induction ord with
    | nil => exact fun _ => rfl
    | cons a r ih =>
      intro f
      rw [List.foldl_cons, ih]
      show (if Sum.inl s = Sum.inr a then _ else f (.inl s)) = _
      rw [if_neg (fun h => by cases h)]
  exact fun ord => key ord _
theorem valF_keep {R : Rules} {g : Int → Int} {x : Str} {A : List Str} : ∀ B : List Str, x ∉ B → valF R (A ++ B) g (.inr x) = valF R A g (.inr x) := by
  have key : ∀ (B : List Str) (f : Key → Int), x ∉ B → (B.foldl (valStep R) f) (.inr x) = f (.inr x) := fun B => by
    induction B with
    | nil => exact fun _ _ => rfl
    | cons a r ih =>
      intro f h
      rw [List.foldl_cons, ih _ fun m => h (List.mem_cons_of_mem _ m)]
      show (if (Sum.inr x : Key) = Sum.inr a then _ else f (.inr x)) = _
      rw [if_neg (fun e => h (by injection e with e; rw [e]; exact List.mem_cons_self))]
  intro B h
  unfold valF
  rw [List.foldl_append]
  exact key B _ h
/-- the value of a name is the sum over its row -/
theorem valF_name {R : Rules} {ord : List Str} {g : Int → Int} (nd : (R.map fun p => p.1).Nodup) (no : ord.Nodup) (tp : Topo R ord) {p : Str × Row} (hp : p ∈ R) (ho : p.1 ∈ ord) : valF R ord g (.inr p.1) = rowSum (valF R ord g) p.2 := by
  obtain ⟨i, hi, e⟩ := List.getElem_of_mem ho
  have g1 : ord[i]? = some p.1 := by rw [List.getElem?_eq_getElem hi, e]
  have es : ord = ord.take i ++ ([p.1] ++ ord.drop (i + 1)) := by
    conv => lhs; rw [← List.take_append_drop i ord, List.drop_eq_getElem_cons hi, e]
    rfl
  have no' := no
  rw [es] at no'
  have n2 := List.nodup_append.mp no'
  have n3 := List.nodup_append.mp n2.2.1
  have v1 : valF R ord g (.inr p.1) = rowSum (valF R (ord.take i) g) p.2 := by
    conv => lhs; rw [es, ← List.append_assoc]
    rw [valF_keep _ (fun h => n3.2.2 p.1 List.mem_cons_self p.1 h rfl), valF_snoc]
    show (if (Sum.inr p.1 : Key) = Sum.inr p.1 then rowSum _ (rowOf R p.1) else _) = _
    rw [if_pos rfl, rowOf_at nd hp]
  rw [v1]
  refine rowSum_congr fun q hq => ?_
  cases h : q.1 with
  | inl s => rw [valF_sign, valF_sign]
  | inr y =>
    have hy : y ∈ namesR p.2 := by
      unfold namesR
      refine List.mem_filterMap.mpr ⟨q, hq, ?_⟩
      rw [h]
    have hm := tp i p hp g1 y hy
    conv => rhs; rw [es]
    rw [valF_keep _ fun h => n2.2.2 y hm y h rfl]
/-- two values that agree on signs agree on names -/
theorem val_unique {R : Rules} {ord : List Str} (tp : Topo R ord) (hR : ∀ x ∈ ord, x ∈ R.map fun p => p.1) {f h : Key → Int} (hs : ∀ p ∈ R, ∀ q ∈ p.2, ∀ s, q.1 = .inl s → f (.inl s) = h (.inl s))
    (hf : ∀ p ∈ R, f (.inr p.1) = rowSum f p.2) (hh : ∀ p ∈ R, h (.inr p.1) = rowSum h p.2) : ∀ x ∈ ord, f (.inr x) = h (.inr x) := by
  have key : ∀ (m i : Nat) (x : Str), i < m → ord[i]? = some x → f (.inr x) = h (.inr x) := fun m => by
    induction m with
    | zero => intro i x hi; omega
    | succ m ih =>
      intro i x hi hx
      obtain ⟨p, hp, rfl⟩ := List.mem_map.mp (hR x (List.mem_of_getElem? hx))
      rw [hf p hp, hh p hp]
      refine rowSum_congr fun q hq => ?_
      cases e : q.1 with
      | inl s => exact hs p hp q hq s e
      | inr y =>
        have hy : y ∈ namesR p.2 := by
          unfold namesR
          refine List.mem_filterMap.mpr ⟨q, hq, ?_⟩
          rw [e]
        have hm := tp i p hp hx y hy
        obtain ⟨j, hj, ej⟩ := List.getElem_of_mem hm
        rw [List.length_take] at hj
        rw [List.getElem_take] at ej
        exact ih j y (by omega) (by rw [List.getElem?_eq_getElem (by omega), ej])
  exact fun x hx => by
    obtain ⟨i, hi, rfl⟩ := List.getElem_of_mem hx
    exact key (i + 1) i _ (Nat.lt_succ_self i) (List.getElem?_eq_getElem hi)
theorem rowSum_nonneg {f : Key → Int} {r : Row} (h : ∀ q ∈ r, 0 ≤ q.2 * f q.1) : 0 ≤ rowSum f r := sum_nonneg fun x hx => by
  obtain ⟨q, hq, rfl⟩ := List.mem_map.mp hx
  exact h q hq
theorem valF_nonneg {n : Int} {R : Rules} (ok : ROk n R) {g : Int → Int} (hg : ∀ s, 0 ≤ g s) : ∀ (ord : List Str) (k : Key), 0 ≤ valF R ord g k := by
  have key : ∀ (ord : List Str) (f : Key → Int), (∀ k, 0 ≤ f k) → ∀ k, 0 ≤ (ord.foldl (valStep R) f) k := fun ord => by
    induction ord with
    | nil => exact fun _ h => h
    | cons a r ih =>
      intro f hf
      refine ih _ fun k => ?_
      show 0 ≤ if k = .inr a then rowSum f (rowOf R a) else f k
      by_cases c : k = .inr a
      · rw [if_pos c]
        refine rowSum_nonneg fun q hq => ?_
        unfold rowOf at hq
        cases h : R.lookup a with
        | none => rw [h] at hq; cases hq
        | some r' =>
          rw [h] at hq
          have hm : (a, r') ∈ R := by
            clear ih hf ok c
            induction R with
            | nil => simp at h
            | cons z R ih =>
              rw [List.lookup_cons] at h
              cases hz : a == z.1 with
              | true =>
                rw [hz] at h
                injection h with h
                rw [beq_iff_eq] at hz
                rw [hz, ← h]
                exact List.mem_cons_self
              | false =>
                rw [hz] at h
                exact List.mem_cons_of_mem _ (ih h)
          have := (ok.row _ hm).2 q hq
          exact Int.mul_nonneg (by omega) (hf _)
      · rw [if_neg c]
        exact hf k
  refine fun ord => key ord _ fun k => ?_
  cases k with
  | inl s => exact hg s
  | inr x => exact Int.le_refl _
end WV
end
section
set_option maxRecDepth 100000
set_option maxHeartbeats 4000000
namespace WV
open PySem PySem.Spec PyProof.Rows L2
section
variable {X : Cx} {K : PySem.W.Frag} {tg l : Expr} {tl : TE}
theorem pi_seqK (hK : X.K = K) (hl : PE X l tl) : PI X tg l (iSeq K tl) := by
  subst hK
  exact pi_seq hl
theorem pi_listK (hK : X.K = K) (hl : PE X l tl) : PI X tg l (iList K tl) := by
  subst hK
  exact pi_list hl
theorem pi_tupK (hK : X.K = K) (hl : PE X l tl) : PI X tg l (iTup K tl) := by
  subst hK
  exact pi_tup hl
end
end WV
end
section
set_option maxRecDepth 100000
set_option maxHeartbeats 4000000
namespace WV
open PySem PySem.Spec PyProof.Rows L2
theorem ROk.perm {n : Int} {R R' : Rules} (p : R'.Perm R) (ok : ROk n R) : ROk n R' := by
  obtain ⟨rank, hr⟩ := ok.acyc
  refine ⟨(p.map fun p => p.1).nodup_iff.mpr ok.nd, fun q hq => ok.name q (p.mem_iff.mp hq), fun q hq => ⟨(ok.row q (p.mem_iff.mp hq)).1, fun z hz => ⟨((ok.row q (p.mem_iff.mp hq)).2 z hz).1, ?_⟩⟩, ⟨rank, fun q hq => hr q (p.mem_iff.mp hq)⟩, by rw [p.length_eq]; exact ok.ne, by rw [p.length_eq]; exact ok.few, ok.signs⟩
  have := ((ok.row q (p.mem_iff.mp hq)).2 z hz).2
  cases h : z.1 with
  | inl s => rw [h] at this; exact this
  | inr x =>
    rw [h] at this
    exact (p.map fun p => p.1).mem_iff.mpr this
theorem Topo.perm {R R' : Rules} {ord : List Str} (p : R'.Perm R) (h : Topo R' ord) : Topo R ord := fun i q hq => h i q (p.mem_iff.mpr hq)
def textF (oo : Addr) (n : Int) (dr : Addr) (root : Str) (ds : Addr) (sz dp : Int) : List (Str × V) := [("own_order", .ref oo), ("signs", .int n), ("own_rules", .ref dr), ("root", .str root), ("own_sizes", .ref ds), ("size", .int sz), ("depth", .int dp)]
abbrev sizes (R : Rules) (ord : List Str) : Key → Int := valF R ord fun _ => 1
structure TxOk (n : Int) (R : Rules) (root : Str) (ord : List Str) : Prop where
  ok : ROk n R
  no : ord.Nodup
  mem : ∀ x, x ∈ ord ↔ x ∈ R.map fun p => p.1
  topo : Topo R ord
  root : root ∈ R.map fun p => p.1
structure TextAt (K : PySem.W.Frag) (H : Hp) (v : V) (n : Int) (R : Rules) (root : Str) (ord : List Str) : Prop where
  ex : ∃ x dx oo dr ds dp kvs, v = .ref x ∧ H x = some (.ins (He.ga K "Text") dx (textF oo n dr root ds (sizes R ord (.inr root)) dp)) ∧ H oo = some (.lst (ord.map V.str)) ∧ H dr = some (.dK kvs) ∧ RulesAt K H dr false R ∧ LK H ds (R.map fun p => p.1) fun nm => sizes R ord (.inr nm)
section
variable {K : PySem.W.Frag} {H : Hp}
theorem SqL.updF {a d : Addr} {xs : List V} {kvs : List (Key × V)} {od : Obj} {o : HO} (hd : H d = some (.frz od (.dK kvs))) (h : SqL K H a xs) : SqL K (upd H d o) a xs := by
  rcases h with (h | ⟨u, h⟩) | h
  · refine .inl (.inl ?_)
    rw [upd_ne (ne_of h hd (by intro z; cases z))]
    exact h
  · refine .inl (.inr ⟨u, ?_⟩)
    rw [upd_ne (ne_of h hd (by intro z; cases z))]
    exact h
  · exact .inr h
theorem SqT.updF {a d : Addr} {xs : List V} {kvs : List (Key × V)} {od : Obj} {o : HO} (hd : H d = some (.frz od (.dK kvs))) (h : SqT K H a xs) : SqT K (upd H d o) a xs := by
  rcases h with (h | ⟨u, h⟩) | h
  · refine .inl (.inl ?_)
    rw [upd_ne (ne_of h hd (by intro z; cases z))]
    exact h
  · refine .inl (.inr ⟨u, ?_⟩)
    rw [upd_ne (ne_of h hd (by intro z; cases z))]
    exact h
  · exact .inr h
mutual
theorem Rp.updF {d : Addr} {kvs : List (Key × V)} {od : Obj} {o : HO} (hd : H d = some (.frz od (.dK kvs))) : ∀ {v : V} {e : Dat}, Rp K H v e → Rp K (upd H d o) v e
  | _, .v _, .v _ => .v _
  | _, .L _, .L q r => .L (SqL.updF hd q) (RpA.updF hd r)
  | _, .T _, .T q r => .T (SqT.updF hd q) (RpA.updF hd r)
theorem RpA.updF {d : Addr} {kvs : List (Key × V)} {od : Obj} {o : HO} (hd : H d = some (.frz od (.dK kvs))) : ∀ {vs : List V} {es : List Dat}, RpA K H vs es → RpA K (upd H d o) vs es
  | _, [], .nil => .nil
  | _, _ :: _, .cons q r => .cons (Rp.updF hd q) (RpA.updF hd r)
end
end
theorem RulesAt.sameX {K : PySem.W.Frag} {x : Addr} {H H' : Hp} {C dx : Addr} {fs : List (Str × V)} (s : SameX x H H') (hx : H x = some (.ins C dx fs)) {d : Addr} {k : Bool} {R : Rules} (h : RulesAt K H d k R) : RulesAt K H' d k R := by
  obtain ⟨kvs, h1, h2, h3⟩ := h.ex
  refine ⟨kvs, ?_, h2, h3.sameX s hx⟩
  rcases h1 with h1 | ⟨o, h1⟩
  · exact .inl (s _ _ (fun e => by rw [e, hx] at h1; cases h1) h1)
  · exact .inr ⟨o, s _ _ (fun e => by rw [e, hx] at h1; cases h1) h1⟩
theorem SameX.dic {x : Addr} {H H' : Hp} {b C dx : Addr} {fs : List (Str × V)} {kvs : List (Key × V)} (s : SameX x H H') (hx : H x = some (.ins C dx fs)) (h : H b = some (.dK kvs)) : H' b = some (.dK kvs) := s b _ (fun e => by rw [e, hx] at h; cases h) h
theorem SameX.mutN {x d : Addr} {H H' : Hp} {o : HO} (a : SameX x H H') (h : H d = none) : SameX x H (upd H' d o) := fun c v hc e => by
  rw [upd_ne (fun k => by rw [k, h] at e; cases e)]
  exact a c v hc e
theorem RulesAt.updK {K : PySem.W.Frag} {H : Hp} {d a : Addr} {k : Bool} {R : Rules} {kvs kvs' : List (Key × V)} (h : RulesAt K H d k R) (hd : H a = some (.dK kvs)) (ne : d ≠ a) : RulesAt K (upd H a (.dK kvs')) d k R := by
  obtain ⟨kv, h1, h2, h3⟩ := h.ex
  refine ⟨kv, ?_, h2, RpA.updK hd h3⟩
  rcases h1 with h1 | ⟨o, h1⟩
  · exact .inl (by rw [upd_ne ne]; exact h1)
  · exact .inr ⟨o, by rw [upd_ne ne]; exact h1⟩
theorem rows_of {R : Rules} (nd : (R.map fun p => p.1).Nodup) : (R.map fun p => p.1).map (fun nm => (nm, rowOf R nm)) = R := by
  rw [List.map_map]
  conv => rhs; rw [← List.map_id R]
  refine List.map_congr_left fun p hp => ?_
  show (p.1, rowOf R p.1) = p
  rw [rowOf_at nd hp]
theorem LK.add {H : Hp} {dl : Addr} {N : List Str} {L : Str → Int} {m : Nat} {f : Key → Option V} (h2 : DF H dl m f) (h3 : ∀ n ∈ N, f (.inr n) = some (.int (L n))) (hm : m < sizeLine) {x : Str} (z : Int) :
    ∃ kvs' f', DPut H dl (.str x) (.int z) (upd H dl (.dK kvs')) ∧ DF (upd H dl (.dK kvs')) dl (m + 1) f' ∧ ∀ n ∈ N ++ [x], f' (.inr n) = some (.int (if n = x then z else L n)) := by
  obtain ⟨kvs', p1, d1⟩ := h2.put hm (.inr x) (.int z)
  refine ⟨kvs', _, p1, d1, fun n hn => ?_⟩
  by_cases c : n = x
  · rw [if_pos c]
    exact if_pos (by rw [c])
  · rw [if_neg c]
    refine (if_neg (fun e => c (by injection e))).trans (h3 n ?_)
    rcases List.mem_append.mp hn with h | h
    · exact h
    · exact absurd (List.mem_singleton.mp h) c
section
variable {P : Program} {w : World} {K : PySem.W.Frag} {mg : Str → Option Value} {base : Heap}
theorem sc_Text_init : FnScope ["self", "signs", "rules", "root", "kept", "deep", "name", "part", "count", "inner"] ["self", "signs", "rules", "root"] (defScope s_Text_init) := ⟨rfl, rfl, rfl, by decide +kernel, rfl, by decide +kernel, by decide +kernel⟩
def sp_Text (K : PySem.W.Frag) : Sp := fun vs H Q _ => ∃ (x dx d : Addr) (n : Int) (root : Str) (kk : Bool) (R : Rules) (kvs : List (Key × V)) (H0 : Hp), vs = [.ref x, .int n, .ref d, .str root] ∧ H x = some (.ins (He.ga K "Text") dx []) ∧ Same H0 H ∧ H0 x = none ∧ H0 d = some (.dK kvs) ∧ RulesAt K H0 d kk R ∧ ROk n R ∧ (∀ p ∈ R, ∀ q ∈ p.2, q.2 ≤ 1000) ∧ root ∈ R.map (fun p => p.1) ∧
  ∀ H' ord, SameX x H H' → TextAt K H' (.ref x) n R root ord → TxOk n R root ord → Q .non H'
theorem ok_Text (t : T K mg) : Okf P w K mg base 6 ("Text", some "__init__") ["self", "signs", "rules", "root"] [] (sp_Text K) := by
  have O_check_rules := ok_check_rules (P := P) (w := w) (base := base) t
  have O_in_order := ok_in_order (P := P) (w := w) (base := base) t
  have O_names_in := ok_names_in (P := P) (w := w) (base := base) t
  refine okf (d := d_Text_init) t 52 rfl rfl sc_Text_init (fun _ _ _ _ _ _ us hl => match us, hl with | [_, _, _, _], _ => rfl) (fun vs H Q E h => ?_) (fun cdv A outer s H vs Q E hr h => ?_)
  · obtain ⟨x, dx, d, n, root, kk, R, kvs, H0, rfl, _⟩ := h
    rfl
  · obtain ⟨x, dx, d, n, root, kk, R, kvs, H0, rfl, hx, s0, hx0, hd0, hR0, ok, small, hroot, q⟩ := h
    have hu := hu_of hr
    refine ⟨_, (pss_cons (ps_expr (pe_f O_check_rules (hr.mono (by decide)) t.g_check_rules (pa_cons (pv 1) (pa_cons (pv 2) pa_nil))))
      (pss_cons (ps_lock (ps_set (i := 4) sc_Text_init.nd rfl (.inr rfl) (pe_dc (own := [("name", 6)]) (g := gName 6) (tt := tYes) rfl sc_Text_init.nd (pi_keys (pv 2)) (blkOk_by (own := [("name", 6)]) (N := ["self", "signs", "rules", "root", "kept", "deep", "name", "part", "count", "inner"]) (sc := defScope s_Text_init) (by decide +kernel)) (fun _ _ _ _ _ => (pg_name (i := 6) sc_Text_init.nd rfl (.inl rfl))) (fun _ _ _ _ _ => pts_nil) (fun _ _ _ _ _ => (pv 6)) (fun _ _ _ _ _ => (pe_callTy (call_tuple_ofK (K := K) rfl) (by rfl) t.b_tuple bt_tuple (pa_cons (pe_lc (own := [("part", 7), ("count", 8)]) (g := gTup K 2 (gCons (gName 7) (gCons (gName 8) gNil))) (tt := tYes) rfl sc_Text_init.nd ((pi_seqK (K := K) rfl) (pe_dget hu (pv 2) (pv 6) (fun _ _ => rfl))) (blkOk_by (own := [("part", 7), ("count", 8)]) (N := ["self", "signs", "rules", "root", "kept", "deep", "name", "part", "count", "inner"]) (sc := _) (by kernel_rfl)) (fun _ _ _ _ _ => (pg_tup rfl (pgs_cons (pg_name (i := 7) sc_Text_init.nd rfl (.inl rfl)) (pgs_cons (pg_name (i := 8) sc_Text_init.nd rfl (.inl rfl)) pgs_nil)))) (fun _ _ _ _ _ => pts_nil) (fun _ _ _ _ _ => (pe_tup (pa_cons (pv 7) (pa_cons (pv 8) pa_nil))))) pa_nil))))))
      (pss_cons (ps_fld (pv 0) (pe_f O_in_order (hr.mono (by decide)) t.g_in_order (pa_cons (pe_dc (own := [("name", 6)]) (g := gName 6) (tt := tYes) rfl sc_Text_init.nd (pi_list (pe_callB (call_sortedD rfl) (by rfl) t.b_sorted bt_sorted (pa_cons (pv 4) pa_nil))) (blkOk_by (own := [("name", 6)]) (N := ["self", "signs", "rules", "root", "kept", "deep", "name", "part", "count", "inner"]) (sc := defScope s_Text_init) (by decide +kernel)) (fun _ _ _ _ _ => (pg_name (i := 6) sc_Text_init.nd rfl (.inl rfl))) (fun _ _ _ _ _ => pts_nil) (fun _ _ _ _ _ => (pv 6)) (fun _ _ _ _ _ => (pe_dget hu (pv 4) (pv 6) (fun _ _ => rfl)))) pa_nil)) rfl)
      (pss_cons (ps_if (pt_cmpR op_lt (pe_callB call_len_seq (by rfl) t.b_len bt_len (pa_cons (pe_fld (pv 0) rfl) pa_nil)) (pe_callB call_lenD (by rfl) t.b_len bt_len (pa_cons (pv 4) pa_nil)) (nomark _))
        (pss_one ps_never)
        pss_nil)
      (pss_cons (ps_if (PW.pt (pw_or (pt_not (pt_val (pe_callB call_isi (by rfl) t.b_isinstance bt_isinstance (pa_cons (pv 3) (pa_cons (pe_bt t.b_str bt_str) pa_nil))))) (pw_or1 (pt_cmp (pc_dnotin hu (pv 3) (pv 4))))))
        (pss_one ps_never)
        pss_nil)
      (pss_cons (ps_fld (pv 0) (pv 1) rfl)
      (pss_cons (ps_fld (pv 0) (pv 4) rfl)
      (pss_cons (ps_fld (pv 0) (pv 3) rfl)
      (pss_cons (ps_fld (pv 0) pe_dnewK rfl)
      (pss_cons (ps_set (i := 5) sc_Text_init.nd rfl (.inr rfl) pe_dnewK)
      (pss_cons (ps_for PassesOwn.never rfl (pi_list (pe_fld (pv 0) rfl)) (pg_name (i := 6) sc_Text_init.nd rfl (.inl rfl))
        (pss_cons (ps_dput hu (pe_fld (pv 0) rfl) (pv 6) (pe_callB (cr_sum rfl) (by rfl) t.b_sum bt_sum (pa_cons (pe_lc (own := [("part", 7), ("count", 8)]) (g := gTup K 2 (gCons (gName 7) (gCons (gName 8) gNil))) (tt := tYes) rfl sc_Text_init.nd (pi_tup (pe_dget hu (pv 4) (pv 6) (fun _ _ => rfl))) (blkOk_by (own := [("part", 7), ("count", 8)]) (N := ["self", "signs", "rules", "root", "kept", "deep", "name", "part", "count", "inner"]) (sc := defScope s_Text_init) (by decide +kernel)) (fun _ _ _ _ _ => (pg_tup rfl (pgs_cons (pg_name (i := 7) sc_Text_init.nd rfl (.inl rfl)) (pgs_cons (pg_name (i := 8) sc_Text_init.nd rfl (.inl rfl)) pgs_nil)))) (fun _ _ _ _ _ => pts_nil) (fun _ _ _ _ _ => (pe_op op_mul (pv 8) (pe_dget2 hu (pe_fldK (K := K) rfl (pe_fld (pv 0) rfl)) (pv 7) pe_int ⟨by rfl, by rfl, by rfl, by rfl⟩)))) pa_nil)) rfl)
        (pss_one (ps_dput hu (pv 5) (pv 6) (pe_op op_add pe_int (pe_callBK (cr_maxD rfl) (by rfl) t.b_max bt_max (pa_cons (pe_lc (own := [("inner", 9)]) (g := gName 9) (tt := tYes) rfl sc_Text_init.nd (pi_list (pe_f O_names_in (hr.mono (by decide)) t.g_names_in (pa_cons (pe_dget hu (pv 4) (pv 6) (fun _ _ => rfl)) pa_nil))) (blkOk_by (own := [("inner", 9)]) (N := ["self", "signs", "rules", "root", "kept", "deep", "name", "part", "count", "inner"]) (sc := defScope s_Text_init) (by decide +kernel)) (fun _ _ _ _ _ => (pg_name (i := 9) sc_Text_init.nd rfl (.inl rfl))) (fun _ _ _ _ _ => pts_nil) (fun _ _ _ _ _ => (pe_dget hu (pv 5) (pv 9) (fun _ _ => rfl)))) pa_nil) (pk_cons pe_int pk_nil))) rfl))))
      (pss_cons (ps_fld (pv 0) (pe_dget hu (pe_fld (pv 0) rfl) (pv 3) (fun _ _ => rfl)) rfl)
      (pss_one (ps_fld (pv 0) (pe_dget hu (pv 5) (pv 3) (fun _ _ => rfl)) rfl)))))))))))))), ?_⟩
    have rf := ok.few
    have rn := ok.ne
    have hd := s0 _ _ hd0
    have hR := hR0.mono s0
    obtain ⟨ek, _⟩ := hR.kvs hd
    have lk : kvs.length = R.length := by
      have := congrArg List.length ek
      rw [List.length_map, List.length_map] at this
      exact this
    have keyAt : ∀ (i : Nat) k v, kvs[i]? = some (k, v) → ∃ p, R[i]? = some p ∧ k = .inr p.1 := fun i k v hk => by
      have hi := (List.getElem?_eq_some_iff.mp hk).1
      have g := List.getElem?_eq_getElem (show i < R.length by omega)
      refine ⟨_, g, ?_⟩
      have := congrArg (fun l => l[i]?) ek
      simp only [List.getElem?_map, hk, g] at this
      injection this
    have neAt : ∀ (i : Nat) p, R[i]? = some p → ∀ q ∈ R.take i, q.1 ≠ p.1 := fun i p hp q hq e => by
      obtain ⟨hi, rfl⟩ := List.getElem?_eq_some_iff.mp hp
      obtain ⟨j, hj, rfl⟩ := List.getElem_of_mem hq
      rw [List.length_take] at hj
      rw [List.getElem_take] at e
      have := List.pairwise_iff_getElem.mp ok.nd j i (by rw [List.length_map]; omega) (by rw [List.length_map]; omega) (by omega)
      rw [List.getElem_map, List.getElem_map] at this
      exact this e
    refine ⟨_, rfl, _, rfl, n, d, kk, R, kvs, rfl, hd, hR, ok, fun H1 s1 => ?_⟩
    have hd1 := s1 _ _ hd
    have hx1 := s1 _ _ hx
    have hR1 := hR.mono s1
    -- kept
    refine ⟨d, _, hd1, trivial, fun od => ⟨_, rfl, d, od, rfl, .inl ⟨kvs, upd_same, fun dk hdk => ?_⟩⟩⟩
    have hdk1 : H1 dk = none := by
      cases h : H1 dk with
      | none => rfl
      | some o =>
        by_cases c : dk = d
        · rw [c, upd_same] at hdk
          cases hdk
        · rw [upd_ne c, h] at hdk
          cases hdk
    have dkd : dk ≠ d := fun e => by rw [e, hd1] at hdk1; cases hdk1
    have hRl := hR1.lock (od := od) hd1
    refine dc_it (walk_keys (kvs := kvs)) (fun i H' => Same (upd H1 d (.frz od (.dK kvs))) H' ∧ ∃ ks, H' dk = some (.dK ks) ∧ ks.map (fun p => p.1) = (R.take i).map (fun p => Sum.inr p.1) ∧ RpA K H' (ks.map fun p => p.2) ((R.take i).map fun p => rowT false p.2)) ⟨Same.new hdk, [], upd_same, rfl, .nil⟩ (fun i H' _ p => p.1 _ _ upd_same) (fun i y H2 H3 hi pp yy => ?_) (fun H2 pp => ?_)
    · obtain ⟨s2, ks, eks, kf, kr⟩ := pp
      obtain ⟨rfl, k, v, hk, rfl⟩ := yy
      obtain ⟨p, hp, rfl⟩ := keyAt i k v hk
      have pm := List.mem_of_getElem? hp
      have rl := (ok.row p pm).1
      obtain ⟨v2, hv2, hr2⟩ := (hRl.mono s2).get ok.nd hp
      obtain ⟨a, xs, rfl, ha, hxs⟩ := hr2.row
      have lx : xs.length = p.2.length := by rw [hxs.len, rowP_len]
      refine ⟨rfl, tyes ⟨_, rfl, _, rfl, _, rfl, d, _, rfl, hv2, a, kk, xs, rfl, ha, fun D hD => ?_⟩⟩
      refine lc_all (K := K) (walk_seq (xs := xs)) hD (by omega) (fun H' s3 => s3.seqk ha) (fun j => .T [.v (kV (p.2.getD j (.inl 0, 0)).1), .v (.int (p.2.getD j (.inl 0, 0)).2)]) (fun j => rfl) (fun j y H4 H5 hj s3 yy Qk kq => ?_) (fun H4 ys s3 e r => ?_)
      · obtain ⟨rfl, hyj⟩ := yy
        obtain ⟨q1, b, hq1, rfl, hb⟩ := row_at hxs hyj
        refine g_two (s3.tup hb) ⟨rfl, _, rfl, _, rfl, by show 2 ≤ sizeLine; decide, fun z hz => kq _ _ (Same.new hz) ?_⟩
        rw [getD_at hq1]
        exact .T (SqT.of upd_same) (.cons (.v _) (.cons (.v _) .nil))
      · have e3 : (List.range xs.length).map (fun j => Dat.T [.v (kV (p.2.getD j (.inl 0, 0)).1), .v (.int (p.2.getD j (.inl 0, 0)).2)]) = rowP p.2 := by
          unfold rowP
          rw [lx]
          conv => rhs; rw [← range_get (xs := p.2) (fun j => p.2.getD j (.inl 0, 0)) fun j x hx => getD_at hx]
          rw [List.map_map]
          rfl
        rw [e3] at r
        refine ⟨D, ys, rfl, .inl ⟨SqL.of e, fun tl htl => ?_⟩⟩
        have s4 := Same.new (o := .tup ys) htl
        have eks4 := s4 _ _ (s3 _ _ eks)
        refine ⟨ks, .inr p.1, rfl, eks4, ?_, ?_⟩
        · have := congrArg List.length kf
          rw [List.length_map, List.length_map, List.length_take] at this
          rw [sizeLine_eq]
          omega
        have nk : valV ks (.inr p.1) = none := by
          cases hv : valV ks (.inr p.1) with
          | none => rfl
          | some u =>
            have := valV_in hv
            rw [kf] at this
            obtain ⟨q1, hq1, e1⟩ := List.mem_map.mp this
            exact absurd (by injection e1) (neAt i p hp q1 hq1)
        rw [putK_new _ nk]
        have s24 := (s2.trans s3).trans s4
        refine ⟨s24.mut (by rw [upd_ne dkd]; exact hdk1), _, upd_same, ?_, ?_⟩
        · rw [List.map_append, kf, take_snoc hp, List.map_append]
          rfl
        · rw [List.map_append, take_snoc hp, List.map_append]
          refine RpA.append (RpA.updK eks4 ((kr.mono s3).mono s4)) (.cons ?_ .nil)
          exact Rp.updK eks4 (.T (SqT.of upd_same) (r.mono s4))
    · obtain ⟨s2, ks, eks, kf, kr⟩ := pp
      rw [List.take_of_length_le (by omega)] at kf kr
      refine ⟨s2 _ _ upd_same, ?_⟩
      have sA := lock_same hd1 s2
      have hRk : RulesAt K (upd H2 d (.dK kvs)) dk false R := ⟨ks, .inl (by rw [upd_ne dkd]; exact eks), kf, kr.updF (s2 _ _ upd_same)⟩
      have ekA : (upd H2 d (.dK kvs)) dk = some (.dK ks) := by
        rw [upd_ne dkd]
        exact eks
      generalize upd H2 d (.dK kvs) = HA at sA hRk ekA
      clear s2 eks kr hRl
      have lks : ks.length = R.length := by
        have := congrArg List.length kf
        rw [List.length_map, List.length_map] at this
        exact this
      have kf' : ks.map (fun p => p.1) = (R.map fun p => p.1).map Sum.inr := by
        rw [kf, List.map_map]
        rfl
      refine ⟨_, rfl, dk, ks, R.map (fun p => p.1), rfl, .inl ekA, kf', by rw [List.length_map]; omega, fun ys py hp1 hp2 hp3 => ⟨py, rfl, ⟨_, SqL.of upd_same⟩, fun d2 hd2 => ?_⟩⟩
      have sS := Same.new (o := .lst (ys.map V.str)) hp3
      have epy : (upd HA py (.lst (ys.map V.str))) py = some (.lst (ys.map V.str)) := upd_same
      have hRk2 := hRk.mono sS
      have ly : ys.length = R.length := by rw [hp1.length_eq, List.length_map]
      have ysN : ∀ y ∈ ys, ∃ p ∈ R, p.1 = y := fun y hy => List.mem_map.mp (hp1.mem_iff.mp hy)
      have ndy : ys.Nodup := hp1.nodup_iff.mpr ok.nd
      generalize upd HA py (.lst (ys.map V.str)) = HS at sS epy hRk2 hd2
      have pR2 : (ys.map fun nm => (nm, rowOf R nm)).Perm R := by
        have := hp1.map fun nm => (nm, rowOf R nm)
        rw [rows_of ok.nd] at this
        exact this
      refine dc_it (walk_list (xs := ys.map V.str)) (fun i H' => Same HS H' ∧ ∃ k2, H' d2 = some (.dK k2) ∧ k2.map (fun p => p.1) = (ys.take i).map Sum.inr ∧ RpA K H' (k2.map fun p => p.2) ((ys.take i).map fun nm => rowT false (rowOf R nm))) ⟨Same.new hd2, [], upd_same, rfl, .nil⟩ (fun i H' _ p => p.1.seq (SqL.of epy)) (fun i y H3 H4 hi pp yy => ?_) (fun H3 pp => ?_)
      · obtain ⟨s3, k2, e2, f2, r2⟩ := pp
        obtain ⟨rfl, hy⟩ := yy
        obtain ⟨z, hz, rfl⟩ := strs_at hy
        obtain ⟨p, hp, ep⟩ := ysN z (List.mem_of_getElem? hz)
        obtain ⟨ip, hip, eip⟩ := List.getElem_of_mem hp
        obtain ⟨v3, hv3, hr3⟩ := (hRk2.mono s3).get ok.nd (i := ip) (p := p) (by rw [← eip]; exact List.getElem?_eq_getElem hip)
        rw [ep] at hv3
        have lk2 := congrArg List.length f2
        rw [List.length_map, List.length_map, List.length_take] at lk2
        refine ⟨rfl, tyes ⟨_, rfl, _, rfl, _, rfl, dk, v3, rfl, hv3, k2, .inr z, rfl, e2, by rw [sizeLine_eq]; omega, ?_⟩⟩
        have nk : valV k2 (.inr z) = none := by
          cases hv : valV k2 (.inr z) with
          | none => rfl
          | some u =>
            have := valV_in hv
            rw [f2] at this
            obtain ⟨q1, hq1, e1⟩ := List.mem_map.mp this
            injection e1 with e1
            subst e1
            obtain ⟨j, hj, ej⟩ := List.getElem_of_mem hq1
            rw [List.length_take] at hj
            rw [List.getElem_take] at ej
            obtain ⟨hi2, ez⟩ := List.getElem?_eq_some_iff.mp hz
            have := List.pairwise_iff_getElem.mp ndy j i (by omega) hi2 (by omega)
            exact absurd (ej.trans ez.symm) this
        rw [putK_new _ nk]
        refine ⟨s3.mut hd2, _, upd_same, ?_, ?_⟩
        · rw [List.map_append, f2, take_snoc hz, List.map_append]
          rfl
        · rw [List.map_append, take_snoc hz, List.map_append]
          refine RpA.append (RpA.updK e2 r2) (.cons ?_ .nil)
          have er : rowOf R z = p.2 := by rw [← ep, rowOf_at ok.nd hp]
          show Rp K _ v3 (rowT false (rowOf R z))
          rw [er]
          exact Rp.updK e2 hr3
      · obtain ⟨s3, k2, e2, f2, r2⟩ := pp
        rw [List.length_map, List.take_of_length_le (Nat.le_refl _)] at f2 r2
        have hR2 : RulesAt K H3 d2 false (ys.map fun nm => (nm, rowOf R nm)) := ⟨k2, .inl e2, by rw [f2, List.map_map]; rfl, by rw [List.map_map]; exact r2⟩
        refine ⟨d2, n, false, _, k2, rfl, e2, hR2, ok.perm pR2, fun H4 F ord s4 eF no mem topo => ?_⟩
        have mem' : ∀ y, y ∈ ord ↔ y ∈ R.map fun p => p.1 := fun y => by
          rw [mem y, List.map_map]
          show y ∈ ys.map (fun nm => nm) ↔ _
          rw [List.map_id']
          exact hp1.mem_iff
        have tx : TxOk n R root ord := ⟨ok, no, mem', topo.perm pR2, hroot⟩
        have sH : Same H H4 := (s1.trans sA).trans (sS.trans (s3.trans s4))
        have hRk4 := (hRk2.mono s3).mono s4
        have ek4 : H4 dk = some (.dK ks) := s4 _ _ (s3 _ _ (sS _ _ ekA))
        clear hR2 e2 f2 r2 s4 s3 hRk2 sS epy hd2 hRk ekA
        have hx4 := sH _ _ hx
        have lord : ord.length = R.length := by
          have h1 := nodup_len ord _ no (fun y hy => (mem' y).mp hy)
          have h2 := nodup_len _ ord ok.nd (fun y hy => (mem' y).mpr hy)
          rw [List.length_map] at h1 h2
          omega
        refine ⟨.ref x, rfl, x, _, dx, _, rfl, hx4, t.c_Text, t.n_Text_own_order, (by decide : (0 : Nat) < 1000), ?_⟩
        have m5 := (SameX.refl H4).mut (x := x) (o := .ins (He.ga K "Text") dx (putF "own_order" (.ref F) []))
        have hx5 : (upd H4 x (.ins (He.ga K "Text") dx (putF "own_order" (.ref F) []))) x = some (.ins (He.ga K "Text") dx (putF "own_order" (.ref F) [])) := upd_same
        generalize upd H4 x (.ins (He.ga K "Text") dx (putF "own_order" (.ref F) [])) = H5 at m5 hx5
        have eF5 := m5.at hx4 eF
        have ek5 := m5.dic hx4 ek4
        have hR5 := hRk4.sameX m5 hx4
        refine ⟨_, rfl, x, _, dx, _, .ref F, rfl, hx5, t.c_Text, t.n_Text_own_order, rfl, F, _, rfl, .inl (SqL.of eF5), _, rfl, dk, ks, rfl, ek5, _, _, rfl, rfl, false, ?_, iteF ?_⟩
        · refine congrArg V.bl (decide_eq_false ?_)
          rw [List.length_map]
          omega
        obtain ⟨pr, hpr, epr⟩ := List.mem_map.mp hroot
        obtain ⟨ir, hir, eir⟩ := List.getElem_of_mem hpr
        obtain ⟨vr, hvr, _⟩ := hR5.get ok.nd (i := ir) (p := pr) (by rw [← eir]; exact List.getElem?_eq_getElem hir)
        rw [epr] at hvr
        refine ⟨_, rfl, _, _, _, _, true, rfl, .ty _, .base (.str root), kit_ty (by decide +kernel), true, rfl, iteF ⟨_, rfl, _, rfl, dk, some vr, rfl, hvr, _, rfl, iteF ?_⟩⟩
        refine ⟨_, rfl, .ref x, rfl, x, _, dx, _, rfl, hx5, t.c_Text, t.n_Text_signs, (by decide : (1 : Nat) < 1000), ?_⟩
        refine ⟨_, rfl, .ref x, rfl, x, _, dx, _, rfl, upd_same, t.c_Text, t.n_Text_own_rules, (by decide : (2 : Nat) < 1000), ?_⟩
        refine ⟨_, rfl, .ref x, rfl, x, _, dx, _, rfl, upd_same, t.c_Text, t.n_Text_root, (by decide : (3 : Nat) < 1000), ?_⟩
        have m8 := (((SameX.refl H5).mut (x := x) (o := .ins (He.ga K "Text") dx (putF "signs" (.int n) (putF "own_order" (.ref F) [])))).mut (o := .ins (He.ga K "Text") dx (putF "own_rules" (.ref dk) (putF "signs" (.int n) (putF "own_order" (.ref F) []))))).mut (o := .ins (He.ga K "Text") dx (putF "root" (.str root) (putF "own_rules" (.ref dk) (putF "signs" (.int n) (putF "own_order" (.ref F) [])))))
        have hx8 : (upd (upd (upd H5 x (.ins (He.ga K "Text") dx (putF "signs" (.int n) (putF "own_order" (.ref F) [])))) x (.ins (He.ga K "Text") dx (putF "own_rules" (.ref dk) (putF "signs" (.int n) (putF "own_order" (.ref F) []))))) x (.ins (He.ga K "Text") dx (putF "root" (.str root) (putF "own_rules" (.ref dk) (putF "signs" (.int n) (putF "own_order" (.ref F) [])))))) x = some (.ins (He.ga K "Text") dx (putF "root" (.str root) (putF "own_rules" (.ref dk) (putF "signs" (.int n) (putF "own_order" (.ref F) []))))) := upd_same
        generalize upd (upd (upd H5 x (.ins (He.ga K "Text") dx (putF "signs" (.int n) (putF "own_order" (.ref F) [])))) x (.ins (He.ga K "Text") dx (putF "own_rules" (.ref dk) (putF "signs" (.int n) (putF "own_order" (.ref F) []))))) x (.ins (He.ga K "Text") dx (putF "root" (.str root) (putF "own_rules" (.ref dk) (putF "signs" (.int n) (putF "own_order" (.ref F) []))))) = H8 at m8 hx8
        intro ds hds
        have s9 := Same.new (o := .dK []) hds
        have d9 : DF (upd H8 ds (.dK [])) ds 0 fun _ => none := DF.nil
        generalize upd H8 ds (.dK []) = H9 at s9 d9
        have hx9 := s9 _ _ hx8
        refine ⟨.ref x, rfl, x, _, dx, _, rfl, hx9, t.c_Text, t.n_Text_own_sizes, (by decide : (4 : Nat) < 1000), ?_⟩
        have dsx : ds ≠ x := fun e => by
          obtain ⟨k9, e9, _⟩ := d9.ex
          rw [e, hx9] at e9
          cases e9
        have m10 := (SameX.refl H9).mut (x := x) (o := .ins (He.ga K "Text") dx (putF "own_sizes" (.ref ds) (putF "root" (.str root) (putF "own_rules" (.ref dk) (putF "signs" (.int n) (putF "own_order" (.ref F) []))))))
        have hx10 : (upd H9 x (.ins (He.ga K "Text") dx (putF "own_sizes" (.ref ds) (putF "root" (.str root) (putF "own_rules" (.ref dk) (putF "signs" (.int n) (putF "own_order" (.ref F) []))))))) x = some (.ins (He.ga K "Text") dx (putF "own_sizes" (.ref ds) (putF "root" (.str root) (putF "own_rules" (.ref dk) (putF "signs" (.int n) (putF "own_order" (.ref F) [])))))) := upd_same
        have d10 := d9.ne (o := .ins (He.ga K "Text") dx (putF "own_sizes" (.ref ds) (putF "root" (.str root) (putF "own_rules" (.ref dk) (putF "signs" (.int n) (putF "own_order" (.ref F) [])))))) dsx
        generalize upd H9 x (.ins (He.ga K "Text") dx (putF "own_sizes" (.ref ds) (putF "root" (.str root) (putF "own_rules" (.ref dk) (putF "signs" (.int n) (putF "own_order" (.ref F) [])))))) = H10 at m10 hx10 d10
        intro dd hdd
        have s11 := Same.new (o := .dK []) hdd
        have dd11 : DF (upd H10 dd (.dK [])) dd 0 fun _ => none := DF.nil
        generalize upd H10 dd (.dK []) = H11 at s11 dd11
        have m11 : SameX x H5 H11 := ((m8.trans (SameX.of s9)).trans m10).trans (SameX.of s11)
        have hx11 := s11 _ _ hx10
        have ds11 := d10.mono s11
        have eF11 := m11.at hx5 eF5
        have ek11 := m11.dic hx5 ek5
        have hR11 := hR5.sameX m11 hx5
        have mH : SameX x H H11 := ((SameX.of sH).trans m5).trans m11
        have dsdd : ds ≠ dd := fun e => by
          obtain ⟨k9, e9, _⟩ := d10.ex
          rw [← e, e9] at hdd
          cases hdd
        have hdsH : H ds = none := by
          cases h : H ds with
          | none => rfl
          | some o =>
            have := (((SameX.of (x := x) sH).trans m5).trans m8) ds o dsx h
            rw [this] at hds
            cases hds
        have hddx : dd ≠ x := fun e => by rw [e, hx10] at hdd; cases hdd
        have hddH : H dd = none := by
          cases h : H dd with
          | none => rfl
          | some o =>
            have := (((((SameX.of (x := x) sH).trans m5).trans m8).trans (SameX.of s9)).trans m10) dd o hddx h
            rw [this] at hdd
            cases hdd
        have dkds : dk ≠ ds := fun e => by
          have := m8.dic hx5 ek5
          rw [e, hds] at this
          cases this
        have dkdd : dk ≠ dd := fun e => by
          have := ((m8.trans (SameX.of s9)).trans m10).dic hx5 ek5
          rw [e, hdd] at this
          cases this
        have hF_ds : ∀ {H' : Hp} {f m}, DF H' ds m f → H' F = some (.lst (ord.map V.str)) → F ≠ ds := fun df e e2 => by
          obtain ⟨k9, e9, _⟩ := df.ex
          rw [← e2, e] at e9
          cases e9
        clear m10 d10 s11 d9 s9 m8 hx8 hx9 hx10
        refine ⟨_, rfl, x, _, dx, _, .ref F, rfl, hx11, t.c_Text, t.n_Text_own_order, rfl, F, rfl, ⟨_, SqL.of eF11⟩, ?_⟩
        refine for_it (walk_list (xs := ord.map V.str)) (fun i σ H' => SameX x H H' ∧ H' x = some (.ins (He.ga K "Text") dx (putF "own_sizes" (.ref ds) (putF "root" (.str root) (putF "own_rules" (.ref dk) (putF "signs" (.int n) (putF "own_order" (.ref F) [])))))) ∧ H' F = some (.lst (ord.map V.str)) ∧ H' dk = some (.dK ks) ∧ RulesAt K H' dk false R ∧ ∃ (u6 u7 u8 u9 : Option V) (fs fd : Key → Option V) (L : Str → Int), σ = [some (.ref x), some (.int n), some (.ref d), some (.str root), some (.ref dk), some (.ref dd), u6, u7, u8, u9] ∧ DF H' ds i fs ∧ (∀ y, fs (.inr y) = if y ∈ ord.take i then some (.int (valF R (ord.take i) (fun _ => 1) (.inr y))) else none) ∧ (∀ z, fs (.inl z) = none) ∧ DF H' dd i fd ∧ ∀ y ∈ ord.take i, fd (.inr y) = some (.int (L y)))
          ⟨mH, hx11, eF11, ek11, hR11, none, none, none, none, fun _ => none, fun _ => none, fun _ => 0, rfl, ds11, fun y => rfl, fun z => rfl, dd11, fun y hy => absurd hy List.not_mem_nil⟩ (fun i σ H' _ p => SqL.of p.2.2.1) (fun i y σ H2 H3 hi pp yy => ?_) (fun σ H2 pp => ?_)
        · obtain ⟨mm, hxx, eFF, ekk, hRR, u6, u7, u8, u9, fs, fd, L, rfl, dS, fS, fI, dD, fD⟩ := pp
          obtain ⟨rfl, hy⟩ := yy
          obtain ⟨z, hz, rfl⟩ := strs_at hy
          have zo := List.mem_of_getElem? hz
          obtain ⟨p, hp, rfl⟩ := List.mem_map.mp ((tx.mem z).mp zo)
          obtain ⟨ip, hip, eip⟩ := List.getElem_of_mem hp
          have gp : R[ip]? = some p := by rw [← eip]; exact List.getElem?_eq_getElem hip
          have rl := (ok.row p hp).1
          have inn := tx.topo i p hp hz
          rw [List.length_map] at hi
          obtain ⟨v3, hv3, hr3⟩ := hRR.get ok.nd gp
          obtain ⟨a, xs, rfl, ha, hxs⟩ := hr3.row
          have lx : xs.length = p.2.length := by rw [hxs.len, rowP_len]
          refine ⟨_, rfl, _, rfl, dk, _, rfl, hv3, a, rfl, ⟨xs, ha⟩, fun D hD => ?_⟩
          refine lc_all (K := K) (walk_tup (xs := xs)) hD (by omega) (fun H' s4 => s4.tup ha) (fun j => .v (.int ((p.2.getD j (.inl 0, 0)).2 * valF R (ord.take i) (fun _ => 1) (p.2.getD j (.inl 0, 0)).1))) (fun j => rfl) (fun j y H4 H5 hj s4 yy Qk kq => ?_) (fun H4 ys s4 e r => ?_)
          · obtain ⟨rfl, hyj⟩ := yy
            obtain ⟨q1, b, hq1, rfl, hb⟩ := row_at hxs hyj
            have qm := List.mem_of_getElem? hq1
            have q1s := small p hp q1 qm
            have q1p := ((ok.row p hp).2 q1 qm).1
            have hget : ∃ o, fs q1.1 = o ∧ o.getD (.int 1) = .int (valF R (ord.take i) (fun _ => 1) q1.1) := by
              cases hk : q1.1 with
              | inl s => exact ⟨_, fI s, by rw [valF_sign]; rfl⟩
              | inr y =>
                have hy : y ∈ namesR p.2 := by
                  unfold namesR
                  refine List.mem_filterMap.mpr ⟨q1, qm, ?_⟩
                  rw [hk]
                refine ⟨_, fS y, ?_⟩
                rw [if_pos (inn y hy)]
                rfl
            obtain ⟨o, ho, hov⟩ := hget
            have dS4 := dS.mono s4
            refine g_two (s4.tup hb) ⟨rfl, _, rfl, _, rfl, x, _, dx, _, .ref ds, rfl, s4 _ _ hxx, t.c_Text, t.n_Text_own_sizes, rfl, ds, rfl, dS4.isD, _, rfl, o, dS4.get ho, q1.2, valF R (ord.take i) (fun _ => 1) q1.1, rfl, hov, .inl ⟨by omega, by omega⟩, kq _ _ (Same.refl _) ?_⟩
            rw [getD_at hq1]
            exact .v _
          have e3 : (List.range xs.length).map (fun j => Dat.v (.int ((p.2.getD j (.inl 0, 0)).2 * valF R (ord.take i) (fun _ => 1) (p.2.getD j (.inl 0, 0)).1))) = iD (p.2.map fun q => q.2 * valF R (ord.take i) (fun _ => 1) q.1) := by
            unfold iD
            rw [lx]
            conv => rhs; rw [← range_get (xs := p.2) (fun j => p.2.getD j (.inl 0, 0)) fun j x hx => getD_at hx]
            rw [List.map_map, List.map_map]
            rfl
          rw [e3] at r
          rw [r.unints] at e
          obtain ⟨kv5, p5, d5⟩ := (dS.mono s4).put (show i < sizeLine by rw [sizeLine_eq]; omega) (.inr p.1) (.int (rowSum (valF R (ord.take i) fun _ => 1) p.2))
          refine ⟨D, _, rfl, SqL.of e, _, rfl, x, _, dx, _, .ref ds, rfl, s4 _ _ hxx, t.c_Text, t.n_Text_own_sizes, rfl, _, rfl, ds, _, rfl, p5, ?_⟩
          clear r e
          have kd : ∃ kvd, (fun _ => True) kvd ∧ H4 ds = some (.dK kvd) := by
            obtain ⟨kvd, h, _⟩ := (dS.mono s4).ex
            exact ⟨kvd, trivial, h⟩
          obtain ⟨kvd, _, hkvd⟩ := kd
          have mm5 : SameX x H (upd H4 ds (.dK kv5)) := (mm.trans (SameX.of s4)).mutN hdsH
          have hxx5 : (upd H4 ds (.dK kv5)) x = some (.ins (He.ga K "Text") dx (putF "own_sizes" (.ref ds) (putF "root" (.str root) (putF "own_rules" (.ref dk) (putF "signs" (.int n) (putF "own_order" (.ref F) [])))))) := by
            rw [upd_ne (Ne.symm dsx)]
            exact s4 _ _ hxx
          have eFF5 : (upd H4 ds (.dK kv5)) F = some (.lst (ord.map V.str)) := by
            rw [upd_ne (hF_ds dS eFF)]
            exact s4 _ _ eFF
          have ekk5 : (upd H4 ds (.dK kv5)) dk = some (.dK ks) := by
            rw [upd_ne dkds]
            exact s4 _ _ ekk
          have hRR5 : RulesAt K (upd H4 ds (.dK kv5)) dk false R := (hRR.mono s4).updK hkvd dkds
          have dD5 : DF (upd H4 ds (.dK kv5)) dd i fd := (dD.mono s4).ne (Ne.symm dsdd)
          generalize upd H4 ds (.dK kv5) = H5 at p5 d5 mm5 hxx5 eFF5 ekk5 hRR5 dD5
          obtain ⟨v6, hv6, hr6⟩ := hRR5.get ok.nd gp
          refine ⟨_, rfl, _, rfl, dk, v6, rfl, hv6, v6, false, p.2, rfl, hr6, by omega, fun H6 Dn fn s6 en => ⟨Dn, rfl, ⟨_, SqL.of en⟩, fun D2 hD2 => ?_⟩⟩
          have nl := namesR_len p.2
          refine lc_all (K := K) (walk_list (xs := (namesR p.2).map V.str)) hD2 (by rw [List.length_map]; omega) (fun H' s7 => (SqL.of (s7 _ _ en))) (fun j => .v (.int (L ((namesR p.2).getD j p.1)))) (fun j => rfl) (fun j y H7 H8 hj s7 yy Qk kq => ?_) (fun H7 ys s7 e r => ?_)
          · obtain ⟨rfl, hy⟩ := yy
            obtain ⟨y, hy1, rfl⟩ := strs_at hy
            have g1 := fD y (inn y (List.mem_of_getElem? hy1))
            refine ⟨rfl, _, rfl, _, rfl, dd, _, rfl, ((dD5.mono s6).mono s7).get (k := .inr y) g1, kq _ _ (Same.refl _) ?_⟩
            rw [getD_at hy1]
            exact .v _
          have e3 : (List.range ((namesR p.2).map V.str).length).map (fun j => Dat.v (.int (L ((namesR p.2).getD j p.1)))) = iD ((namesR p.2).map L) := by
            unfold iD
            rw [List.length_map]
            conv => rhs; rw [← range_get (xs := namesR p.2) (fun j => (namesR p.2).getD j p.1) fun j x hx => getD_at hx]
            rw [List.map_map, List.map_map]
            rfl
          rw [e3] at r
          rw [r.unints] at e
          refine ⟨D2, _, 0, rfl, rfl, SqL.of e, fun m => ⟨1, m, rfl, rfl, ?_⟩⟩
          have s67 := s6.trans s7
          obtain ⟨kv9, p9, d9⟩ := (dD5.mono s67).put (show i < sizeLine by rw [sizeLine_eq]; omega) (.inr p.1) (.int (1 + m))
          have kd : ∃ kvd, (fun _ => True) kvd ∧ H7 dd = some (.dK kvd) := by
            obtain ⟨kvd, h, _⟩ := (dD5.mono s67).ex
            exact ⟨kvd, trivial, h⟩
          obtain ⟨kvd2, _, hkvd2⟩ := kd
          have snoc : ord.take (i + 1) = ord.take i ++ [p.1] := take_snoc hz
          refine ⟨_, rfl, _, rfl, dd, _, rfl, p9, (mm5.trans (SameX.of s67)).mutN hddH, ?_, ?_, ?_, (hRR5.mono s67).updK hkvd2 dkdd, _, _, _, _, _, _, fun y => if y = p.1 then 1 + m else L y, rfl, (d5.mono s67).ne dsdd, fun y => ?_, fun z => ?_, d9, fun y hy => ?_⟩
          · rw [upd_ne (Ne.symm hddx)]
            exact s67 _ _ hxx5
          · rw [upd_ne (fun e => by have := s67 _ _ eFF5; rw [e, hkvd2] at this; cases this)]
            exact s67 _ _ eFF5
          · rw [upd_ne dkdd]
            exact s67 _ _ ekk5
          · rw [snoc, valF_snoc]
            by_cases c : y = p.1
            · subst c
              refine (if_pos rfl).trans ?_
              rw [if_pos (by simp)]
              refine congrArg (fun z => some (V.int z)) ?_
              refine Eq.symm ((if_pos rfl).trans ?_)
              rw [rowOf_at ok.nd hp]
            · refine (if_neg (fun e => c (by injection e))).trans ((fS y).trans ?_)
              have e2 : valStep R (valF R (ord.take i) fun _ => 1) p.1 (.inr y) = valF R (ord.take i) (fun _ => 1) (.inr y) := if_neg (fun e => c (by injection e))
              rw [e2]
              by_cases d : y ∈ ord.take i
              · rw [if_pos d, if_pos (List.mem_append_left _ d)]
              · rw [if_neg d, if_neg (fun h => by rcases List.mem_append.mp h with h | h; exact d h; exact c (List.mem_singleton.mp h))]
          · exact (if_neg (fun e => by cases e)).trans (fI z)
          · by_cases c : y = p.1
            · subst c
              refine (if_pos rfl).trans ?_
              show _ = some (V.int (if p.1 = p.1 then 1 + m else L p.1))
              rw [if_pos rfl]
            · refine (if_neg (fun e => c (by injection e))).trans ?_
              show _ = some (V.int (if y = p.1 then 1 + m else L y))
              rw [if_neg c]
              rw [snoc] at hy
              rcases List.mem_append.mp hy with h | h
              · exact fD y h
              · exact absurd (List.mem_singleton.mp h) c
        · obtain ⟨mm, hxx, eFF, ekk, hRR, u6, u7, u8, u9, fs, fd, L, rfl, dS, fS, fI, dD, fD⟩ := pp
          rw [List.length_map, List.take_length] at fS fD
          have rootO := (tx.mem root).mpr hroot
          have g1 := fS root
          rw [if_pos rootO] at g1
          refine ⟨_, rfl, x, _, dx, _, .ref ds, rfl, hxx, t.c_Text, t.n_Text_own_sizes, rfl, _, rfl, ds, _, rfl, dS.get (k := .inr root) g1, _, rfl, x, _, dx, _, rfl, hxx, t.c_Text, t.n_Text_size, (by decide : (5 : Nat) < 1000), ?_⟩
          refine ⟨_, rfl, _, rfl, dd, _, rfl, (dD.ne hddx).get (k := .inr root) (fD root rootO), _, rfl, x, _, dx, _, rfl, upd_same, t.c_Text, t.n_Text_depth, (by decide : (6 : Nat) < 1000), ?_⟩
          refine q _ ord (mm.mut.mut) ⟨x, dx, F, dk, ds, L root, ks, rfl, upd_same, ?_, ?_, ?_, ?_⟩ tx
          · rw [upd_ne (by intro e; rw [e, hxx] at eFF; cases eFF), upd_ne (by intro e; rw [e, hxx] at eFF; cases eFF)]
            exact eFF
          · rw [upd_ne (by intro e; rw [e, hxx] at ekk; cases ekk), upd_ne (by intro e; rw [e, hxx] at ekk; cases ekk)]
            exact ekk
          · exact hRR.sameX (((SameX.refl H2).mut).mut) hxx
          · refine ⟨_, fs, ?_, (dS.ne dsx).ne dsx, fun nm hn => ?_⟩
            · rw [List.length_map, lord]
              omega
            · rw [fS nm, if_pos ((tx.mem nm).mpr hn)]
end
end WV
end
section
set_option maxRecDepth 100000
set_option maxHeartbeats 4000000
namespace WV
open PySem PySem.Spec PyProof.Rows L2
/-! ### the parts that tell a beginning, plain -/
def keyRow (R : Rules) : Key → Row
  | .inl _ => []
  | .inr nm => rowOf R nm
def itRun (f : Key → Int) (R : Rules) : Nat → Row → Int → Row
  | 0, _, _ => []
  | _ + 1, [], _ => []
  | m + 1, (k, c) :: st, left =>
    if left ≤ 0 then [] else
    if f k * c ≤ 0 then itRun f R m st left else
    (if 0 < min c (left / f k) then [(k, min c (left / f k))] else []) ++ itRun f R m (if min c (left / f k) < c ∧ 0 < left - min c (left / f k) * f k then keyRow R k ++ ((if 1 < c - min c (left / f k) then [(k, c - min c (left / f k) - 1)] else []) ++ st) else st) (left - min c (left / f k) * f k)
theorem itRun_end {f : Key → Int} {R : Rules} {m : Nat} {st : Row} {left : Int} (h : left ≤ 0) : itRun f R m st left = [] := by
  cases m with
  | zero => rfl
  | succ m =>
    cases st with
    | nil => rfl
    | cons q st =>
      obtain ⟨k, c⟩ := q
      exact if_pos h
def totR (R : Rules) (l : List Str) : Nat := (l.map fun nm => (rowOf R nm).length).sum
def itemsF (R : Rules) (root : Str) (ord : List Str) (many : Int) : Row := itRun (sizes R ord) R (totR R ord + 1) [(.inr root, 1)] many
def keyIn (n : Int) (N : List Str) : Key → Prop
  | .inl s => 0 ≤ s ∧ s < n
  | .inr nm => nm ∈ N
theorem keyIn.sub {n : Int} {N N' : List Str} {k : Key} (h : keyIn n N k) (s : ∀ x ∈ N, x ∈ N') : keyIn n N' k := by
  cases k with
  | inl i => exact h
  | inr x => exact s x h
structure ItI (n : Int) (R : Rules) (root : Str) (ord : List Str) (many : Int) (found seg rest : Row) (left : Int) (lev m : Nat) : Prop where
  nonneg : 0 ≤ left
  cov : left ≤ rowSum (sizes R ord) seg
  sum : rowSum (sizes R ord) found + left = many
  sgs : ∀ q ∈ seg, 1 ≤ q.2 ∧ keyIn n (ord.take lev) q.1
  fnd : ∀ q ∈ found, 1 ≤ q.2 ∧ keyIn n ord q.1
  fuel : totR R (ord.take lev) + seg.length ≤ m
  few : found.length + (totR R (ord.take lev) + seg.length) ≤ totR R ord + 1
  run : found ++ itRun (sizes R ord) R m (seg ++ rest) left = itemsF R root ord many
section
variable {n : Int} {R : Rules} {root : Str} {ord : List Str} {many : Int} {found seg rest : Row} {left : Int} {lev m : Nat} {k : Key} {c : Int}
theorem TxOk.sizes_nonneg (tx : TxOk n R root ord) (k : Key) : 0 ≤ sizes R ord k := valF_nonneg tx.ok (fun _ => by decide) ord k
theorem TxOk.val_name (tx : TxOk n R root ord) (g : Int → Int) {x : Str} (hx : x ∈ ord) : valF R ord g (.inr x) = rowSum (valF R ord g) (rowOf R x) := by
  obtain ⟨p, hp, rfl⟩ := List.mem_map.mp ((tx.mem x).mp hx)
  rw [rowOf_at tx.ok.nd hp]
  exact valF_name tx.ok.nd tx.no tx.topo hp hx
theorem rowSum_cons (f : Key → Int) (q : Key × Int) (r : Row) : rowSum f (q :: r) = q.2 * f q.1 + rowSum f r := by
  unfold rowSum
  rw [List.map_cons, List.sum_cons]
theorem rowSum_app (f : Key → Int) (r r' : Row) : rowSum f (r ++ r') = rowSum f r + rowSum f r' := by
  unfold rowSum
  rw [List.map_append, List.sum_append]
theorem totR_take {i : Nat} {x : Str} (h : ord[i]? = some x) : totR R (ord.take (i + 1)) = totR R (ord.take i) + (rowOf R x).length := by
  unfold totR
  rw [take_snoc h, List.map_append, List.sum_append]
  simp
theorem totR_le (i j : Nat) (h : i ≤ j) : totR R (ord.take i) ≤ totR R (ord.take j) := by
  induction j with
  | zero =>
    have : i = 0 := by omega
    subst this
    exact Nat.le_refl _
  | succ j ih =>
    by_cases c : i = j + 1
    · subst c
      exact Nat.le_refl _
    · refine Nat.le_trans (ih (by omega)) ?_
      cases g : ord[j]? with
      | none =>
        have := List.getElem?_eq_none_iff.mp g
        rw [List.take_of_length_le this, List.take_of_length_le (by omega)]
        exact Nat.le_refl _
      | some x =>
        rw [totR_take g]
        exact Nat.le_add_right _ _
theorem ItI.start (tx : TxOk n R root ord) (h0 : 0 ≤ many) (h1 : many ≤ sizes R ord (.inr root)) : ItI n R root ord many [] [(.inr root, 1)] [] many ord.length (totR R ord + 1) := by
  refine ⟨h0, ?_, ?_, fun q hq => ?_, fun q hq => absurd hq List.not_mem_nil, ?_, ?_, rfl⟩
  · rw [rowSum_cons]
    show many ≤ 1 * sizes R ord (.inr root) + 0
    omega
  · show 0 + many = many
    omega
  · rw [List.mem_singleton.mp hq, List.take_length]
    exact ⟨Int.le_refl 1, (tx.mem root).mpr tx.root⟩
  · rw [List.take_length]
    exact Nat.le_refl _
  · rw [List.take_length]
    show 0 + (totR R ord + 1) ≤ _
    omega
theorem ItI.skip (tx : TxOk n R root ord) (h : ItI n R root ord many found ((k, c) :: seg) rest left lev (m + 1)) (hl : 0 < left) (hz : sizes R ord k * c ≤ 0) : ItI n R root ord many found seg rest left lev m := by
  have h1 := h.cov
  rw [rowSum_cons] at h1
  have h2 : c * sizes R ord k ≤ 0 := by rw [Int.mul_comm]; exact hz
  refine ⟨h.nonneg, ?_, h.sum, fun q hq => h.sgs q (List.mem_cons_of_mem _ hq), h.fnd, ?_, ?_, ?_⟩
  · show left ≤ _
    have : (k, c).2 * sizes R ord (k, c).1 = c * sizes R ord k := rfl
    omega
  · have := h.fuel
    rw [List.length_cons] at this
    omega
  · have := h.few
    rw [List.length_cons] at this
    omega
  · rw [← h.run]
    show _ = found ++ (if left ≤ 0 then [] else if sizes R ord k * c ≤ 0 then _ else _)
    rw [if_neg (by omega), if_pos hz]
    rfl
abbrev wh (f : Key → Int) (k : Key) (c left : Int) : Int := min c (left / f k)
theorem ItI.take (tx : TxOk n R root ord) (h : ItI n R root ord many found ((k, c) :: seg) rest left lev (m + 1)) (hl : 0 < left) (hz : ¬ sizes R ord k * c ≤ 0) :
    1 ≤ c ∧ 0 < sizes R ord k ∧ 0 ≤ wh (sizes R ord) k c left ∧ (¬ (wh (sizes R ord) k c left < c ∧ 0 < left - wh (sizes R ord) k c left * sizes R ord k) → ItI n R root ord many (found ++ if 0 < wh (sizes R ord) k c left then [(k, wh (sizes R ord) k c left)] else []) seg rest (left - wh (sizes R ord) k c left * sizes R ord k) lev m) ∧
    (wh (sizes R ord) k c left < c ∧ 0 < left - wh (sizes R ord) k c left * sizes R ord k → ∃ x lev', k = .inr x ∧ x ∈ ord ∧ ItI n R root ord many (found ++ if 0 < wh (sizes R ord) k c left then [(k, wh (sizes R ord) k c left)] else []) (rowOf R x) ((if 1 < c - wh (sizes R ord) k c left then [(k, c - wh (sizes R ord) k c left - 1)] else []) ++ (seg ++ rest)) (left - wh (sizes R ord) k c left * sizes R ord k) lev' m) := by
  obtain ⟨hc, hk⟩ := h.sgs _ List.mem_cons_self
  replace hc : 1 ≤ c := hc
  replace hk : keyIn n (ord.take lev) k := hk
  have f0 := tx.sizes_nonneg k
  have fp : 0 < sizes R ord k := by
    rcases Int.lt_or_eq_of_le f0 with h | h
    · exact h
    · rw [← h] at hz
      simp at hz
  have dm := Int.mul_ediv_add_emod left (sizes R ord k)
  have em0 := Int.emod_nonneg left (Int.ne_of_gt fp)
  have eml := Int.emod_lt_of_pos left fp
  have d0 : 0 ≤ left / sizes R ord k := Int.ediv_nonneg h.nonneg f0
  have w0 : 0 ≤ wh (sizes R ord) k c left := by
    unfold wh
    omega
  have wle : wh (sizes R ord) k c left * sizes R ord k ≤ left := by
    have : wh (sizes R ord) k c left * sizes R ord k ≤ left / sizes R ord k * sizes R ord k := Int.mul_le_mul_of_nonneg_right (Int.min_le_right _ _) f0
    rw [Int.mul_comm (left / _)] at this
    omega
  have hrun := h.run
  have e1 : itRun (sizes R ord) R (m + 1) ((k, c) :: seg ++ rest) left = (if 0 < wh (sizes R ord) k c left then [(k, wh (sizes R ord) k c left)] else []) ++ itRun (sizes R ord) R m (if wh (sizes R ord) k c left < c ∧ 0 < left - wh (sizes R ord) k c left * sizes R ord k then keyRow R k ++ ((if 1 < c - wh (sizes R ord) k c left then [(k, c - wh (sizes R ord) k c left - 1)] else []) ++ (seg ++ rest)) else (seg ++ rest)) (left - wh (sizes R ord) k c left * sizes R ord k) := by
    show (if left ≤ 0 then [] else if sizes R ord k * c ≤ 0 then _ else _) = _
    rw [if_neg (by omega), if_neg hz]
    rfl
  rw [e1, ← List.append_assoc] at hrun
  clear e1
  have hcov := h.cov
  rw [rowSum_cons] at hcov
  replace hcov : left ≤ c * sizes R ord k + rowSum (sizes R ord) seg := hcov
  have hsum : rowSum (sizes R ord) (found ++ if 0 < wh (sizes R ord) k c left then [(k, wh (sizes R ord) k c left)] else []) = rowSum (sizes R ord) found + wh (sizes R ord) k c left * sizes R ord k := by
    rw [rowSum_app]
    by_cases c0 : 0 < wh (sizes R ord) k c left
    · rw [if_pos c0, rowSum_cons]
      show _ + (_ + 0) = _
      rw [Int.add_zero]
    · rw [if_neg c0]
      have : wh (sizes R ord) k c left = 0 := by omega
      rw [this, Int.zero_mul]
      rfl
  have hlen : (found ++ if 0 < wh (sizes R ord) k c left then [(k, wh (sizes R ord) k c left)] else []).length ≤ found.length + 1 := by
    rw [List.length_append]
    by_cases c0 : 0 < wh (sizes R ord) k c left
    · rw [if_pos c0]
      exact Nat.le_refl _
    · rw [if_neg c0]
      show _ + 0 ≤ _
      omega
  have hfnd : ∀ q ∈ (found ++ if 0 < wh (sizes R ord) k c left then [(k, wh (sizes R ord) k c left)] else []), 1 ≤ q.2 ∧ keyIn n ord q.1 := fun q hq => by
    rcases List.mem_append.mp hq with hq | hq
    · exact h.fnd q hq
    · by_cases c0 : 0 < wh (sizes R ord) k c left
      · rw [if_pos c0] at hq
        rw [List.mem_singleton.mp hq]
        exact ⟨c0, hk.sub fun x hx => List.mem_of_mem_take hx⟩
      · rw [if_neg c0] at hq
        cases hq
  have hs := h.sum
  have hfu := h.fuel
  have hfe := h.few
  rw [List.length_cons] at hfu hfe
  generalize hF : (found ++ if 0 < wh (sizes R ord) k c left then [(k, wh (sizes R ord) k c left)] else []) = found' at *
  refine ⟨hc, fp, w0, fun hn => ?_, fun hy => ?_⟩
  · rw [if_neg hn] at hrun
    refine ⟨by omega, ?_, by omega, fun q hq => h.sgs q (List.mem_cons_of_mem _ hq), hfnd, by omega, by omega, hrun⟩
    by_cases cw : wh (sizes R ord) k c left < c
    · have : ¬ 0 < left - wh (sizes R ord) k c left * sizes R ord k := fun h => hn ⟨cw, h⟩
      have h2 : 0 ≤ rowSum (sizes R ord) seg := rowSum_nonneg fun q hq => Int.mul_nonneg (by have := (h.sgs q (List.mem_cons_of_mem _ hq)).1; omega) (tx.sizes_nonneg _)
      omega
    · have : wh (sizes R ord) k c left = c := by
        have := Int.min_le_left c (left / sizes R ord k)
        unfold wh at cw ⊢
        omega
      rw [this]
      omega
  · rw [if_pos hy] at hrun
    have ew : wh (sizes R ord) k c left = left / sizes R ord k := by
      have := hy.1
      unfold wh at this ⊢
      omega
    have el : left - wh (sizes R ord) k c left * sizes R ord k = left % sizes R ord k := by
      rw [ew, Int.mul_comm]
      omega
    cases k with
    | inl s =>
      exfalso
      have e : sizes R ord (.inl s) = 1 := valF_sign s ord
      rw [e] at el
      have := hy.2
      rw [e, el] at this
      omega
    | inr x =>
      have hx : x ∈ ord.take lev := hk
      obtain ⟨j, hj, ej⟩ := List.getElem_of_mem hx
      rw [List.length_take] at hj
      rw [List.getElem_take] at ej
      have gj : ord[j]? = some x := by rw [List.getElem?_eq_getElem (by omega), ej]
      have xo := List.mem_of_getElem? gj
      have t1 := totR_take (R := R) gj
      have t2 := totR_le (R := R) (ord := ord) (j + 1) lev (by omega)
      refine ⟨x, j, rfl, xo, by omega, ?_, by omega, fun q hq => ?_, hfnd, by omega, by omega, hrun⟩
      · rw [el, ← tx.val_name _ xo]
        exact Int.le_of_lt eml
      · obtain ⟨p, hp, ep⟩ := List.mem_map.mp ((tx.mem x).mp xo)
        rw [← ep, rowOf_at tx.ok.nd hp] at hq
        obtain ⟨h1, h2⟩ := (tx.ok.row p hp).2 q hq
        refine ⟨h1.1, ?_⟩
        cases hq1 : q.1 with
        | inl s =>
          rw [hq1] at h2
          exact h2
        | inr y =>
          refine tx.topo j p hp (by rw [ep]; exact gj) y ?_
          unfold namesR
          refine List.mem_filterMap.mpr ⟨q, hq, ?_⟩
          rw [hq1]
end
end WV
end
section
set_option maxRecDepth 100000
set_option maxHeartbeats 4000000
namespace WV
open PySem PySem.Spec PyProof.Rows L2
section
variable {P : Program} {w : World} {K : PySem.W.Frag} {mg : Str → Option Value} {base : Heap}
theorem sc_Text_size_of : FnScope ["self", "part"] ["self", "part"] (defScope s_Text_size_of) := ⟨rfl, rfl, rfl, by decide +kernel, rfl, by decide +kernel, by decide +kernel⟩
def sp_size_of (K : PySem.W.Frag) : Sp := fun vs H Q _ => ∃ (x : Addr) (k : Key) (n : Int) (R : Rules) (root : Str) (ord : List Str), vs = [.ref x, kV k] ∧ TextAt K H (.ref x) n R root ord ∧ TxOk n R root ord ∧ keyIn n ord k ∧ ∀ H', Same H H' → Q (.int (sizes R ord k)) H'
theorem ok_size_of (t : T K mg) : Okf P w K mg base 1 ("Text", some "size_of") ["self", "part"] [] (sp_size_of K) := by
  refine okf (d := d_Text_size_of) t 53 rfl rfl sc_Text_size_of (fun _ _ _ _ _ _ us hl => match us, hl with | [_, _], _ => rfl) (fun vs H Q E h => ?_) (fun cdv A outer s H vs Q E hr h => ?_)
  · obtain ⟨x, k, n, R, root, ord, rfl, _⟩ := h
    rfl
  · obtain ⟨x, k, n, R, root, ord, rfl, tt, tx, hk, q⟩ := h
    have hu := hu_of hr
    refine ⟨_, (pss_one (ps_ret (pe_ifExp (pt_val (pe_callB call_isi (by rfl) t.b_isinstance bt_isinstance (pa_cons (pv 1) (pa_cons (pe_bt t.b_str bt_str) pa_nil)))) (pe_dget hu (pe_fld (pv 0) rfl) (pv 1) (fun _ _ => rfl)) pe_int))), ?_⟩
    obtain ⟨x', dx, oo, dr, ds, dp, kvs, ex, hx, ho, hdr, hR, lk⟩ := tt.ex
    injection ex with ex
    subst ex
    cases k with
    | inl z => exact ⟨_, rfl, _, _, _, _, false, rfl, .ty _, .base (.int z), kit_ty (by decide +kernel), false, rfl, iteF (by
        have e : sizes R ord (.inl z) = 1 := valF_sign z ord
        rw [← e]
        exact q H (Same.refl _))⟩
    | inr z => exact ⟨_, rfl, _, _, _, _, true, rfl, .ty _, .base (.str z), kit_ty (by decide +kernel), true, rfl, iteT ⟨_, rfl, x, _, dx, _, .ref ds, rfl, hx, t.c_Text, t.n_Text_own_sizes, rfl, _, rfl, ds, _, rfl, lk.get ((tx.mem z).mp hk), q H (Same.refl _)⟩⟩
end
end WV
end
section
set_option maxRecDepth 100000
set_option maxHeartbeats 4000000
namespace WV
open PySem PySem.Spec PyProof.Rows L2
theorem LK.monoT {K : PySem.W.Frag} {H H' : Hp} {v : V} {n : Int} {R : Rules} {root : Str} {ord : List Str} (e : Same H H') (h : TextAt K H v n R root ord) : TextAt K H' v n R root ord := by
  obtain ⟨x, dx, oo, dr, ds, dp, kvs, ex, hx, ho, hdr, hR, lk⟩ := h.ex
  exact ⟨x, dx, oo, dr, ds, dp, kvs, ex, e _ _ hx, e _ _ ho, e _ _ hdr, hR.mono e, lk.mono e⟩
theorem via2 {Goal : Prop} (G P : Hp → Int → Prop) (a : (∀ H z, P H z → G H z) → Goal) (b : ∀ H z, P H z → G H z) : Goal := a b
theorem rowP_noL (r : Row) : noLs (rowP r) = true := by
  induction r with
  | nil => rfl
  | cons q r ih => exact ih
section
variable {P : Program} {w : World} {K : PySem.W.Frag} {mg : Str → Option Value} {base : Heap}
theorem sc_Text_items_of : FnScope ["self", "place", "many", "found", "waiting", "skip", "left", "part", "count", "size", "whole"] ["self", "place", "many"] (defScope s_Text_items_of) := ⟨rfl, rfl, rfl, by decide +kernel, rfl, by decide +kernel, by decide +kernel⟩
def sp_items_of (K : PySem.W.Frag) : Sp := fun vs H Q _ => ∃ (x : Addr) (many : Int) (n : Int) (R : Rules) (root : Str) (ord : List Str), vs = [.ref x, .int 0, .int many] ∧ TextAt K H (.ref x) n R root ord ∧ TxOk n R root ord ∧ 0 ≤ many ∧ many ≤ sizes R ord (.inr root) ∧ (∀ y ∈ ord, sizes R ord (.inr y) < 100000) ∧ totR R ord ≤ 1000 ∧ (∀ p ∈ R, ∀ q ∈ p.2, q.2 ≤ 1000) ∧
  ∀ H' D ys, H D = none → Same H H' → H' D = some (.lst ys) → RpA K H' ys (rowP (itemsF R root ord many)) → (∀ q ∈ itemsF R root ord many, 1 ≤ q.2 ∧ keyIn n ord q.1) → rowSum (sizes R ord) (itemsF R root ord many) = many → (itemsF R root ord many).length ≤ totR R ord + 1 → Q (.ref D) H'
theorem ok_items_of (t : T K mg) : Okf P w K mg base 2 ("Text", some "items_of") ["self", "place", "many"] [] (sp_items_of K) := by
  have O_Text_size_of := ok_size_of (P := P) (w := w) (base := base) t
  refine okf (d := d_Text_items_of) t 54 rfl rfl sc_Text_items_of (fun _ _ _ _ _ _ us hl => match us, hl with | [_, _, _], _ => rfl) (fun vs H Q E h => ?_) (fun cdv A outer s H vs Q E hr h => ?_)
  · obtain ⟨x, many, n, R, root, ord, rfl, _⟩ := h
    rfl
  · obtain ⟨x, many, n, R, root, ord, rfl, tt, tx, m0, m1, sz, tot, small, q⟩ := h
    have hu := hu_of hr
    refine ⟨_, (pss_cons (ps_asg (pe_tup (pa_cons (pe_lst pa_nil) (pa_cons (pe_lst (pa_cons (pe_tup (pa_cons (pe_fld (pv 0) rfl) (pa_cons pe_int pa_nil))) pa_nil)) (pa_cons (pv 1) (pa_cons (pv 2) pa_nil))))) (pg_tup rfl (pgs_cons (pg_name (i := 3) sc_Text_items_of.nd rfl (.inl rfl)) (pgs_cons (pg_name (i := 4) sc_Text_items_of.nd rfl (.inl rfl)) (pgs_cons (pg_name (i := 5) sc_Text_items_of.nd rfl (.inl rfl)) (pgs_cons (pg_name (i := 6) sc_Text_items_of.nd rfl (.inl rfl)) pgs_nil))))))
      (pss_cons (ps_while PassesOwn.never (pt_cmpR op_gt (pv 6) pe_int (nomark _))
        (pss_cons (ps_asg (pe_bm0 PySem.F.plainAttrs_list PySem.F.slot_list_pop PySem.F.type_list_pop mt_pop (pv 4)) (pg_tup rfl (pgs_cons (pg_name (i := 7) sc_Text_items_of.nd rfl (.inl rfl)) (pgs_cons (pg_name (i := 8) sc_Text_items_of.nd rfl (.inl rfl)) pgs_nil))))
        (pss_cons (ps_set (i := 9) sc_Text_items_of.nd rfl (.inl rfl) (pe_mf O_Text_size_of (hr.mono (by decide)) (pv 0) t.c_Text t.h_Text_size_of (pa_cons (pv 7) pa_nil)))
        (pss_cons (ps_if (pt_cmpR op_le (pe_op op_mul (pv 9) (pv 8)) (pv 5) (nomark _))
          (pss_cons (ps_set (i := 5) sc_Text_items_of.nd rfl (.inl rfl) (pe_op op_sub (pv 5) (pe_op op_mul (pv 9) (pv 8))))
          (pss_one ps_continue))
          pss_nil)
        (pss_cons (ps_par (i := 8) (j := 5) rfl sc_Text_items_of.nd rfl rfl (by decide) rfl rfl (pa_cons (pe_op op_sub (pv 8) (pe_op op_fdiv (pv 5) (pv 9))) (pa_cons (pe_op op_mod (pe_callTy call_int1 (by rfl) t.b_int bt_int (pa_cons (pv 5) pa_nil)) (pv 9)) pa_nil)) (by rfl))
        (pss_cons (ps_set (i := 10) sc_Text_items_of.nd rfl (.inl rfl) (pe_ifExp (pt_cmpR op_eq (pv 5) pe_int (nomark _)) (pe_callB (call_min2 rfl) (by rfl) t.b_min bt_min (pa_cons (pv 8) (pa_cons (pe_op op_fdiv (pv 6) (pv 9)) pa_nil))) pe_int))
        (pss_cons (ps_if (pt_cmpR op_gt (pv 10) pe_int (nomark _))
          (pss_cons (ps_expr (pe_bm PySem.F.plainAttrs_list PySem.F.slot_list_append PySem.F.type_list_append mt_append (pv 3) (pa_cons (pe_tup (pa_cons (pv 7) (pa_cons (pv 10) pa_nil))) pa_nil)))
          (pss_one (ps_set (i := 6) sc_Text_items_of.nd rfl (.inl rfl) (pe_op op_sub (pv 6) (pe_op op_mul (pv 10) (pv 9))))))
          pss_nil)
        (pss_one (ps_if (PW.pt (pw_and (pt_cmpR op_lt (pv 10) (pv 8) (nomark _)) (pw_and1 (pt_cmpR op_gt (pv 6) pe_int (nomark _)))))
          (pss_cons (ps_expr (pe_bm PySem.F.plainAttrs_list PySem.F.slot_list_extend PySem.F.type_list_extend mt_extendA (pv 4) (pa_cons (pe_ifExp (pt_cmpR op_gt (pe_op op_sub (pv 8) (pv 10)) pe_int (nomark _)) (pe_lst (pa_cons (pe_tup (pa_cons (pv 7) (pa_cons (pe_op op_sub (pe_op op_sub (pv 8) (pv 10)) pe_int) pa_nil))) pa_nil)) (pe_lst pa_nil)) pa_nil)))
          (pss_one (ps_expr (pe_bm PySem.F.plainAttrs_list PySem.F.slot_list_extend PySem.F.type_list_extend mt_extendA (pv 4) (pa_cons (pe_revT (pe_dget hu (pe_fld (pv 0) rfl) (pv 7) (fun _ _ => rfl))) pa_nil)))))
          pss_nil)))))))))
      (pss_one (ps_ret (pv 3))))), ?_⟩
    obtain ⟨x', dx, oo, dr, ds, dp, kvs, ex, hx, ho, hdr, hR, lk⟩ := tt.ex
    injection ex with ex
    subst ex
    refine ⟨Nat.zero_le _, fun D hD => ?_⟩
    have s1 := Same.new (o := .lst []) hD
    have eD : (upd H D (.lst [])) D = some (.lst []) := upd_same
    have hx1 := s1 _ _ hx
    generalize upd H D (.lst []) = H1 at s1 eD hx1
    refine ⟨_, rfl, x, _, dx, _, .str root, rfl, hx1, t.c_Text, t.n_Text_root, rfl, by show 2 ≤ sizeLine; decide, fun tp htp => ⟨by show 1 ≤ sizeLine; decide, fun W hW => ⟨_, rfl, _, rfl, by show 4 ≤ sizeLine; decide, fun T hT => ⟨T, _, rfl, SqT.of upd_same, rfl, _, _, rfl, _, _, rfl, _, _, rfl, _, _, rfl, rfl, ?_⟩⟩⟩⟩
    have s2 := Same.new (o := .tup [V.str root, V.int 1]) htp
    have s3 := Same.new (o := .lst [V.ref tp]) hW
    have s4 := Same.new (o := .tup [V.ref D, V.ref W, V.int 0, V.int many]) hT
    have eD4 := s4 _ _ (s3 _ _ (s2 _ _ eD))
    have etp := s4 _ _ (s3 _ _ (upd_same (H := H1) (a := tp) (o := .tup [V.str root, V.int 1])))
    have eW := s4 _ _ (upd_same (a := W) (o := .lst [V.ref tp]))
    have WD : W ≠ D := fun e => by rw [e, s2 _ _ eD] at hW; cases hW
    have hWH : H W = none := by
      cases h : H W with
      | none => rfl
      | some o => rw [s2 _ _ (s1 _ _ h)] at hW; cases hW
    have s14 := s1.trans (s2.trans (s3.trans s4))
    clear s1 s2 s3 s4 eD hx1 hW hT htp
    refine ⟨fun k σ H' => Same H H' ∧ ∃ (ys vs : List V) (found seg rest : Row) (left : Int) (lev : Nat) (u7 u8 u9 u10 : Option V), σ = [some (.ref x), some (.int 0), some (.int many), some (.ref D), some (.ref W), some (.int 0), some (.int left), u7, u8, u9, u10] ∧ H' D = some (.lst ys) ∧ RpA K H' ys (rowP found) ∧ H' W = some (.lst vs.reverse) ∧ RpA K H' vs (rowP (seg ++ rest)) ∧ vs.length + 41 * k ≤ 41 * (totR R ord + 1) + 1 ∧ ItI n R root ord many found seg rest left lev k,
      ⟨totR R ord + 1, s14, [], [.ref tp], [], [(.inr root, 1)], [], many, ord.length, none, none, none, none, rfl, eD4, .nil, eW, .cons (.T (SqT.of etp) (.cons (.v _) (.cons (.v _) .nil))) .nil, by show 1 + _ ≤ _; omega, ItI.start tx m0 m1⟩, ?_⟩
    rintro k σ H3 ⟨s3, ys, vs, found, seg, rest, left, lev, u7, u8, u9, u10, rfl, eD, rD, eW, rW, bd, it⟩
    refine ⟨_, rfl, left, 0, rfl, rfl, decide (0 < left), rfl, ?_⟩
    by_cases hl : 0 < left
    · rw [decide_eq_true hl]
      have cov := it.cov
      have fu := it.fuel
      cases seg with
      | nil =>
        exfalso
        have : rowSum (sizes R ord) [] = 0 := rfl
        omega
      | cons q1 seg =>
      obtain ⟨k1, c1⟩ := q1
      rw [List.length_cons] at fu
      obtain ⟨m, rfl⟩ : ∃ m, k = m + 1 := ⟨k - 1, by omega⟩
      refine iteT ⟨fun σ' H' => ∃ m', m' < m + 1 ∧ (Same H H' ∧ ∃ (ys vs : List V) (found seg rest : Row) (left : Int) (lev : Nat) (u7 u8 u9 u10 : Option V), σ' = [some (.ref x), some (.int 0), some (.int many), some (.ref D), some (.ref W), some (.int 0), some (.int left), u7, u8, u9, u10] ∧ H' D = some (.lst ys) ∧ RpA K H' ys (rowP found) ∧ H' W = some (.lst vs.reverse) ∧ RpA K H' vs (rowP (seg ++ rest)) ∧ vs.length + 41 * m' ≤ 41 * (totR R ord + 1) + 1 ∧ ItI n R root ord many found seg rest left lev m'), fun _ _ h => h, ?_⟩
      cases rW with
      | cons rq rW =>
      rename_i v vs
      obtain ⟨b, rfl, hb⟩ := two_un rq
      have e1 : (V.ref b :: vs).reverse = vs.reverse ++ [.ref b] := List.reverse_cons
      rw [e1] at eW
      refine ⟨_, rfl, .inl ⟨rfl, _, SqL.of eW⟩, W, _, .ref b, rfl, rfl, eW, by simp, ?_⟩
      rw [List.dropLast_concat]
      have s4 : Same H (upd H3 W (.lst vs.reverse)) := s3.mut hWH
      have eW4 : (upd H3 W (.lst vs.reverse)) W = some (.lst vs.reverse) := upd_same
      have eD4 : (upd H3 W (.lst vs.reverse)) D = some (.lst ys) := by
        rw [upd_ne (Ne.symm WD)]
        exact eD
      have hb4 := SqT.updL (o := .lst vs.reverse) eW hb
      have rD4 := RpA.updL (o := .lst vs.reverse) eW (rowP_noL found) rD
      have rW4 := RpA.updL (o := .lst vs.reverse) eW (rowP_noL (seg ++ rest)) rW
      generalize upd H3 W (.lst vs.reverse) = H4 at s4 eW4 eD4 hb4 rD4 rW4
      refine ⟨b, _, rfl, hb4, rfl, _, _, rfl, _, _, rfl, rfl, ?_⟩
      obtain ⟨hc1, hk1⟩ := it.sgs _ List.mem_cons_self
      replace hc1 : 1 ≤ c1 := hc1
      replace hk1 : keyIn n (ord.take lev) k1 := hk1
      have ko : keyIn n ord k1 := hk1.sub fun x hx => List.mem_of_mem_take hx
      have f0 := tx.sizes_nonneg k1
      have fl : sizes R ord k1 < 100000 := by
        cases k1 with
        | inl s =>
          have e : sizes R ord (.inl s) = 1 := valF_sign s ord
          rw [e]
          decide
        | inr y => exact sz y ko
      have tt4 := LK.monoT s4 tt
      refine ⟨_, rfl, x, dx, _, rfl, s4 _ _ hx, by rfl, _, rfl, x, k1, n, R, root, ord, rfl, tt4, tx, ko, fun H5 s5 => ?_⟩
      have cm : CMul (sizes R ord k1) c1 := .inl ⟨by omega, by omega⟩
      refine ⟨_, rfl, _, rfl, _, c1, rfl, rfl, cm, _, rfl, _, 0, rfl, rfl, decide (sizes R ord k1 * c1 ≤ 0), rfl, ?_⟩
      have s45 := s4.trans s5
      have eD5 := s5 _ _ eD4
      have eW5 := s5 _ _ eW4
      have hb5 := s5.tup hb4
      have rD5 := rD4.mono s5
      have rW5 := rW4.mono s5
      have hx5 := s45 _ _ hx
      have tt5 := LK.monoT s45 tt
      clear s4 eW4 eD4 hb4 rD4 rW4 tt4 s5 eW eD rD rW hb rq
      rw [List.length_cons] at bd
      by_cases hz : sizes R ord k1 * c1 ≤ 0
      · rw [decide_eq_true hz]
        refine iteT ⟨_, rfl, _, rfl, _, rfl, _, c1, rfl, rfl, cm, 0, _, rfl, rfl, ?_⟩
        have e0 : (0 : Int) - sizes R ord k1 * c1 = 0 := by
          have := Int.mul_nonneg f0 (show 0 ≤ c1 by omega)
          omega
        exact ⟨m, Nat.lt_succ_self m, s45, ys, vs, found, seg, rest, left, lev, _, _, _, _, congrArg (fun z => [some (V.ref x), some (V.int 0), some (V.int many), some (V.ref D), some (V.ref W), some (V.int z), some (V.int left), some (kV k1), some (V.int c1), some (V.int (sizes R ord k1)), u10]) e0, eD5, rD5, eW5, rW5, by omega, it.skip tx hl hz⟩
      · rw [decide_eq_false hz]
        obtain ⟨_, fp, w0, kn, ky⟩ := it.take tx hl hz
        have cd : ∀ z : Int, CDiv z (sizes R ord k1) := fun z => ⟨fp, by omega⟩
        refine iteF ⟨_, rfl, _, rfl, _, rfl, 0, _, rfl, rfl, cd 0, c1, _, rfl, rfl, _, rfl, .inl ⟨0, rfl, _, rfl, 0, _, rfl, rfl, fp, .int (c1 - 0 / sizes R ord k1), .int (0 % sizes R ord k1), rfl, ?_⟩⟩
        rw [Int.zero_ediv, Int.zero_emod, Int.sub_zero]
        refine ⟨_, rfl, rfl, true, rfl, iteT ⟨_, rfl, _, rfl, _, rfl, left, _, rfl, rfl, cd left, c1, _, rfl, ?_⟩⟩
        have ew : (if left / sizes R ord k1 < c1 then left / sizes R ord k1 else c1) = wh (sizes R ord) k1 c1 left := by
          unfold wh
          split <;> omega
        rw [ew]
        generalize hw : wh (sizes R ord) k1 c1 left = w at w0 kn ky
        have cw : ∀ z : Int, CMul z (sizes R ord k1) := fun z => .inr ⟨by omega, by omega⟩
        refine ⟨_, rfl, w, 0, rfl, rfl, decide (0 < w), rfl, ?_⟩
        by_cases c0 : 0 < w
        · rw [decide_eq_true c0]
          refine iteT ⟨_, rfl, .inl ⟨rfl, _, SqL.of eD5⟩, _, rfl, _, rfl, by show 2 ≤ sizeLine; decide, fun tq htq => ?_⟩
          have s6 := Same.new (o := .tup [kV k1, V.int w]) htq
          have etq : (upd H5 tq (.tup [kV k1, V.int w])) tq = some (.tup [kV k1, V.int w]) := upd_same
          have eD6 := s6 _ _ eD5
          have ly : ys.length < sizeLine := by
            rw [sizeLine_eq]
            have h1 := it.few
            have h2 := rD5.len
            rw [rowP_len] at h2
            omega
          refine ⟨D, _, _, rfl, rfl, eD6, ly, ?_⟩
          have s7 : Same H (upd (upd H5 tq (.tup [kV k1, V.int w])) D (.lst (ys ++ [.ref tq]))) := (s45.trans s6).mut hD
          have eD7 : (upd (upd H5 tq (.tup [kV k1, V.int w])) D (.lst (ys ++ [.ref tq]))) D = some (.lst (ys ++ [.ref tq])) := upd_same
          have eW7 : (upd (upd H5 tq (.tup [kV k1, V.int w])) D (.lst (ys ++ [.ref tq]))) W = some (.lst vs.reverse) := by
            rw [upd_ne WD]
            exact s6 _ _ eW5
          have rD7 : RpA K (upd (upd H5 tq (.tup [kV k1, V.int w])) D (.lst (ys ++ [.ref tq]))) (ys ++ [.ref tq]) (rowP (found ++ if 0 < w then [(k1, w)] else [])) := by
            rw [if_pos c0]
            show RpA K _ _ (rowP (found ++ [(k1, w)]))
            unfold rowP
            rw [List.map_append]
            exact (RpA.updL eD6 (rowP_noL found) (rD5.mono s6)).append (RpA.updL eD6 rfl (.cons (.T (SqT.of etq) (.cons (.v _) (.cons (.v _) .nil))) .nil))
          have rW7 := RpA.updL (o := .lst (ys ++ [.ref tq])) eD6 (rowP_noL (seg ++ rest)) (rW5.mono s6)
          generalize upd (upd H5 tq (.tup [kV k1, V.int w])) D (.lst (ys ++ [.ref tq])) = H7 at s7 eD7 eW7 rD7 rW7
          refine ⟨_, rfl, _, rfl, _, rfl, w, _, rfl, rfl, cw w, _, _, rfl, rfl, ?_⟩
          refine ⟨_, rfl, _, rfl, w, c1, rfl, rfl, decide (w < c1), rfl, ?_⟩
          by_cases cA : w < c1
          · rw [decide_eq_true cA]
            refine iteT ⟨_, rfl, (left - w * sizes R ord k1), 0, rfl, rfl, decide (0 < (left - w * sizes R ord k1)), rfl, ?_⟩
            by_cases cB : 0 < (left - w * sizes R ord k1)
            · rw [decide_eq_true cB]
              obtain ⟨y, lev', rfl, hy, it'⟩ := ky ⟨cA, cB⟩
              obtain ⟨p, hp, ep⟩ := List.mem_map.mp ((tx.mem y).mp hy)
              obtain ⟨ip, hip, eip⟩ := List.getElem_of_mem hp
              have gp : R[ip]? = some p := by rw [← eip]; exact List.getElem?_eq_getElem hip
              have lp := (tx.ok.row p hp).1
              have er : rowOf R y = p.2 := by rw [← ep]; exact rowOf_at tx.ok.nd hp
              have fu := it.few
              refine iteT ⟨_, rfl, .inl ⟨rfl, _, SqL.of eW7⟩, _, rfl, _, rfl, c1, w, rfl, rfl, c1 - w, 1, rfl, rfl, decide (1 < c1 - w), rfl, ?_⟩
              by_cases cC : 1 < c1 - w
              · rw [decide_eq_true cC]
                refine iteT ⟨_, rfl, _, rfl, _, rfl, c1, w, rfl, rfl, c1 - w, 1, rfl, rfl, by show 2 ≤ sizeLine; decide, fun tz htz => ⟨by show 1 ≤ sizeLine; decide, fun Lz hLz => ?_⟩⟩
                have s8a := Same.new (o := .tup [kV (.inr y), V.int (c1 - w - 1)]) htz
                have etz : (upd H7 tz (.tup [kV (.inr y), V.int (c1 - w - 1)])) tz = some (.tup [kV (.inr y), V.int (c1 - w - 1)]) := upd_same
                have s8b := Same.new (o := .lst [.ref tz]) hLz
                have eL8 : (upd (upd H7 tz (.tup [kV (.inr y), V.int (c1 - w - 1)])) Lz (.lst [.ref tz])) Lz = some (.lst [.ref tz]) := upd_same
                have s8 := s8a.trans s8b
                have etz8 := s8b _ _ etz
                generalize upd (upd H7 tz (.tup [kV (.inr y), V.int (c1 - w - 1)])) Lz (.lst [.ref tz]) = H8 at s8 s8b eL8 etz8
                have eW8 := s8 _ _ eW7
                refine ⟨W, Lz, _, [.ref tz], rfl, rfl, eW8, .inl eL8, by rw [List.length_reverse, sizeLine_eq]; show _ + 1 ≤ _; omega, ?_⟩
                have s9 : Same H (upd H8 W (.lst (vs.reverse ++ [.ref tz]))) := (s7.trans s8).mut hWH
                have eW9 : (upd H8 W (.lst (vs.reverse ++ [.ref tz]))) W = some (.lst ([V.ref tz] ++ vs).reverse) := by
                  rw [upd_same, List.reverse_append]
                  rfl
                have eD9 : (upd H8 W (.lst (vs.reverse ++ [.ref tz]))) D = some (.lst ((ys ++ [.ref tq]))) := by
                  rw [upd_ne (Ne.symm WD)]
                  exact s8 _ _ eD7
                have rD9 := RpA.updL (o := .lst (vs.reverse ++ [.ref tz])) eW8 (rowP_noL _) (rD7.mono s8)
                have rW9 : RpA K (upd H8 W (.lst (vs.reverse ++ [.ref tz]))) ([V.ref tz] ++ vs) (rowP ((if 1 < c1 - w then [(.inr y, c1 - w - 1)] else []) ++ (seg ++ rest))) := by
                  rw [if_pos cC]
                  exact .cons (.T (SqT.updL eW8 (SqT.of etz8)) (.cons (.v _) (.cons (.v _) .nil))) (RpA.updL eW8 (rowP_noL _) (rW7.mono s8))
                generalize upd H8 W (.lst (vs.reverse ++ [.ref tz])) = H9 at s9 eW9 eD9 rD9 rW9
                have lv9 : ([V.ref tz] ++ vs).length ≤ vs.length + 1 := by
                  rw [List.length_append]
                  show 1 + _ ≤ _
                  omega
                obtain ⟨v3, hv, hr3⟩ := (hR.mono s9).get tx.ok.nd gp
                obtain ⟨a, xs, rfl, ha, hxs⟩ := hr3.row
                have lx : xs.length = p.2.length := by rw [hxs.len, rowP_len]
                rw [ep] at hv
                rw [← er] at hxs
                refine ⟨_, rfl, .inl ⟨rfl, _, SqL.of eW9⟩, _, rfl, x, _, dx, _, .ref dr, rfl, s9 _ _ hx, t.c_Text, t.n_Text_own_rules, rfl, _, rfl, dr, _, rfl, hv, a, xs, rfl, ha, fun tr htr => ?_⟩
                have s10 := Same.new (o := .tup xs.reverse) htr
                have etr : (upd H9 tr (.tup xs.reverse)) tr = some (.tup xs.reverse) := upd_same
                have eW10 := s10 _ _ eW9
                have eD10 := s10 _ _ eD9
                have rD10 := rD9.mono s10
                have rW10 := rW9.mono s10
                have sX := s9.trans s10
                generalize upd H9 tr (.tup xs.reverse) = H10 at s10 etr eW10 eD10 rD10 rW10 sX
                refine ⟨W, tr, _, xs.reverse, rfl, rfl, eW10, .inr (SqT.of etr), by rw [List.length_reverse, List.length_reverse, sizeLine_eq]; omega, ?_⟩
                refine ⟨m, Nat.lt_succ_self m, sX.mut hWH, (ys ++ [.ref tq]), xs ++ ([V.ref tz] ++ vs), _, rowOf R y, _, _, lev', _, _, _, _, rfl, ?_, RpA.updL eW10 (rowP_noL _) rD10, ?_, ?_, ?_, it'⟩
                · rw [upd_ne (Ne.symm WD)]
                  exact eD10
                · rw [upd_same, List.reverse_append (as := xs)]
                · unfold rowP
                  rw [List.map_append]
                  exact (RpA.updL eW10 (rowP_noL _) (hxs.mono s10)).append (RpA.updL eW10 (rowP_noL _) rW10)
                · rw [List.length_append]
                  omega
              · rw [decide_eq_false cC]
                refine iteF ⟨by show 0 ≤ sizeLine; decide, fun Lz hLz => ?_⟩
                have s8 := Same.new (o := .lst []) hLz
                have eL8 : (upd H7 Lz (.lst [])) Lz = some (.lst []) := upd_same
                generalize upd H7 Lz (.lst []) = H8 at s8 eL8
                have eW8 := s8 _ _ eW7
                refine ⟨W, Lz, _, [], rfl, rfl, eW8, .inl eL8, by rw [List.length_reverse, sizeLine_eq]; show _ + 0 ≤ _; omega, ?_⟩
                have s9 : Same H (upd H8 W (.lst (vs.reverse ++ []))) := (s7.trans s8).mut hWH
                have eW9 : (upd H8 W (.lst (vs.reverse ++ []))) W = some (.lst ([] ++ vs).reverse) := by
                  rw [upd_same, List.append_nil]
                  rfl
                have eD9 : (upd H8 W (.lst (vs.reverse ++ []))) D = some (.lst ((ys ++ [.ref tq]))) := by
                  rw [upd_ne (Ne.symm WD)]
                  exact s8 _ _ eD7
                have rD9 := RpA.updL (o := .lst (vs.reverse ++ [])) eW8 (rowP_noL _) (rD7.mono s8)
                have rW9 : RpA K (upd H8 W (.lst (vs.reverse ++ []))) ([] ++ vs) (rowP ((if 1 < c1 - w then [(.inr y, c1 - w - 1)] else []) ++ (seg ++ rest))) := by
                  rw [if_neg cC]
                  exact RpA.updL eW8 (rowP_noL _) (rW7.mono s8)
                generalize upd H8 W (.lst (vs.reverse ++ [])) = H9 at s9 eW9 eD9 rD9 rW9
                have lv9 : ([] ++ vs).length ≤ vs.length + 1 := by
                  rw [List.length_append]
                  show 0 + _ ≤ _
                  omega
                obtain ⟨v3, hv, hr3⟩ := (hR.mono s9).get tx.ok.nd gp
                obtain ⟨a, xs, rfl, ha, hxs⟩ := hr3.row
                have lx : xs.length = p.2.length := by rw [hxs.len, rowP_len]
                rw [ep] at hv
                rw [← er] at hxs
                refine ⟨_, rfl, .inl ⟨rfl, _, SqL.of eW9⟩, _, rfl, x, _, dx, _, .ref dr, rfl, s9 _ _ hx, t.c_Text, t.n_Text_own_rules, rfl, _, rfl, dr, _, rfl, hv, a, xs, rfl, ha, fun tr htr => ?_⟩
                have s10 := Same.new (o := .tup xs.reverse) htr
                have etr : (upd H9 tr (.tup xs.reverse)) tr = some (.tup xs.reverse) := upd_same
                have eW10 := s10 _ _ eW9
                have eD10 := s10 _ _ eD9
                have rD10 := rD9.mono s10
                have rW10 := rW9.mono s10
                have sX := s9.trans s10
                generalize upd H9 tr (.tup xs.reverse) = H10 at s10 etr eW10 eD10 rD10 rW10 sX
                refine ⟨W, tr, _, xs.reverse, rfl, rfl, eW10, .inr (SqT.of etr), by rw [List.length_reverse, List.length_reverse, sizeLine_eq]; omega, ?_⟩
                refine ⟨m, Nat.lt_succ_self m, sX.mut hWH, (ys ++ [.ref tq]), xs ++ ([] ++ vs), _, rowOf R y, _, _, lev', _, _, _, _, rfl, ?_, RpA.updL eW10 (rowP_noL _) rD10, ?_, ?_, ?_, it'⟩
                · rw [upd_ne (Ne.symm WD)]
                  exact eD10
                · rw [upd_same, List.reverse_append (as := xs)]
                · unfold rowP
                  rw [List.map_append]
                  exact (RpA.updL eW10 (rowP_noL _) (hxs.mono s10)).append (RpA.updL eW10 (rowP_noL _) rW10)
                · rw [List.length_append]
                  omega
            · rw [decide_eq_false cB]
              refine iteF ?_
              exact ⟨m, Nat.lt_succ_self m, s7, (ys ++ [.ref tq]), vs, _, seg, rest, (left - w * sizes R ord k1), lev, _, _, _, _, rfl, eD7, rD7, eW7, rW7, by omega, kn (fun h => cB h.2)⟩
          · rw [decide_eq_false cA]
            refine iteF ?_
            exact ⟨m, Nat.lt_succ_self m, s7, (ys ++ [.ref tq]), vs, _, seg, rest, (left - w * sizes R ord k1), lev, _, _, _, _, rfl, eD7, rD7, eW7, rW7, by omega, kn (fun h => cA h.1)⟩
        · rw [decide_eq_false c0]
          refine iteF ?_
          have wz : w = 0 := by omega
          have rD7 : RpA K H5 ys (rowP (found ++ if 0 < w then [(k1, w)] else [])) := by
            rw [if_neg c0, List.append_nil]
            exact rD5
          rw [show left - w * sizes R ord k1 = left by rw [wz]; omega] at kn ky
          have s7 := s45
          have eD7 := eD5
          have eW7 := eW5
          have rW7 := rW5
          refine ⟨_, rfl, _, rfl, w, c1, rfl, rfl, decide (w < c1), rfl, ?_⟩
          by_cases cA : w < c1
          · rw [decide_eq_true cA]
            refine iteT ⟨_, rfl, left, 0, rfl, rfl, decide (0 < left), rfl, ?_⟩
            by_cases cB : 0 < left
            · rw [decide_eq_true cB]
              obtain ⟨y, lev', rfl, hy, it'⟩ := ky ⟨cA, cB⟩
              obtain ⟨p, hp, ep⟩ := List.mem_map.mp ((tx.mem y).mp hy)
              obtain ⟨ip, hip, eip⟩ := List.getElem_of_mem hp
              have gp : R[ip]? = some p := by rw [← eip]; exact List.getElem?_eq_getElem hip
              have lp := (tx.ok.row p hp).1
              have er : rowOf R y = p.2 := by rw [← ep]; exact rowOf_at tx.ok.nd hp
              have fu := it.few
              refine iteT ⟨_, rfl, .inl ⟨rfl, _, SqL.of eW7⟩, _, rfl, _, rfl, c1, w, rfl, rfl, c1 - w, 1, rfl, rfl, decide (1 < c1 - w), rfl, ?_⟩
              by_cases cC : 1 < c1 - w
              · rw [decide_eq_true cC]
                refine iteT ⟨_, rfl, _, rfl, _, rfl, c1, w, rfl, rfl, c1 - w, 1, rfl, rfl, by show 2 ≤ sizeLine; decide, fun tz htz => ⟨by show 1 ≤ sizeLine; decide, fun Lz hLz => ?_⟩⟩
                have s8a := Same.new (o := .tup [kV (.inr y), V.int (c1 - w - 1)]) htz
                have etz : (upd H5 tz (.tup [kV (.inr y), V.int (c1 - w - 1)])) tz = some (.tup [kV (.inr y), V.int (c1 - w - 1)]) := upd_same
                have s8b := Same.new (o := .lst [.ref tz]) hLz
                have eL8 : (upd (upd H5 tz (.tup [kV (.inr y), V.int (c1 - w - 1)])) Lz (.lst [.ref tz])) Lz = some (.lst [.ref tz]) := upd_same
                have s8 := s8a.trans s8b
                have etz8 := s8b _ _ etz
                generalize upd (upd H5 tz (.tup [kV (.inr y), V.int (c1 - w - 1)])) Lz (.lst [.ref tz]) = H8 at s8 s8b eL8 etz8
                have eW8 := s8 _ _ eW7
                refine ⟨W, Lz, _, [.ref tz], rfl, rfl, eW8, .inl eL8, by rw [List.length_reverse, sizeLine_eq]; show _ + 1 ≤ _; omega, ?_⟩
                have s9 : Same H (upd H8 W (.lst (vs.reverse ++ [.ref tz]))) := (s7.trans s8).mut hWH
                have eW9 : (upd H8 W (.lst (vs.reverse ++ [.ref tz]))) W = some (.lst ([V.ref tz] ++ vs).reverse) := by
                  rw [upd_same, List.reverse_append]
                  rfl
                have eD9 : (upd H8 W (.lst (vs.reverse ++ [.ref tz]))) D = some (.lst (ys)) := by
                  rw [upd_ne (Ne.symm WD)]
                  exact s8 _ _ eD7
                have rD9 := RpA.updL (o := .lst (vs.reverse ++ [.ref tz])) eW8 (rowP_noL _) (rD7.mono s8)
                have rW9 : RpA K (upd H8 W (.lst (vs.reverse ++ [.ref tz]))) ([V.ref tz] ++ vs) (rowP ((if 1 < c1 - w then [(.inr y, c1 - w - 1)] else []) ++ (seg ++ rest))) := by
                  rw [if_pos cC]
                  exact .cons (.T (SqT.updL eW8 (SqT.of etz8)) (.cons (.v _) (.cons (.v _) .nil))) (RpA.updL eW8 (rowP_noL _) (rW7.mono s8))
                generalize upd H8 W (.lst (vs.reverse ++ [.ref tz])) = H9 at s9 eW9 eD9 rD9 rW9
                have lv9 : ([V.ref tz] ++ vs).length ≤ vs.length + 1 := by
                  rw [List.length_append]
                  show 1 + _ ≤ _
                  omega
                obtain ⟨v3, hv, hr3⟩ := (hR.mono s9).get tx.ok.nd gp
                obtain ⟨a, xs, rfl, ha, hxs⟩ := hr3.row
                have lx : xs.length = p.2.length := by rw [hxs.len, rowP_len]
                rw [ep] at hv
                rw [← er] at hxs
                refine ⟨_, rfl, .inl ⟨rfl, _, SqL.of eW9⟩, _, rfl, x, _, dx, _, .ref dr, rfl, s9 _ _ hx, t.c_Text, t.n_Text_own_rules, rfl, _, rfl, dr, _, rfl, hv, a, xs, rfl, ha, fun tr htr => ?_⟩
                have s10 := Same.new (o := .tup xs.reverse) htr
                have etr : (upd H9 tr (.tup xs.reverse)) tr = some (.tup xs.reverse) := upd_same
                have eW10 := s10 _ _ eW9
                have eD10 := s10 _ _ eD9
                have rD10 := rD9.mono s10
                have rW10 := rW9.mono s10
                have sX := s9.trans s10
                generalize upd H9 tr (.tup xs.reverse) = H10 at s10 etr eW10 eD10 rD10 rW10 sX
                refine ⟨W, tr, _, xs.reverse, rfl, rfl, eW10, .inr (SqT.of etr), by rw [List.length_reverse, List.length_reverse, sizeLine_eq]; omega, ?_⟩
                refine ⟨m, Nat.lt_succ_self m, sX.mut hWH, ys, xs ++ ([V.ref tz] ++ vs), _, rowOf R y, _, _, lev', _, _, _, _, rfl, ?_, RpA.updL eW10 (rowP_noL _) rD10, ?_, ?_, ?_, it'⟩
                · rw [upd_ne (Ne.symm WD)]
                  exact eD10
                · rw [upd_same, List.reverse_append (as := xs)]
                · unfold rowP
                  rw [List.map_append]
                  exact (RpA.updL eW10 (rowP_noL _) (hxs.mono s10)).append (RpA.updL eW10 (rowP_noL _) rW10)
                · rw [List.length_append]
                  omega
              · rw [decide_eq_false cC]
                refine iteF ⟨by show 0 ≤ sizeLine; decide, fun Lz hLz => ?_⟩
                have s8 := Same.new (o := .lst []) hLz
                have eL8 : (upd H5 Lz (.lst [])) Lz = some (.lst []) := upd_same
                generalize upd H5 Lz (.lst []) = H8 at s8 eL8
                have eW8 := s8 _ _ eW7
                refine ⟨W, Lz, _, [], rfl, rfl, eW8, .inl eL8, by rw [List.length_reverse, sizeLine_eq]; show _ + 0 ≤ _; omega, ?_⟩
                have s9 : Same H (upd H8 W (.lst (vs.reverse ++ []))) := (s7.trans s8).mut hWH
                have eW9 : (upd H8 W (.lst (vs.reverse ++ []))) W = some (.lst ([] ++ vs).reverse) := by
                  rw [upd_same, List.append_nil]
                  rfl
                have eD9 : (upd H8 W (.lst (vs.reverse ++ []))) D = some (.lst (ys)) := by
                  rw [upd_ne (Ne.symm WD)]
                  exact s8 _ _ eD7
                have rD9 := RpA.updL (o := .lst (vs.reverse ++ [])) eW8 (rowP_noL _) (rD7.mono s8)
                have rW9 : RpA K (upd H8 W (.lst (vs.reverse ++ []))) ([] ++ vs) (rowP ((if 1 < c1 - w then [(.inr y, c1 - w - 1)] else []) ++ (seg ++ rest))) := by
                  rw [if_neg cC]
                  exact RpA.updL eW8 (rowP_noL _) (rW7.mono s8)
                generalize upd H8 W (.lst (vs.reverse ++ [])) = H9 at s9 eW9 eD9 rD9 rW9
                have lv9 : ([] ++ vs).length ≤ vs.length + 1 := by
                  rw [List.length_append]
                  show 0 + _ ≤ _
                  omega
                obtain ⟨v3, hv, hr3⟩ := (hR.mono s9).get tx.ok.nd gp
                obtain ⟨a, xs, rfl, ha, hxs⟩ := hr3.row
                have lx : xs.length = p.2.length := by rw [hxs.len, rowP_len]
                rw [ep] at hv
                rw [← er] at hxs
                refine ⟨_, rfl, .inl ⟨rfl, _, SqL.of eW9⟩, _, rfl, x, _, dx, _, .ref dr, rfl, s9 _ _ hx, t.c_Text, t.n_Text_own_rules, rfl, _, rfl, dr, _, rfl, hv, a, xs, rfl, ha, fun tr htr => ?_⟩
                have s10 := Same.new (o := .tup xs.reverse) htr
                have etr : (upd H9 tr (.tup xs.reverse)) tr = some (.tup xs.reverse) := upd_same
                have eW10 := s10 _ _ eW9
                have eD10 := s10 _ _ eD9
                have rD10 := rD9.mono s10
                have rW10 := rW9.mono s10
                have sX := s9.trans s10
                generalize upd H9 tr (.tup xs.reverse) = H10 at s10 etr eW10 eD10 rD10 rW10 sX
                refine ⟨W, tr, _, xs.reverse, rfl, rfl, eW10, .inr (SqT.of etr), by rw [List.length_reverse, List.length_reverse, sizeLine_eq]; omega, ?_⟩
                refine ⟨m, Nat.lt_succ_self m, sX.mut hWH, ys, xs ++ ([] ++ vs), _, rowOf R y, _, _, lev', _, _, _, _, rfl, ?_, RpA.updL eW10 (rowP_noL _) rD10, ?_, ?_, ?_, it'⟩
                · rw [upd_ne (Ne.symm WD)]
                  exact eD10
                · rw [upd_same, List.reverse_append (as := xs)]
                · unfold rowP
                  rw [List.map_append]
                  exact (RpA.updL eW10 (rowP_noL _) (hxs.mono s10)).append (RpA.updL eW10 (rowP_noL _) rW10)
                · rw [List.length_append]
                  omega
            · rw [decide_eq_false cB]
              refine iteF ?_
              exact ⟨m, Nat.lt_succ_self m, s7, ys, vs, _, seg, rest, left, lev, _, _, _, _, rfl, eD7, rD7, eW7, rW7, by omega, kn (fun h => cB h.2)⟩
          · rw [decide_eq_false cA]
            refine iteF ?_
            exact ⟨m, Nat.lt_succ_self m, s7, ys, vs, _, seg, rest, left, lev, _, _, _, _, rfl, eD7, rD7, eW7, rW7, by omega, kn (fun h => cA h.1)⟩
    · rw [decide_eq_false hl]
      have hr2 := it.run
      rw [itRun_end (by omega), List.append_nil] at hr2
      have hs := it.sum
      have l0 : left = 0 := by have := it.nonneg; omega
      refine iteF ⟨_, rfl, ?_⟩
      subst hr2
      exact q H3 D ys hD s3 eD rD it.fnd (by omega) (by have := it.few; omega)
end
end WV
end
section
set_option maxRecDepth 100000
set_option maxHeartbeats 4000000
namespace WV
open PySem PySem.Spec PyProof.Rows L2
/-! ### how often each sign comes, plain -/
def one1 (s : Int) : Int → Int := fun t => if t = s then 1 else 0
def addK (M : Key → Int) (k : Key) (c : Int) : Key → Int := fun j => if j = k then M k + c else M j
def rowK (x : Str) (M : Key → Int) (r : Row) : Key → Int := r.foldl (fun M q => addK M q.1 (q.2 * M (.inr x))) M
def namK (R : Rules) (M : Key → Int) (l : List Str) : Key → Int := l.foldl (fun M x => rowK x M (rowOf R x)) M
def itmK (items : Row) : Key → Int := items.foldl (fun M q => addK M q.1 q.2) fun _ => 0
def Phi (f : Key → Int) (s : Int) (A : List Str) (M : Key → Int) : Int := M (.inl s) + (A.map fun x => M (.inr x) * f (.inr x)).sum
theorem addK_zero (M : Key → Int) (k : Key) : addK M k 0 = M := by
  funext j
  unfold addK
  split
  · rename_i h
    rw [h, Int.add_zero]
  · rfl
theorem rowK_zero {x : Str} : ∀ (r : Row) (M : Key → Int), M (.inr x) = 0 → rowK x M r = M
  | [], _, _ => rfl
  | q :: r, M, h => by
    show rowK x (addK M q.1 (q.2 * M (.inr x))) r = M
    rw [h, Int.mul_zero, addK_zero]
    exact rowK_zero r M h
theorem sum_at {f M : Key → Int} {y : Str} {c : Int} : ∀ {A : List Str}, A.Nodup → (A.map fun x => addK M (.inr y) c (.inr x) * f (.inr x)).sum = (A.map fun x => M (.inr x) * f (.inr x)).sum + if y ∈ A then c * f (.inr y) else 0
  | [], _ => by simp
  | a :: A, h => by
    obtain ⟨h1, h2⟩ := List.nodup_cons.mp h
    have ih := sum_at (f := f) (M := M) (y := y) (c := c) h2
    rw [List.map_cons, List.sum_cons, List.map_cons, List.sum_cons, ih]
    by_cases e : a = y
    · subst e
      have e1 : addK M (.inr a) c (.inr a) = M (.inr a) + c := if_pos rfl
      rw [e1, if_neg h1, if_pos List.mem_cons_self, Int.add_mul]
      omega
    · have e1 : addK M (.inr y) c (.inr a) = M (.inr a) := if_neg (fun h => e (by injection h))
      rw [e1]
      by_cases m : y ∈ A
      · rw [if_pos m, if_pos (List.mem_cons_of_mem _ m)]
        omega
      · rw [if_neg m, if_neg (fun h => by
          rcases List.mem_cons.mp h with h | h
          · exact e h.symm
          · exact m h)]
        omega
theorem phi_add {f M : Key → Int} {s : Int} {A : List Str} (nd : A.Nodup) (hf : ∀ t, f (.inl t) = one1 s t) {k : Key} (hk : ∀ y, k = .inr y → y ∈ A) (c : Int) : Phi f s A (addK M k c) = Phi f s A M + c * f k := by
  unfold Phi
  cases k with
  | inl t =>
    have e : (A.map fun x => addK M (.inl t) c (.inr x) * f (.inr x)) = A.map fun x => M (.inr x) * f (.inr x) := by
      refine List.map_congr_left fun x _ => ?_
      have : addK M (.inl t) c (.inr x) = M (.inr x) := if_neg (fun h => by cases h)
      rw [this]
    rw [e, hf t]
    unfold addK one1
    by_cases e : t = s
    · subst e
      rw [if_pos rfl, if_pos rfl]
      omega
    · rw [if_neg (fun h => e (by injection h with h; exact h.symm)), if_neg e]
      omega
  | inr y =>
    rw [sum_at nd, if_pos (hk y rfl)]
    have : addK M (.inr y) c (.inl s) = M (.inl s) := if_neg (fun h => by cases h)
    rw [this]
    omega
theorem rowK_at {x : Str} : ∀ (r : Row) (M : Key → Int), (∀ q ∈ r, q.1 ≠ .inr x) → rowK x M r (.inr x) = M (.inr x)
  | [], _, _ => rfl
  | q :: r, M, h => by
    show rowK x (addK M q.1 (q.2 * M (.inr x))) r (.inr x) = _
    rw [rowK_at r _ fun z hz => h z (List.mem_cons_of_mem _ hz)]
    exact if_neg (fun e => h q List.mem_cons_self e.symm)
theorem phi_row {f : Key → Int} {s : Int} {A : List Str} {x : Str} (nd : A.Nodup) (hf : ∀ t, f (.inl t) = one1 s t) : ∀ (r : Row) (M : Key → Int), (∀ q ∈ r, q.1 ≠ .inr x ∧ ∀ y, q.1 = .inr y → y ∈ A) → Phi f s A (rowK x M r) = Phi f s A M + M (.inr x) * rowSum f r
  | [], M, _ => by
    show Phi f s A M = Phi f s A M + M (.inr x) * 0
    omega
  | q :: r, M, h => by
    obtain ⟨h1, h2⟩ := h q List.mem_cons_self
    show Phi f s A (rowK x (addK M q.1 (q.2 * M (.inr x))) r) = _
    rw [phi_row nd hf r _ fun z hz => h z (List.mem_cons_of_mem _ hz), phi_add nd hf h2, rowSum_cons]
    have e : addK M q.1 (q.2 * M (.inr x)) (.inr x) = M (.inr x) := if_neg (fun e => h1 e.symm)
    rw [e, Int.mul_add, ← Int.mul_assoc, Int.mul_comm q.2 (M (.inr x))]
    omega
section
variable {n : Int} {R : Rules} {root : Str} {ord : List Str}
theorem TxOk.rowIn (tx : TxOk n R root ord) {i : Nat} {x : Str} (h : ord[i]? = some x) : ∀ q ∈ rowOf R x, (1 ≤ q.2) ∧ keyIn n (ord.take i) q.1 := fun q hq => by
  obtain ⟨p, hp, rfl⟩ := List.mem_map.mp ((tx.mem x).mp (List.mem_of_getElem? h))
  rw [rowOf_at tx.ok.nd hp] at hq
  obtain ⟨h1, h2⟩ := (tx.ok.row p hp).2 q hq
  refine ⟨h1.1, ?_⟩
  cases hq1 : q.1 with
  | inl s =>
    rw [hq1] at h2
    exact h2
  | inr y =>
    refine tx.topo i p hp h y ?_
    unfold namesR
    refine List.mem_filterMap.mpr ⟨q, hq, ?_⟩
    rw [hq1]
theorem take_nodup {l : List Str} (h : l.Nodup) (i : Nat) : (l.take i).Nodup := (List.take_sublist i l).nodup h
theorem notin_take {l : List Str} (h : l.Nodup) {i : Nat} {x : Str} (g : l[i]? = some x) : x ∉ l.take i := fun hm => by
  obtain ⟨hi, rfl⟩ := List.getElem?_eq_some_iff.mp g
  obtain ⟨j, hj, e⟩ := List.getElem_of_mem hm
  rw [List.length_take] at hj
  rw [List.getElem_take] at e
  exact List.pairwise_iff_getElem.mp h j i (by omega) hi (by omega) e
theorem phi_names (tx : TxOk n R root ord) {s : Int} : ∀ (i : Nat) (M : Key → Int), i ≤ ord.length → Phi (valF R ord (one1 s)) s [] (namK R M (ord.take i).reverse) = Phi (valF R ord (one1 s)) s (ord.take i) M
  | 0, _, _ => rfl
  | i + 1, M, h => by
    have g := List.getElem?_eq_getElem (show i < ord.length by omega)
    generalize ord[i] = x at g
    have hin := tx.rowIn g
    have nt := notin_take tx.no g
    rw [take_snoc g, List.reverse_append]
    show Phi _ s [] (namK R (rowK x M (rowOf R x)) (ord.take i).reverse) = _
    rw [phi_names tx i _ (by omega), phi_row (take_nodup tx.no i) (fun t => valF_sign t ord) _ _ (fun q hq => ?_)]
    · have e := tx.val_name (one1 s) (List.mem_of_getElem? g)
      unfold Phi
      rw [List.map_append, List.sum_append, ← e]
      simp
      omega
    · have := (hin q hq).2
      refine ⟨fun e => ?_, fun y e => ?_⟩
      · rw [e] at this
        exact nt this
      · rw [e] at this
        exact this
theorem phi_items (tx : TxOk n R root ord) {s : Int} (items : Row) (h : ∀ q ∈ items, keyIn n ord q.1) : Phi (valF R ord (one1 s)) s ord (itmK items) = rowSum (valF R ord (one1 s)) items := by
  have key : ∀ (items : Row) (M : Key → Int), (∀ q ∈ items, keyIn n ord q.1) → Phi (valF R ord (one1 s)) s ord (items.foldl (fun M q => addK M q.1 q.2) M) = Phi (valF R ord (one1 s)) s ord M + rowSum (valF R ord (one1 s)) items := fun items => by
    induction items with
    | nil =>
      intro M _
      show _ = _ + (0 : Int)
      rw [Int.add_zero]
      rfl
    | cons q r ih =>
      intro M h
      rw [List.foldl_cons, ih _ fun z hz => h z (List.mem_cons_of_mem _ hz), phi_add tx.no (fun t => valF_sign t ord) (fun y e => ?_), rowSum_cons]
      · omega
      · have := h q List.mem_cons_self
        rw [e] at this
        exact this
  unfold itmK
  rw [key items _ h]
  unfold Phi
  have : ((ord.map fun x => (0 : Int) * valF R ord (one1 s) (.inr x))).sum = 0 := by
    clear key h tx
    generalize valF R ord (one1 s) = f
    induction ord with
    | nil => rfl
    | cons a r ih =>
      rw [List.map_cons, List.sum_cons, Int.zero_mul, Int.zero_add]
      exact ih
  rw [this]
  show (0 : Int) + 0 + _ = _
  omega
def cntF (R : Rules) (ord : List Str) (items : Row) : Key → Int := namK R (itmK items) ord.reverse
theorem cntF_sign (tx : TxOk n R root ord) (items : Row) (h : ∀ q ∈ items, keyIn n ord q.1) (s : Int) : cntF R ord items (.inl s) = rowSum (valF R ord (one1 s)) items := by
  have e := phi_names tx (s := s) ord.length (itmK items) (Nat.le_refl _)
  rw [List.take_length, phi_items tx items h] at e
  rw [← e]
  show _ = _ + (0 : Int)
  rw [Int.add_zero]
  rfl
/-- how often each sign comes in items -/
def tlyF (n : Int) (R : Rules) (ord : List Str) (items : Row) : List Int := (List.range n.toNat).map fun s : Nat => rowSum (valF R ord (one1 s)) items
theorem rowSum_nn {f : Key → Int} (hf : ∀ k, 0 ≤ f k) {r : Row} (h : ∀ q ∈ r, 0 ≤ q.2) : 0 ≤ rowSum f r := rowSum_nonneg fun q hq => Int.mul_nonneg (h q hq) (hf _)
theorem tlyF_len (n : Int) (R : Rules) (ord : List Str) (items : Row) : (tlyF n R ord items).length = n.toNat := by
  unfold tlyF
  rw [List.length_map, List.length_range]
theorem tlyF_pos (tx : TxOk n R root ord) {items : Row} (h : ∀ q ∈ items, 1 ≤ q.2) : ∀ x ∈ tlyF n R ord items, 0 ≤ x := fun x hx => by
  unfold tlyF at hx
  obtain ⟨s, _, rfl⟩ := List.mem_map.mp hx
  exact rowSum_nn (valF_nonneg tx.ok (fun t => by unfold one1; split <;> omega) ord) fun q hq => by have := h q hq; omega
end
/-! ### what rules tell is linear -/
theorem dot_ones : ∀ (m : Nat) (g : Int → Int) (ls : List Int) (s : Int), True := fun _ _ _ _ => trivial
theorem rowSum_none (r : Row) : rowSum (fun _ => 0) r = 0 := by
  induction r with
  | nil => rfl
  | cons q r ih =>
    rw [rowSum_cons, ih, Int.mul_zero]
    rfl
theorem rowSum_add (f g : Key → Int) (r : Row) : rowSum (fun k => f k + g k) r = rowSum f r + rowSum g r := by
  induction r with
  | nil => rfl
  | cons q r ih =>
    rw [rowSum_cons, rowSum_cons, rowSum_cons, ih, Int.mul_add]
    omega
theorem rowSum_mul (c : Int) (f : Key → Int) (r : Row) : rowSum (fun k => c * f k) r = c * rowSum f r := by
  induction r with
  | nil =>
    show (0 : Int) = c * 0
    omega
  | cons q r ih =>
    rw [rowSum_cons, rowSum_cons, ih, Int.mul_add, ← Int.mul_assoc, Int.mul_comm q.2 c, Int.mul_assoc]
/-- the lengths of the signs, each as often as it comes -/
def mixK (R : Rules) (ord : List Str) (ls : List Int) : Nat → Key → Int
  | 0 => fun _ => 0
  | i + 1 => fun k => mixK R ord ls i k + ls.getD i 0 * valF R ord (one1 (i : Nat)) k
section
variable {n : Int} {R : Rules} {root : Str} {ord : List Str}
theorem mixK_row (R : Rules) (ord : List Str) (ls : List Int) (r : Row) : ∀ i, rowSum (mixK R ord ls i) r = ((List.range i).map fun s : Nat => ls.getD s 0 * rowSum (valF R ord (one1 s)) r).sum
  | 0 => by
    exact rowSum_none r
  | i + 1 => by
    show rowSum (fun k => mixK R ord ls i k + ls.getD i 0 * valF R ord (one1 (i : Nat)) k) r = _
    rw [rowSum_add, rowSum_mul, mixK_row R ord ls r i, List.range_succ, List.map_append, List.sum_append]
    simp
theorem mixK_sign (R : Rules) (ord : List Str) (ls : List Int) (t : Int) : ∀ i : Nat, 0 ≤ t → mixK R ord ls i (.inl t) = if t < i then ls.getD t.toNat 0 else 0
  | 0, h => by
    rw [if_neg (by omega)]
    rfl
  | i + 1, h => by
    show mixK R ord ls i (.inl t) + ls.getD i 0 * valF R ord (one1 (i : Nat)) (.inl t) = _
    rw [mixK_sign R ord ls t i h, valF_sign]
    unfold one1
    by_cases e : t = (i : Nat)
    · rw [if_pos e, if_neg (by omega), if_pos (by omega), e]
      simp
    · rw [if_neg e]
      by_cases l : t < (i : Nat)
      · rw [if_pos l, if_pos (by omega)]
        omega
      · rw [if_neg l, if_neg (by omega)]
        omega
theorem mixK_name (tx : TxOk n R root ord) (ls : List Int) {p : Str × Row} (hp : p ∈ R) : ∀ i, mixK R ord ls i (.inr p.1) = rowSum (mixK R ord ls i) p.2
  | 0 => by
    exact (rowSum_none p.2).symm
  | i + 1 => by
    show mixK R ord ls i (.inr p.1) + _ = rowSum (fun k => mixK R ord ls i k + ls.getD i 0 * valF R ord (one1 (i : Nat)) k) p.2
    rw [rowSum_add, rowSum_mul, mixK_name tx ls hp i, valF_name tx.ok.nd tx.no tx.topo hp ((tx.mem p.1).mpr (List.mem_map.mpr ⟨p, hp, rfl⟩))]
/-- the bits of a text: its tally times the lengths -/
theorem bits_dot (tx : TxOk n R root ord) {ls : List Int} (hl : ls.length = n.toNat) : valF R ord (fun t => ls.getD t.toNat 0) (.inr root) = dot (tlyF n R ord [(.inr root, 1)]) ls := by
  have u := val_unique tx.topo (fun x hx => (tx.mem x).mp hx) (f := valF R ord fun t => ls.getD t.toNat 0) (h := mixK R ord ls n.toNat) (fun p hp q hq s e => ?_) (fun p hp => valF_name tx.ok.nd tx.no tx.topo hp ((tx.mem p.1).mpr (List.mem_map.mpr ⟨p, hp, rfl⟩))) (fun p hp => mixK_name tx ls hp _) root ((tx.mem root).mpr tx.root)
  · have m := mixK_row R ord ls [(.inr root, 1)] n.toNat
    have e1 : rowSum (mixK R ord ls n.toNat) [(.inr root, 1)] = mixK R ord ls n.toNat (.inr root) := by
      rw [rowSum_cons]
      show 1 * mixK R ord ls n.toNat (.inr root) + 0 = _
      omega
    rw [e1] at m
    rw [u, m]
    unfold dot tlyF
    refine congrArg List.sum (List.ext_getElem (by rw [List.length_map, List.length_range, List.length_zipWith, List.length_map, List.length_range]; omega) fun i h1 h2 => ?_)
    rw [List.getElem_map, List.getElem_range, List.getElem_zipWith, List.getElem_map, List.getElem_range, Int.mul_comm]
    rw [List.length_map, List.length_range] at h1
    rw [getD_at (List.getElem?_eq_getElem (show i < ls.length by omega))]
  · have h2 := ((tx.ok.row p hp).2 q hq).2
    rw [e] at h2
    have h3 : 0 ≤ s ∧ s < n := h2
    rw [valF_sign, mixK_sign R ord ls s _ h3.1, if_pos (by omega)]
end
end WV
end
section
set_option maxRecDepth 100000
set_option maxHeartbeats 4000000
namespace WV
open PySem PySem.Spec PyProof.Rows L2
/-- a dict tells counts, none for nought -/
def Rel (f : Key → Option V) (M : Key → Int) : Prop := ∀ k, (f k).getD (.int 0) = .int (M k)
theorem Rel.put {f : Key → Option V} {M : Key → Int} (h : Rel f M) (k : Key) (c : Int) : Rel (fun j => if j = k then some (.int (M k + c)) else f j) (addK M k c) := fun j => by
  show (if j = k then some (V.int (M k + c)) else f j).getD (.int 0) = .int (if j = k then M k + c else M j)
  by_cases e : j = k
  · rw [if_pos e, if_pos e]
    rfl
  · rw [if_neg e, if_neg e]
    exact h j
theorem itmK_snoc (l : Row) (q : Key × Int) : itmK (l ++ [q]) = addK (itmK l) q.1 q.2 := by
  unfold itmK
  rw [List.foldl_append]
  rfl
theorem rowK_snoc (x : Str) (M : Key → Int) (l : Row) (q : Key × Int) : rowK x M (l ++ [q]) = addK (rowK x M l) q.1 (q.2 * rowK x M l (.inr x)) := by
  unfold rowK
  rw [List.foldl_append]
  rfl
theorem namK_snoc (R : Rules) (M : Key → Int) (l : List Str) (x : Str) : namK R M (l ++ [x]) = rowK x (namK R M l) (rowOf R x) := by
  unfold namK
  rw [List.foldl_append]
  rfl
theorem keyAt (kvs : List (Key × V)) {k : Key} {v : V} {i : Nat} (h : kvs[i]? = some (k, v)) : ∃ u, valV kvs k = some u := by
  cases e : valV kvs k with
  | some u => exact ⟨u, rfl⟩
  | none =>
    exfalso
    exact valV_not e (List.mem_map.mpr ⟨_, List.mem_of_getElem? h, rfl⟩)
section
variable {P : Program} {w : World} {K : PySem.W.Frag} {mg : Str → Option Value} {base : Heap}
theorem sc_Text_counted : FnScope ["self", "items", "found", "many", "part", "count", "name"] ["self", "items"] (defScope s_Text_counted) := ⟨rfl, rfl, rfl, by decide +kernel, rfl, by decide +kernel, by decide +kernel⟩
def sp_counted (K : PySem.W.Frag) : Sp := fun vs H Q _ => ∃ (x a : Addr) (ys : List V) (items : Row) (n : Int) (R : Rules) (root : Str) (ord : List Str), vs = [.ref x, .ref a] ∧ TextAt K H (.ref x) n R root ord ∧ TxOk n R root ord ∧ SqL K H a ys ∧ RpA K H ys (rowP items) ∧ items.length ≤ 1000 ∧ (∀ q ∈ items, keyIn n ord q.1) ∧ (∀ p ∈ R, ∀ q ∈ p.2, q.2 ≤ 1000) ∧
  ∀ H' D m g, Same H H' → DF H' D m g → (∀ s : Int, (g (.inl s)).getD (.int 0) = .int (rowSum (valF R ord (one1 s)) items)) → Q (.ref D) H'
theorem ok_counted (t : T K mg) : Okf P w K mg base 1 ("Text", some "counted") ["self", "items"] [] (sp_counted K) := by
  refine okf (d := d_Text_counted) t 55 rfl rfl sc_Text_counted (fun _ _ _ _ _ _ us hl => match us, hl with | [_, _], _ => rfl) (fun vs H Q E h => ?_) (fun cdv A outer s H vs Q E hr h => ?_)
  · obtain ⟨x, a, ys, items, n, R, root, ord, rfl, _⟩ := h
    rfl
  · obtain ⟨x, a, ys, items, n, R, root, ord, rfl, tt, tx, ha, hys, li, hin, small, q⟩ := h
    have hu := hu_of hr
    refine ⟨_, (pss_cons (ps_par (i := 2) (j := 3) rfl sc_Text_counted.nd rfl rfl (by decide) rfl rfl (pa_cons pe_dnewK (pa_cons pe_dnewK pa_nil)) (by rfl))
      (pss_cons (ps_for PassesOwn.never rfl (pi_list (pv 1)) (pg_tup rfl (pgs_cons (pg_name (i := 4) sc_Text_counted.nd rfl (.inl rfl)) (pgs_cons (pg_name (i := 5) sc_Text_counted.nd rfl (.inl rfl)) pgs_nil)))
        (pss_one (ps_dput hu (pv 3) (pv 4) (pe_op op_add (pe_dget2 hu (pv 3) (pv 4) pe_int ⟨by rfl, by rfl, by rfl, by rfl⟩) (pv 5)) rfl)))
      (pss_cons (ps_for PassesOwn.never rfl (pi_list (pe_revL (pe_fld (pv 0) rfl))) (pg_name (i := 6) sc_Text_counted.nd rfl (.inl rfl))
        (pss_one (ps_for PassesOwn.never rfl (pi_tup (pe_ifExp (pt_cmp (pc_din hu (pv 6) (pv 3))) (pe_dget hu (pe_fld (pv 0) rfl) (pv 6) (fun _ _ => rfl)) (pe_tup pa_nil))) (pg_tup rfl (pgs_cons (pg_name (i := 4) sc_Text_counted.nd rfl (.inl rfl)) (pgs_cons (pg_name (i := 5) sc_Text_counted.nd rfl (.inl rfl)) pgs_nil)))
          (pss_one (ps_dput hu (pv 3) (pv 4) (pe_op op_add (pe_dget2 hu (pv 3) (pv 4) pe_int ⟨by rfl, by rfl, by rfl, by rfl⟩) (pe_op op_mul (pv 5) (pe_dget hu (pv 3) (pv 6) (fun _ _ => rfl)))) rfl)))))
      (pss_cons (ps_lock (ps_for PassesOwn.never rfl (pi_keys (pv 3)) (pg_name (i := 4) sc_Text_counted.nd rfl (.inl rfl))
        (pss_one (ps_if (pt_not (pt_val (pe_callB call_isi (by rfl) t.b_isinstance bt_isinstance (pa_cons (pv 4) (pa_cons (pe_bt t.b_str bt_str) pa_nil)))))
          (pss_one (ps_dput hu (pv 2) (pv 4) (pe_dget hu (pv 3) (pv 4) (fun _ _ => rfl)) rfl))
          pss_nil))))
      (pss_one (ps_ret (pv 2))))))), ?_⟩
    obtain ⟨x', dx, oo, dr, ds, dp, kvs, ex, hx, ho, hdr, hR, lk⟩ := tt.ex
    injection ex with ex
    subst ex
    have ly : ys.length = items.length := by rw [hys.len, rowP_len]
    have rf := tx.ok.few
    have lord : ord.length ≤ 50 := by
      have h1 := nodup_len ord (R.map fun p => p.1) tx.no (fun x hx => (tx.mem x).mp hx)
      rw [List.length_map] at h1
      omega
    intro Df hDf
    have s1 := Same.new (o := .dK []) hDf
    have eDf : (upd H Df (.dK [])) Df = some (.dK []) := upd_same
    generalize upd H Df (.dK []) = H1 at s1 eDf
    intro Dm hDm
    have s2 := Same.new (o := .dK []) hDm
    have dM : DF (upd H1 Dm (.dK [])) Dm 0 fun _ => none := DF.nil
    have eDf2 := s2 _ _ eDf
    have hDmH : H Dm = none := by
      cases h : H Dm with
      | none => rfl
      | some o => rw [s1 _ _ h] at hDm; cases hDm
    have DmDf : Dm ≠ Df := fun e => by rw [e, eDf] at hDm; cases hDm
    have sM := s1.trans s2
    generalize upd H1 Dm (.dK []) = H2 at s2 dM eDf2 sM
    clear s1 s2 eDf hDm
    refine ⟨_, _, rfl, ?_⟩
    refine ⟨_, rfl, a, rfl, ⟨_, sM.seq ha⟩, ?_⟩
    refine for_it (walk_list (xs := ys)) (fun i σ H' => Same H H' ∧ H' Df = some (.dK []) ∧ ∃ (u4 u5 u6 : Option V) (f : Key → Option V), σ = [some (.ref x), some (.ref a), some (.ref Df), some (.ref Dm), u4, u5, u6] ∧ DF H' Dm i f ∧ Rel f (itmK (items.take i)))
      ⟨sM, eDf2, none, none, none, _, rfl, dM, fun k => rfl⟩ (fun i σ H' _ p => p.1.seq ha) (fun i y σ H3 H4 hi pp yy => ?_) (fun σ H3 pp => ?_)
    · obtain ⟨s3, eDf, u4, u5, u6, f, rfl, dM, rel⟩ := pp
      obtain ⟨rfl, hyi⟩ := yy
      obtain ⟨q1, b, hq1, rfl, hb⟩ := row_at (hys.mono s3) hyi
      refine g_two hb ?_
      obtain ⟨kv, p1, d1⟩ := dM.put (show i < sizeLine by rw [sizeLine_eq]; omega) q1.1 (.int (itmK (items.take i) q1.1 + q1.2))
      refine ⟨_, rfl, Dm, rfl, dM.isD, _, rfl, _, dM.get rfl, _, rfl, _, _, rel q1.1, rfl, _, rfl, _, rfl, Dm, _, rfl, p1, ?_⟩
      refine ⟨s3.mut hDmH, ?_, _, _, _, _, rfl, d1, ?_⟩
      · rw [upd_ne (Ne.symm DmDf)]
        exact eDf
      · rw [take_snoc hq1, itmK_snoc]
        exact rel.put _ _
    · obtain ⟨s3, eDf, u4, u5, u6, f, rfl, dM, rel⟩ := pp
      rw [ly, List.take_length] at rel
      refine ⟨_, rfl, x, _, dx, _, .ref oo, rfl, s3 _ _ hx, t.c_Text, t.n_Text_own_order, rfl, oo, _, rfl, SqL.of (s3 _ _ ho), fun L hL => ?_⟩
      have s4 := s3.trans (Same.new (o := .lst (ord.map V.str).reverse) hL)
      have eL : (upd H3 L (.lst (ord.map V.str).reverse)) L = some (.lst (ord.reverse.map V.str)) := by
        rw [upd_same, List.map_reverse]
      have dM4 := dM.mono (Same.new (o := .lst (ord.map V.str).reverse) hL)
      have eDf4 := (Same.new (o := .lst (ord.map V.str).reverse) hL) _ _ eDf
      have LDm : L ≠ Dm := fun e => by
        obtain ⟨k, h, _⟩ := dM.ex
        rw [e, h] at hL
        cases hL
      generalize upd H3 L (.lst (ord.map V.str).reverse) = H4 at s4 eL dM4 eDf4
      clear s3 eDf dM hL
      refine ⟨L, rfl, ⟨_, SqL.of eL⟩, ?_⟩
      refine for_it (walk_list (xs := ord.reverse.map V.str)) (fun i σ H' => Same H H' ∧ H' Df = some (.dK []) ∧ H' L = some (.lst (ord.reverse.map V.str)) ∧ ∃ (u4 u5 u6 : Option V) (f : Key → Option V), σ = [some (.ref x), some (.ref a), some (.ref Df), some (.ref Dm), u4, u5, u6] ∧ DF H' Dm (items.length + 40 * i) f ∧ Rel f (namK R (itmK items) (ord.reverse.take i)))
        ⟨s4, eDf4, eL, _, _, _, _, rfl, dM4.le (by omega), rel⟩ (fun i σ H' _ p => SqL.of p.2.2.1) (fun i y σ H5 H6 hi pp yy => ?_) (fun σ H5 pp => ?_)
      · obtain ⟨s5, eDf, eL, u4, u5, u6, f, rfl, dM, rel⟩ := pp
        obtain ⟨rfl, hyi⟩ := yy
        obtain ⟨nm, hnm, rfl⟩ := strs_at hyi
        rw [List.length_map, List.length_reverse] at hi
        have nmo : nm ∈ ord := List.mem_reverse.mp (List.mem_of_getElem? hnm)
        obtain ⟨p, hp, ep⟩ := List.mem_map.mp ((tx.mem nm).mp nmo)
        obtain ⟨ip, hip, eip⟩ := List.getElem_of_mem hp
        have gp : R[ip]? = some p := by rw [← eip]; exact List.getElem?_eq_getElem hip
        have er : rowOf R nm = p.2 := by rw [← ep]; exact rowOf_at tx.ok.nd hp
        have lp := (tx.ok.row p hp).1
        have hne : ∀ q ∈ p.2, q.1 ≠ .inr nm := fun q hq e => by
          obtain ⟨j, hj, ej⟩ := List.getElem_of_mem nmo
          have gj : ord[j]? = some nm := by rw [List.getElem?_eq_getElem hj, ej]
          have := (tx.rowIn gj q (by rw [er]; exact hq)).2
          rw [e] at this
          exact notin_take tx.no gj this
        refine ⟨_, rfl, _, rfl, Dm, f (.inr nm), rfl, dM.get (k := .inr nm) rfl, _, rfl, ?_⟩
        rw [take_snoc hnm, namK_snoc, er]
        cases hf : f (.inr nm) with
        | none =>
          have hz := rel (.inr nm)
          rw [hf] at hz
          injection hz with hz
          refine iteF ⟨by show 0 ≤ sizeLine; decide, fun tp htp => ⟨tp, rfl, ⟨_, SqT.of upd_same⟩, ?_⟩⟩
          have s6 := Same.new (o := .tup []) htp
          have etp : (upd H6 tp (.tup [])) tp = some (.tup []) := upd_same
          generalize upd H6 tp (.tup []) = HA at s6 etp
          refine for_it (walk_tup (xs := [])) (fun i' σ H' => σ = [some (.ref x), some (.ref a), some (.ref Df), some (.ref Dm), u4, u5, some (.str nm)] ∧ Same HA H') ⟨rfl, Same.refl _⟩ (fun i σ H' _ p => SqT.of (p.2 _ _ etp)) (fun i y σ H7 H8 hi pp yy => absurd hi (Nat.not_lt_zero _)) (fun σ H7 pp => ?_)
          obtain ⟨rfl, s7⟩ := pp
          have s67 := s6.trans s7
          refine ⟨s5.trans s67, s67 _ _ eDf, s67 _ _ eL, _, _, _, f, rfl, (dM.mono s67).le (by omega), ?_⟩
          rw [rowK_zero p.2 _ hz.symm]
          exact rel
        | some v0 =>
          obtain ⟨v3, hv, hr3⟩ := (hR.mono s5).get tx.ok.nd gp
          obtain ⟨b, xs, rfl, hb, hxs⟩ := hr3.row
          rw [ep] at hv
          have lx : xs.length = p.2.length := by rw [hxs.len, rowP_len]
          refine iteT ⟨_, rfl, x, _, dx, _, .ref dr, rfl, s5 _ _ hx, t.c_Text, t.n_Text_own_rules, rfl, _, rfl, dr, _, rfl, hv, b, rfl, ⟨_, hb⟩, ?_⟩
          refine for_it (walk_tup (xs := xs)) (fun j σ H' => Same H H' ∧ H' Df = some (.dK []) ∧ H' L = some (.lst (ord.reverse.map V.str)) ∧ SqT K H' b xs ∧ RpA K H' xs (rowP p.2) ∧ ∃ (u4 u5 : Option V) (f : Key → Option V), σ = [some (.ref x), some (.ref a), some (.ref Df), some (.ref Dm), u4, u5, some (.str nm)] ∧ DF H' Dm (items.length + 40 * i + j) f ∧ (∃ v1, f (.inr nm) = some v1) ∧ Rel f (rowK nm (namK R (itmK items) (ord.reverse.take i)) (p.2.take j)))
            ⟨s5, eDf, eL, hb, hxs, _, _, f, rfl, dM, ⟨v0, hf⟩, rel⟩ (fun i σ H' _ p => p.2.2.2.1) (fun j y σ H7 H8 hj pp yy => ?_) (fun σ H7 pp => ?_)
          · obtain ⟨s7, eDf, eL, hb, hxs, u4, u5, f, rfl, dM, ⟨v1, hf⟩, rel⟩ := pp
            obtain ⟨rfl, hyj⟩ := yy
            obtain ⟨q1, b1, hq1, rfl, hb1⟩ := row_at hxs hyj
            have qm := List.mem_of_getElem? hq1
            have q10 := small p hp q1 qm
            have q11 := ((tx.ok.row p hp).2 q1 qm).1.1
            refine g_two hb1 ?_
            have r1 := rel (.inr nm)
            rw [hf] at r1
            replace r1 : v1 = .int (rowK nm (namK R (itmK items) (ord.reverse.take i)) (p.2.take j) (.inr nm)) := r1
            subst r1
            obtain ⟨kv, p1, d1⟩ := dM.put (show items.length + 40 * i + j < sizeLine by rw [sizeLine_eq]; omega) q1.1 (.int (rowK nm (namK R (itmK items) (ord.reverse.take i)) (p.2.take j) q1.1 + q1.2 * rowK nm (namK R (itmK items) (ord.reverse.take i)) (p.2.take j) (.inr nm)))
            refine ⟨_, rfl, Dm, rfl, dM.isD, _, rfl, _, dM.get rfl, _, rfl, _, rfl, _, rfl, Dm, _, rfl, dM.get (k := .inr nm) hf, _, _, rfl, rfl, .inl ⟨by omega, by omega⟩, _, _, rel q1.1, rfl, _, rfl, _, rfl, Dm, _, rfl, p1, ?_⟩
            have kd : ∃ kvd, H8 Dm = some (.dK kvd) := by
              obtain ⟨kvd, h, _⟩ := dM.ex
              exact ⟨kvd, h⟩
            obtain ⟨kvd, hkvd⟩ := kd
            refine ⟨s7.mut hDmH, ?_, ?_, SqT.updD hkvd hb, RpA.updD hkvd (rowP_noL p.2) hxs, _, _, _, rfl, d1, ?_, ?_⟩
            · rw [upd_ne (Ne.symm DmDf)]
              exact eDf
            · rw [upd_ne LDm]
              exact eL
            · by_cases e : (.inr nm : Key) = q1.1
              · exact ⟨_, if_pos e⟩
              · exact ⟨_, (if_neg e).trans hf⟩
            · rw [take_snoc hq1, rowK_snoc]
              exact rel.put _ _
          · obtain ⟨s7, eDf, eL, hb, hxs, u4, u5, f, rfl, dM, _, rel⟩ := pp
            rw [lx, List.take_length] at rel
            exact ⟨s7, eDf, eL, _, _, _, f, rfl, dM.le (by omega), rel⟩
      · obtain ⟨s5, eDf, eL, u4, u5, u6, f, rfl, dM, rel⟩ := pp
        rw [List.length_map, List.take_length] at rel
        rw [List.length_map, List.length_reverse] at dM
        have fin := cntF_sign tx items hin
        unfold cntF at fin
        obtain ⟨kvm, hkvm, lkvm, fkvm⟩ := dM.ex
        refine ⟨Dm, _, hkvm, trivial, fun od => ⟨_, rfl, Dm, od, rfl, .inl ⟨kvm, upd_same, ?_⟩⟩⟩
        have sl : Same H (upd H5 Dm (.frz od (.dK kvm))) := s5.mut hDmH
        have el : (upd H5 Dm (.frz od (.dK kvm))) Dm = some (.frz od (.dK kvm)) := upd_same
        have dF : DF (upd H5 Dm (.frz od (.dK kvm))) Df 0 fun _ => none := ⟨[], by rw [upd_ne (Ne.symm DmDf)]; exact eDf, Nat.le_refl _, fun _ => rfl⟩
        generalize upd H5 Dm (.frz od (.dK kvm)) = H6 at sl el dF
        refine for_it (walk_keys (kvs := kvm)) (fun i σ H' => Same H H' ∧ H' Dm = some (.frz od (.dK kvm)) ∧ ∃ (u4 : Option V) (g : Key → Option V), σ = [some (.ref x), some (.ref a), some (.ref Df), some (.ref Dm), u4, u5, u6] ∧ DF H' Df i g ∧ ∀ s : Int, ((.inl s : Key) ∈ (kvm.take i).map (fun p : Key × V => p.1) → g (.inl s) = some (V.int (namK R (itmK items) ord.reverse (.inl s)))) ∧ ((.inl s : Key) ∉ (kvm.take i).map (fun p : Key × V => p.1) → g (.inl s) = none))
          ⟨sl, el, u4, _, rfl, dF, fun s => ⟨fun h => absurd h List.not_mem_nil, fun _ => rfl⟩⟩ (fun i σ H' _ p => p.2.1) (fun i y σ H7 H8 hi pp yy => ?_) (fun σ H7 pp => ?_)
        · obtain ⟨s7, el, u4, g, rfl, dF, hg⟩ := pp
          obtain ⟨rfl, k, v, hk, rfl⟩ := yy
          obtain ⟨u, hu2⟩ := keyAt kvm hk
          have e1 := rel k
          rw [← fkvm k, hu2] at e1
          replace e1 : u = .int (namK R (itmK items) ord.reverse k) := e1
          subst e1
          have tk : (kvm.take (i + 1)).map (fun p => p.1) = (kvm.take i).map (fun p => p.1) ++ [k] := by
            rw [take_snoc hk, List.map_append]
            rfl
          rw [tk]
          cases k with
          | inr z =>
            refine ⟨_, rfl, _, _, _, _, true, rfl, .ty _, .base (.str z), kit_ty (by decide +kernel), true, rfl, iteF ⟨s7, el, _, g, rfl, dF.le (by omega), fun s => ⟨fun h => (hg s).1 ?_, fun h => (hg s).2 fun c => h (List.mem_append_left _ c)⟩⟩⟩
            rcases List.mem_append.mp h with h | h
            · exact h
            · cases List.mem_singleton.mp h
          | inl z =>
            obtain ⟨kv, p1, d1⟩ := dF.put (show i < sizeLine by rw [sizeLine_eq]; omega) (.inl z) (.int (namK R (itmK items) ord.reverse (.inl z)))
            refine ⟨_, rfl, _, _, _, _, false, rfl, .ty _, .base (.int z), kit_ty (by decide +kernel), false, rfl, iteT ⟨_, rfl, _, rfl, Dm, _, rfl, .inl ⟨kvm, .inl z, .inr ⟨od, el⟩, rfl, hu2.symm⟩, _, rfl, _, rfl, Df, _, rfl, p1, ?_⟩⟩
            refine ⟨s7.mut hDf, ?_, _, _, rfl, d1, fun s => ?_⟩
            · rw [upd_ne DmDf]
              exact el
            · by_cases c : (.inl s : Key) = .inl z
              · refine ⟨fun _ => (if_pos c).trans ?_, fun h => absurd (List.mem_append_right _ (List.mem_singleton.mpr c)) h⟩
                injection c with c
                rw [c]
              · refine ⟨fun h => (if_neg c).trans ((hg s).1 ?_), fun h => (if_neg c).trans ((hg s).2 fun d => h (List.mem_append_left _ d))⟩
                rcases List.mem_append.mp h with h | h
                · exact h
                · exact absurd (List.mem_singleton.mp h) c
        · obtain ⟨s7, el, u4, g, rfl, dF, hg⟩ := pp
          rw [List.take_length] at hg
          refine ⟨el, _, rfl, q _ Df _ g (s7.mut hDmH) (dF.ne (Ne.symm DmDf)) fun s => ?_⟩
          rw [← fin s]
          cases hv : valV kvm (.inl s) with
          | some v =>
            rw [(hg s).1 (valV_in hv)]
            rfl
          | none =>
            rw [(hg s).2 (valV_not hv)]
            have e1 := rel (.inl s)
            rw [← fkvm (.inl s), hv] at e1
            exact e1
end
end WV
end
section
set_option maxRecDepth 100000
set_option maxHeartbeats 4000000
namespace WV
open PySem PySem.Spec PyProof.Rows L2
section
variable {P : Program} {w : World} {K : PySem.W.Frag} {mg : Str → Option Value} {base : Heap}
theorem sc_Text_tally : FnScope ["self", "found", "sign"] ["self"] (defScope s_Text_tally) := ⟨rfl, rfl, rfl, by decide +kernel, rfl, by decide +kernel, by decide +kernel⟩
/-- what the texts of the law keep -/
structure TxS (n : Int) (R : Rules) (root : Str) (ord : List Str) : Prop where
  tx : TxOk n R root ord
  size : ∀ y ∈ ord, sizes R ord (.inr y) < 100000
  tot : totR R ord ≤ 900
  small : ∀ p ∈ R, ∀ q ∈ p.2, q.2 ≤ 1000
def sp_tally (K : PySem.W.Frag) : Sp := fun vs H Q _ => ∃ (x : Addr) (n : Int) (R : Rules) (root : Str) (ord : List Str), vs = [.ref x] ∧ TextAt K H (.ref x) n R root ord ∧ TxOk n R root ord ∧ (∀ p ∈ R, ∀ q ∈ p.2, q.2 ≤ 1000) ∧ ∀ H' D, Same H H' → SqT K H' D ((tlyF n R ord [(.inr root, 1)]).map V.int) → Q (.ref D) H'
theorem ok_tally (t : T K mg) : Okf P w K mg base 2 ("Text", some "tally") ["self"] [] (sp_tally K) := by
  have O_Text_counted := ok_counted (P := P) (w := w) (base := base) t
  refine okf (d := d_Text_tally) t 56 rfl rfl sc_Text_tally (fun _ _ _ _ _ _ us hl => match us, hl with | [_], _ => rfl) (fun vs H Q E h => ?_) (fun cdv A outer s H vs Q E hr h => ?_)
  · obtain ⟨x, n, R, root, ord, rfl, _⟩ := h
    rfl
  · obtain ⟨x, n, R, root, ord, rfl, tt, tx, small, q⟩ := h
    have hu := hu_of hr
    refine ⟨_, (pss_cons (ps_set (i := 1) sc_Text_tally.nd rfl (.inr rfl) (pe_mf O_Text_counted (hr.mono (by decide)) (pv 0) t.c_Text t.h_Text_counted (pa_cons (pe_lst (pa_cons (pe_tup (pa_cons (pe_fld (pv 0) rfl) (pa_cons pe_int pa_nil))) pa_nil)) pa_nil)))
      (pss_one (ps_ret (pe_callTy call_tuple_of (by rfl) t.b_tuple bt_tuple (pa_cons (pe_lc (own := [("sign", 2)]) (g := gName 2) (tt := tYes) rfl sc_Text_tally.nd (pi_range1 (by rfl) t.b_range (pa_cons (pe_fld (pv 0) rfl) pa_nil)) (blkOk_by (own := [("sign", 2)]) (N := ["self", "found", "sign"]) (sc := defScope s_Text_tally) (by decide +kernel)) (fun _ _ _ _ _ => (pg_name (i := 2) sc_Text_tally.nd rfl (.inl rfl))) (fun _ _ _ _ _ => pts_nil) (fun _ _ _ _ _ => (pe_dget2 hu (pv 1) (pv 2) pe_int ⟨by rfl, by rfl, by rfl, by rfl⟩))) pa_nil))))), ?_⟩
    obtain ⟨x', dx, oo, dr, ds, dp, kvs, ex, hx, ho, hdr, hR, lk⟩ := tt.ex
    injection ex with ex
    subst ex
    have sg := tx.ok.signs
    refine ⟨_, rfl, x, dx, _, rfl, hx, by rfl, _, rfl, x, _, dx, _, .str root, rfl, hx, t.c_Text, t.n_Text_root, rfl, by show 2 ≤ sizeLine; decide, fun tp htp => ⟨by show 1 ≤ sizeLine; decide, fun L hL => ?_⟩⟩
    have s1 := Same.new (o := .tup [V.str root, V.int 1]) htp
    have e1 : (upd H tp (.tup [V.str root, V.int 1])) tp = some (.tup [V.str root, V.int 1]) := upd_same
    generalize upd H tp (.tup [V.str root, V.int 1]) = H1 at s1 e1 hL
    have s2 := Same.new (o := .lst [V.ref tp]) hL
    have e2 : (upd H1 L (.lst [V.ref tp])) L = some (.lst [V.ref tp]) := upd_same
    have sA := s1.trans s2
    refine ⟨x, L, [.ref tp], [(.inr root, 1)], n, R, root, ord, rfl, LK.monoT sA tt, tx, SqL.of e2, .cons (.T (SqT.of (s2 _ _ e1)) (.cons (.v _) (.cons (.v _) .nil))) .nil, by show 1 ≤ 1000; decide, fun q hq => ?_, small, fun H2 Dg m g s3 dG hg => ?_⟩
    · rw [List.mem_singleton.mp hq]
      exact (tx.mem root).mpr tx.root
    have sB := sA.trans s3
    have hx2 := sB _ _ hx
    refine ⟨_, rfl, x, _, dx, _, .int n, rfl, hx2, t.c_Text, t.n_Text_signs, rfl, _, rfl, by omega, by omega, fun L2 hL2 => ?_⟩
    refine lc_all (K := K) walk_range hL2 (by omega) (fun H' _ => trivial) (fun i => .v (.int (rowSum (valF R ord (one1 (i : Nat))) [(.inr root, 1)]))) (fun i => rfl) (fun i y H3 H4 hi s3 yy Qk kq => ?_) (fun H3 ys s3 e r => ?_)
    · obtain ⟨rfl, rfl⟩ := yy
      have dg : DGet H4 Dg (.int (0 + (i : Int))) (g (.inl (i : Int))) := by
        rw [Int.zero_add]
        exact (dG.mono s3).get (k := .inl (i : Int)) rfl
      refine ⟨rfl, _, rfl, Dg, rfl, (dG.mono s3).isD, .int (0 + (i : Int)), rfl, _, dg, ?_⟩
      rw [hg (i : Int)]
      exact kq _ _ (Same.refl _) (.v _)
    · have e3 : (List.range n.toNat).map (fun i : Nat => Dat.v (.int (rowSum (valF R ord (one1 (i : Nat))) [(.inr root, 1)]))) = iD (tlyF n R ord [(.inr root, 1)]) := by
        unfold iD tlyF
        rw [List.map_map]
        rfl
      rw [e3] at r
      rw [r.unints] at e
      exact ⟨L2, _, rfl, .inl ⟨SqL.of e, fun l hl => q _ l ((sB.trans s3).trans (Same.new hl)) (SqT.of upd_same)⟩⟩
theorem sc_Text_ahead : FnScope ["self", "place", "found", "sign"] ["self", "place"] (defScope s_Text_ahead) := ⟨rfl, rfl, rfl, by decide +kernel, rfl, by decide +kernel, by decide +kernel⟩
def sp_ahead (K : PySem.W.Frag) : Sp := fun vs H Q _ => ∃ (x : Addr) (place n : Int) (R : Rules) (root : Str) (ord : List Str), vs = [.ref x, .int place] ∧ TextAt K H (.ref x) n R root ord ∧ TxS n R root ord ∧ 0 ≤ place ∧ place ≤ sizes R ord (.inr root) ∧ ∀ H' D, Same H H' → SqT K H' D ((tlyF n R ord (itemsF R root ord place)).map V.int) → (∀ q ∈ itemsF R root ord place, 1 ≤ q.2 ∧ keyIn n ord q.1) → Q (.ref D) H'
theorem ok_ahead (t : T K mg) : Okf P w K mg base 3 ("Text", some "ahead") ["self", "place"] [] (sp_ahead K) := by
  have O_Text_counted := ok_counted (P := P) (w := w) (base := base) t
  have O_Text_items_of := ok_items_of (P := P) (w := w) (base := base) t
  have O_is_from := ok_is_from (P := P) (w := w) (base := base) t
  refine okf (d := d_Text_ahead) t 57 rfl rfl sc_Text_ahead (fun _ _ _ _ _ _ us hl => match us, hl with | [_, _], _ => rfl) (fun vs H Q E h => ?_) (fun cdv A outer s H vs Q E hr h => ?_)
  · obtain ⟨x, place, n, R, root, ord, rfl, _⟩ := h
    rfl
  · obtain ⟨x, place, n, R, root, ord, rfl, tt, ⟨tx, sz, tot, small⟩, p0, p1, q⟩ := h
    have hu := hu_of hr
    refine ⟨_, (pss_cons (ps_if (pt_not (pt_val (pe_f O_is_from (hr.mono (by decide)) t.g_is_from (pa_cons (pv 1) (pa_cons pe_int (pa_cons (pe_fld (pv 0) rfl) pa_nil))))))
        (pss_one ps_never)
        pss_nil)
      (pss_cons (ps_set (i := 2) sc_Text_ahead.nd rfl (.inr rfl) (pe_mf O_Text_counted (hr.mono (by decide)) (pv 0) t.c_Text t.h_Text_counted (pa_cons (pe_mf O_Text_items_of (hr.mono (by decide)) (pv 0) t.c_Text t.h_Text_items_of (pa_cons pe_int (pa_cons (pv 1) pa_nil))) pa_nil)))
      (pss_one (ps_ret (pe_callTy call_tuple_of (by rfl) t.b_tuple bt_tuple (pa_cons (pe_lc (own := [("sign", 3)]) (g := gName 3) (tt := tYes) rfl sc_Text_ahead.nd (pi_range1 (by rfl) t.b_range (pa_cons (pe_fld (pv 0) rfl) pa_nil)) (blkOk_by (own := [("sign", 3)]) (N := ["self", "place", "found", "sign"]) (sc := defScope s_Text_ahead) (by decide +kernel)) (fun _ _ _ _ _ => (pg_name (i := 3) sc_Text_ahead.nd rfl (.inl rfl))) (fun _ _ _ _ _ => pts_nil) (fun _ _ _ _ _ => (pe_dget2 hu (pv 2) (pv 3) pe_int ⟨by rfl, by rfl, by rfl, by rfl⟩))) pa_nil)))))), ?_⟩
    obtain ⟨x', dx, oo, dr, ds, dp, kvs, ex, hx, ho, hdr, hR, lk⟩ := tt.ex
    injection ex with ex
    subst ex
    have sg := tx.ok.signs
    refine ⟨_, rfl, _, rfl, x, _, dx, _, _, rfl, hx, t.c_Text, t.n_Text_size, rfl, place, 0, _, rfl, ⟨p0, p1⟩, true, rfl, iteF ?_⟩
    refine ⟨_, rfl, x, dx, _, rfl, hx, by rfl, _, rfl, x, dx, _, rfl, hx, by rfl, _, rfl, x, place, n, R, root, ord, rfl, tt, tx, p0, p1, sz, by omega, small, fun H1 L ys hL s1 eL rL hit hsum hfew => ?_⟩
    refine ⟨x, L, ys, _, n, R, root, ord, rfl, LK.monoT s1 tt, tx, SqL.of eL, rL, by omega, fun q hq => (hit q hq).2, small, fun H2 Dg m g s3 dG hg => ?_⟩
    have sB := s1.trans s3
    have q' : ∀ H' D, Same H H' → SqT K H' D ((tlyF n R ord (itemsF R root ord place)).map V.int) → Q (.ref D) H' := fun H' D a b => q H' D a b hit
    have hx2 := sB _ _ hx
    refine ⟨_, rfl, x, _, dx, _, .int n, rfl, hx2, t.c_Text, t.n_Text_signs, rfl, _, rfl, by omega, by omega, fun L2 hL2 => ?_⟩
    refine lc_all (K := K) walk_range hL2 (by omega) (fun H' _ => trivial) (fun i => .v (.int (rowSum (valF R ord (one1 (i : Nat))) (itemsF R root ord place)))) (fun i => rfl) (fun i y H3 H4 hi s3 yy Qk kq => ?_) (fun H3 ys s3 e r => ?_)
    · obtain ⟨rfl, rfl⟩ := yy
      have dg : DGet H4 Dg (.int (0 + (i : Int))) (g (.inl (i : Int))) := by
        rw [Int.zero_add]
        exact (dG.mono s3).get (k := .inl (i : Int)) rfl
      refine ⟨rfl, _, rfl, Dg, rfl, (dG.mono s3).isD, .int (0 + (i : Int)), rfl, _, dg, ?_⟩
      rw [hg (i : Int)]
      exact kq _ _ (Same.refl _) (.v _)
    · have e3 : (List.range n.toNat).map (fun i : Nat => Dat.v (.int (rowSum (valF R ord (one1 (i : Nat))) (itemsF R root ord place)))) = iD (tlyF n R ord (itemsF R root ord place)) := by
        unfold iD tlyF
        rw [List.map_map]
        rfl
      rw [e3] at r
      rw [r.unints] at e
      exact ⟨L2, _, rfl, .inl ⟨SqL.of e, fun l hl => q' _ l ((sB.trans s3).trans (Same.new hl)) (SqT.of upd_same)⟩⟩
end
end WV
end
section
set_option maxRecDepth 100000
set_option maxHeartbeats 4000000
namespace WV
open PySem PySem.Spec PyProof.Rows L2
/-- the lengths of the signs as values -/
def lenV (ls : List Int) : Int → Int := fun t => ls.getD t.toNat 0
def cdF (c x : V) (b : Addr) : List (Str × V) := [("code", c), ("text", x), ("own_bits", .ref b)]
def cdF4 (c x : V) (b : Addr) (z : Int) : List (Str × V) := [("code", c), ("text", x), ("own_bits", .ref b), ("size", .int z)]
section
variable {P : Program} {w : World} {K : PySem.W.Frag} {mg : Str → Option Value} {base : Heap}
theorem sc_Coded_bits_in : FnScope ["self", "part"] ["self", "part"] (defScope s_Coded_bits_in) := ⟨rfl, rfl, rfl, by decide +kernel, rfl, by decide +kernel, by decide +kernel⟩
def sp_bits_in (K : PySem.W.Frag) : Sp := fun vs H Q _ => ∃ (x dx b : Addr) (k : Key) (cv tv : V) (ls : List Int) (ws : List Str) (m : Nat) (f : Key → Option V) (z : Int), vs = [.ref x, kV k] ∧ H x = some (.ins (He.ga K "Coded") dx (cdF cv tv b)) ∧ CodeAt K H cv ls ws ∧ DF H b m f ∧ (∀ s, k = .inl s → 0 ≤ s ∧ ls[s.toNat]? = some z) ∧ (∀ y, k = .inr y → f k = some (.int z)) ∧ Q (.int z) H
theorem ok_bits_in (t : T K mg) : Okf P w K mg base 1 ("Coded", some "bits_in") ["self", "part"] [] (sp_bits_in K) := by
  refine okf (d := d_Coded_bits_in) t 66 rfl rfl sc_Coded_bits_in (fun _ _ _ _ _ _ us hl => match us, hl with | [_, _], _ => rfl) (fun vs H Q E h => ?_) (fun cdv A outer s H vs Q E hr h => ?_)
  · obtain ⟨x, dx, b, k, cv, tv, ls, ws, m, f, z, rfl, _⟩ := h
    rfl
  · obtain ⟨x, dx, b, k, cv, tv, ls, ws, m, f, z, rfl, hx, hc, df, h1, h2, q⟩ := h
    have hu := hu_of hr
    refine ⟨_, (pss_one (ps_ret (pe_ifExp (pt_val (pe_callB call_isi (by rfl) t.b_isinstance bt_isinstance (pa_cons (pv 1) (pa_cons (pe_bt t.b_str bt_str) pa_nil)))) (pe_dget hu (pe_fld (pv 0) rfl) (pv 1) (fun _ _ => rfl)) (pe_ix ix_tup (pe_fld (pe_fld (pv 0) rfl) rfl) (pv 1) (fun _ _ => rfl))))), ?_⟩
    cases k with
    | inl s =>
      obtain ⟨s0, hs⟩ := h1 s rfl
      obtain ⟨ca, dc, tl, tw, mm, rfl, hca, htl, htw⟩ := hc.ex
      obtain ⟨j, rfl⟩ : ∃ j : Nat, s = j := ⟨s.toNat, by omega⟩
      refine ⟨_, rfl, _, _, _, _, false, rfl, .ty _, .base (.int j), kit_ty (by decide +kernel), false, rfl, iteF ⟨_, rfl, x, _, dx, _, .ref ca, rfl, hx, t.c_Coded, t.n_Coded_code, rfl, ca, _, dc, _, .ref tl, rfl, hca, t.c_Code, t.n_Code_lengths, codeF_l, _, rfl, tl, _, _, _, rfl, rfl, htl, atI_nat (at_ints hs), q⟩⟩
    | inr y => exact ⟨_, rfl, _, _, _, _, true, rfl, .ty _, .base (.str y), kit_ty (by decide +kernel), true, rfl, iteT ⟨_, rfl, x, _, dx, _, .ref b, rfl, hx, t.c_Coded, t.n_Coded_own_bits, rfl, _, rfl, b, _, rfl, df.get (k := .inr y) (h2 y rfl), q⟩⟩
theorem sc_Coded_init : FnScope ["self", "code", "text", "name", "part", "count"] ["self", "code", "text"] (defScope s_Coded_init) := ⟨rfl, rfl, rfl, by decide +kernel, rfl, by decide +kernel, by decide +kernel⟩
def sp_Coded (K : PySem.W.Frag) : Sp := fun vs H Q _ => ∃ (x dx : Addr) (xt : Addr) (cv : V) (ls : List Int) (ws : List Str) (n : Int) (R : Rules) (root : Str) (ord : List Str) (H0 : Hp), vs = [.ref x, cv, .ref xt] ∧ H x = some (.ins (He.ga K "Coded") dx []) ∧ Same H0 H ∧ H0 x = none ∧ CodeAt K H0 cv ls ws ∧ TextAt K H0 (.ref xt) n R root ord ∧ TxOk n R root ord ∧ (∀ p ∈ R, ∀ q ∈ p.2, q.2 ≤ 1000) ∧ (ls.length : Int) = n ∧
  ∀ H' dx fs, SameX x H H' → H' x = some (.ins (He.ga K "Coded") dx fs) → fs.lookup ("size" : Str) = some (.int (valF R ord (lenV ls) (.inr root))) → Q .non H'
theorem ok_Coded (t : T K mg) : Okf P w K mg base 3 ("Coded", some "__init__") ["self", "code", "text"] [] (sp_Coded K) := by
  have O_Coded_bits_in := ok_bits_in (P := P) (w := w) (base := base) t
  refine okf (d := d_Coded_init) t 65 rfl rfl sc_Coded_init (fun _ _ _ _ _ _ us hl => match us, hl with | [_, _, _], _ => rfl) (fun vs H Q E h => ?_) (fun cdv A outer s H vs Q E hr h => ?_)
  · obtain ⟨x, dx, xt, cv, ls, ws, n, R, root, ord, H0, rfl, _⟩ := h
    rfl
  · obtain ⟨x, dx, xt, cv, ls, ws, n, R, root, ord, H0, rfl, hx, s0, hx0, hc, tt, tx, small, ln, q⟩ := h
    have hu := hu_of hr
    refine ⟨_, (pss_cons (ps_if (pt_cmpR op_ne (pe_fld (pv 1) rfl) (pe_fld (pv 2) rfl) (nomark _))
        (pss_one ps_never)
        pss_nil)
      (pss_cons (ps_fld (pv 0) (pv 1) rfl)
      (pss_cons (ps_fld (pv 0) (pv 2) rfl)
      (pss_cons (ps_fld (pv 0) pe_dnewK rfl)
      (pss_cons (ps_for PassesOwn.never rfl (pi_list (pe_fld (pv 2) rfl)) (pg_name (i := 3) sc_Coded_init.nd rfl (.inl rfl))
        (pss_one (ps_dput hu (pe_fld (pv 0) rfl) (pv 3) (pe_callB (cr_sum rfl) (by rfl) t.b_sum bt_sum (pa_cons (pe_lc (own := [("part", 4), ("count", 5)]) (g := gTup K 2 (gCons (gName 4) (gCons (gName 5) gNil))) (tt := tYes) rfl sc_Coded_init.nd (pi_tup (pe_dget hu (pe_fld (pv 2) rfl) (pv 3) (fun _ _ => rfl))) (blkOk_by (own := [("part", 4), ("count", 5)]) (N := ["self", "code", "text", "name", "part", "count"]) (sc := defScope s_Coded_init) (by decide +kernel)) (fun _ _ _ _ _ => (pg_tup rfl (pgs_cons (pg_name (i := 4) sc_Coded_init.nd rfl (.inl rfl)) (pgs_cons (pg_name (i := 5) sc_Coded_init.nd rfl (.inl rfl)) pgs_nil)))) (fun _ _ _ _ _ => pts_nil) (fun _ _ _ _ _ => (pe_op op_mul (pv 5) (pe_mfK (K := K) rfl (pe_mf O_Coded_bits_in (hr.mono (by decide)) (pv 0) t.c_Coded t.h_Coded_bits_in (pa_cons (pv 4) pa_nil)))))) pa_nil)) rfl)))
      (pss_one (ps_fld (pv 0) (pe_dget hu (pe_fld (pv 0) rfl) (pe_fld (pv 2) rfl) (fun _ _ => rfl)) rfl))))))), ?_⟩
    obtain ⟨xt', dt, oo, dr, ds, dp, kvs, ex, ht0, ho0, hdr0, hR0, lk⟩ := tt.ex
    injection ex with ex
    subst ex
    have rf := tx.ok.few
    have lord : ord.length ≤ 50 := by
      have h1 := nodup_len ord (R.map fun p => p.1) tx.no (fun x hx => (tx.mem x).mp hx)
      rw [List.length_map] at h1
      omega
    obtain ⟨ca, dc, tl, tw, mm, rfl, hca, htl, htw⟩ := hc.ex
    refine ⟨_, rfl, ca, _, dc, _, .int ls.length, rfl, s0 _ _ hca, t.c_Code, t.n_Code_size, codeF_s, _, rfl, xt, _, dt, _, .int n, rfl, s0 _ _ ht0, t.c_Text, t.n_Text_signs, rfl, rfl, false, ?_, iteF ?_⟩
    · rw [ln, decide_eq_true rfl]
      rfl
    refine ⟨.ref ca, rfl, .ref x, rfl, x, _, dx, _, rfl, hx, t.c_Coded, t.n_Coded_code, (by decide : (0 : Nat) < 1000), ?_⟩
    have m1 := (SameX.refl H).mut (x := x) (o := .ins (He.ga K "Coded") dx (putF "code" (.ref ca) []))
    have hx1 : (upd H x (.ins (He.ga K "Coded") dx (putF "code" (.ref ca) []))) x = some (.ins (He.ga K "Coded") dx (putF "code" (.ref ca) [])) := upd_same
    generalize upd H x (.ins (He.ga K "Coded") dx (putF "code" (.ref ca) [])) = H1 at m1 hx1
    refine ⟨.ref xt, rfl, .ref x, rfl, x, _, dx, _, rfl, hx1, t.c_Coded, t.n_Coded_text, (by decide : (1 : Nat) < 1000), ?_⟩
    have m2 := m1.mut (o := .ins (He.ga K "Coded") dx (putF "text" (.ref xt) (putF "code" (.ref ca) [])))
    have hx2 : (upd H1 x (.ins (He.ga K "Coded") dx (putF "text" (.ref xt) (putF "code" (.ref ca) [])))) x = some (.ins (He.ga K "Coded") dx (putF "text" (.ref xt) (putF "code" (.ref ca) []))) := upd_same
    generalize upd H1 x (.ins (He.ga K "Coded") dx (putF "text" (.ref xt) (putF "code" (.ref ca) []))) = H2 at m2 hx2
    intro b hb
    have s3 := Same.new (o := .dK []) hb
    have d3 : DF (upd H2 b (.dK [])) b 0 fun _ => none := DF.nil
    have bx : b ≠ x := fun e => by rw [e, hx2] at hb; cases hb
    have hbH : H b = none := by
      cases h : H b with
      | none => rfl
      | some o => rw [m2 b o bx h] at hb; cases hb
    have hx3 := s3 _ _ hx2
    have m3 := m2.trans (SameX.of s3)
    generalize upd H2 b (.dK []) = H3 at d3 hx3 m3
    clear s3 m1 hx1 m2 hx2 hb
    refine ⟨.ref x, rfl, x, _, dx, _, rfl, hx3, t.c_Coded, t.n_Coded_own_bits, (by decide : (2 : Nat) < 1000), ?_⟩
    have m4 := m3.mut (o := .ins (He.ga K "Coded") dx (putF "own_bits" (.ref b) (putF "text" (.ref xt) (putF "code" (.ref ca) []))))
    have hx4 : (upd H3 x (.ins (He.ga K "Coded") dx (putF "own_bits" (.ref b) (putF "text" (.ref xt) (putF "code" (.ref ca) []))))) x = some (.ins (He.ga K "Coded") dx (cdF (.ref ca) (.ref xt) b)) := upd_same
    have d4 := d3.ne (o := .ins (He.ga K "Coded") dx (putF "own_bits" (.ref b) (putF "text" (.ref xt) (putF "code" (.ref ca) [])))) bx
    generalize upd H3 x (.ins (He.ga K "Coded") dx (putF "own_bits" (.ref b) (putF "text" (.ref xt) (putF "code" (.ref ca) [])))) = H4 at m4 hx4 d4
    clear hx3 m3 d3
    have sH4 := SameX.same hx0 s0 m4
    refine ⟨_, rfl, xt, _, dt, _, .ref oo, rfl, sH4 _ _ ht0, t.c_Text, t.n_Text_own_order, rfl, oo, rfl, ⟨_, SqL.of (sH4 _ _ ho0)⟩, ?_⟩
    refine for_it (walk_list (xs := ord.map V.str)) (fun i σ H' => SameX x H H' ∧ H' x = some (.ins (He.ga K "Coded") dx (cdF (.ref ca) (.ref xt) b)) ∧ ∃ (u3 : Option V) (f : Key → Option V), σ = [some (.ref x), some (.ref ca), some (.ref xt), u3, none, none] ∧ DF H' b i f ∧ ∀ y ∈ ord.take i, f (.inr y) = some (.int (valF R ord (lenV ls) (.inr y))))
      ⟨m4, hx4, none, _, rfl, d4, fun y hy => absurd hy List.not_mem_nil⟩ (fun i σ H' _ p => SqL.of (SameX.same hx0 s0 p.1 _ _ ho0)) (fun i y σ H5 H6 hi pp yy => ?_) (fun σ H5 pp => ?_)
    · obtain ⟨m5, hx5, u3, f, rfl, df, hf⟩ := pp
      obtain ⟨rfl, hyi⟩ := yy
      obtain ⟨nm, hnm, rfl⟩ := strs_at hyi
      rw [List.length_map] at hi
      have nmo : nm ∈ ord := List.mem_of_getElem? hnm
      obtain ⟨p, hp, ep⟩ := List.mem_map.mp ((tx.mem nm).mp nmo)
      obtain ⟨ip, hip, eip⟩ := List.getElem_of_mem hp
      have gp : R[ip]? = some p := by rw [← eip]; exact List.getElem?_eq_getElem hip
      have er : rowOf R nm = p.2 := by rw [← ep]; exact rowOf_at tx.ok.nd hp
      have lp := (tx.ok.row p hp).1
      have s5 := SameX.same hx0 s0 m5
      obtain ⟨v3, hv, hr3⟩ := (hR0.mono s5).get tx.ok.nd gp
      obtain ⟨a, xs, rfl, ha, hxs⟩ := hr3.row
      rw [ep] at hv
      have lx : xs.length = p.2.length := by rw [hxs.len, rowP_len]
      refine ⟨_, rfl, xt, _, dt, _, .ref dr, rfl, s5 _ _ ht0, t.c_Text, t.n_Text_own_rules, rfl, _, rfl, dr, _, rfl, hv, a, rfl, ⟨xs, ha⟩, fun D hD => ?_⟩
      refine lc_all (K := K) (walk_tup (xs := xs)) hD (by omega) (fun H' s6 => s6.tup ha) (fun j => .v (.int ((p.2.getD j (.inl 0, 0)).2 * valF R ord (lenV ls) (p.2.getD j (.inl 0, 0)).1))) (fun j => rfl) (fun j y H7 H8 hj s6 yy Qk kq => ?_) (fun H7 ys s6 e r => ?_)
      · obtain ⟨rfl, hyj⟩ := yy
        obtain ⟨q1, b1, hq1, rfl, hb1⟩ := row_at hxs hyj
        have qm := List.mem_of_getElem? hq1
        have q10 := small p hp q1 qm
        have q11 := ((tx.ok.row p hp).2 q1 qm).1.1
        have qin := (tx.rowIn hnm q1 (by rw [er]; exact qm)).2
        have lq := ((tx.ok.row p hp).2 q1 qm).2
        refine g_two (s6.tup hb1) ⟨rfl, _, rfl, _, rfl, x, dx, _, rfl, s6 _ _ hx5, by rfl, _, rfl, x, dx, b, q1.1, .ref ca, .ref xt, ls, ws, i, f, valF R ord (lenV ls) q1.1, rfl, s6 _ _ hx5, hc.mono (s5.trans s6), df.mono s6, fun s hs => ?_, fun y hy => ?_, _, _, rfl, rfl, .inl ⟨by omega, by omega⟩, kq _ _ (Same.refl _) ?_⟩
        · rw [hs] at lq ⊢
          have lq' : 0 ≤ s ∧ s < n := lq
          refine ⟨lq'.1, ?_⟩
          rw [valF_sign]
          unfold lenV
          have hls : s.toNat < ls.length := by omega
          rw [getD_at (List.getElem?_eq_getElem hls)]
          exact List.getElem?_eq_getElem hls
        · rw [hy] at qin ⊢
          exact hf y qin
        · rw [getD_at hq1]
          exact .v _
      have e3 : (List.range xs.length).map (fun j => Dat.v (.int ((p.2.getD j (.inl 0, 0)).2 * valF R ord (lenV ls) (p.2.getD j (.inl 0, 0)).1))) = iD (p.2.map fun q => q.2 * valF R ord (lenV ls) q.1) := by
        unfold iD
        rw [lx]
        conv => rhs; rw [← range_get (xs := p.2) (fun j => p.2.getD j (.inl 0, 0)) fun j x hx => getD_at hx]
        rw [List.map_map, List.map_map]
        rfl
      rw [e3] at r
      rw [r.unints] at e
      obtain ⟨kv5, p5, d5⟩ := (df.mono s6).put (show i < sizeLine by rw [sizeLine_eq]; omega) (.inr nm) (.int (rowSum (valF R ord (lenV ls)) p.2))
      refine ⟨D, _, rfl, SqL.of e, _, rfl, x, _, dx, _, .ref b, rfl, s6 _ _ hx5, t.c_Coded, t.n_Coded_own_bits, rfl, _, rfl, b, _, rfl, p5, ?_⟩
      refine ⟨(m5.trans (SameX.of s6)).mutN hbH, ?_, _, _, rfl, d5, fun y hy => ?_⟩
      · rw [upd_ne (Ne.symm bx)]
        exact s6 _ _ hx5
      · rw [take_snoc hnm] at hy
        by_cases c : y = nm
        · subst c
          refine (if_pos rfl).trans ?_
          rw [tx.val_name _ nmo, er]
        · refine (if_neg (fun e => c (by injection e))).trans (hf y ?_)
          rcases List.mem_append.mp hy with h | h
          · exact h
          · exact absurd (List.mem_singleton.mp h) c
    · obtain ⟨m5, hx5, u3, f, rfl, df, hf⟩ := pp
      rw [List.length_map, List.take_length] at hf
      have s5 := SameX.same hx0 s0 m5
      refine ⟨_, rfl, x, _, dx, _, .ref b, rfl, hx5, t.c_Coded, t.n_Coded_own_bits, rfl, _, rfl, xt, _, dt, _, .str root, rfl, s5 _ _ ht0, t.c_Text, t.n_Text_root, rfl, b, _, rfl, df.get (k := .inr root) (hf root ((tx.mem root).mpr tx.root)), .ref x, rfl, x, _, dx, _, rfl, hx5, t.c_Coded, t.n_Coded_size, (by decide : (3 : Nat) < 1000), ?_⟩
      exact q _ dx _ m5.mut upd_same (by with_unfolding_all rfl)
end
end WV
end
section
set_option maxRecDepth 100000
set_option maxHeartbeats 4000000
namespace WV
open PySem PySem.Spec PyProof.Rows L2
/-! ### rules that are told anew, plain -/
def nameF (n : Nat) : Str := ⟨#[65 + n]⟩
theorem nameF_inj {i j : Nat} (h : nameF i = nameF j) : i = j := by
  have h1 : (nameF i).cps.toList = (nameF j).cps.toList := by rw [h]
  have h2 : [65 + i] = [65 + j] := h1
  injection h2 with h3
  omega
theorem caps_at : ∀ i, i < 26 → capsL[i]? = some (65 + i) := by
  have h : (List.range 26).all (fun i => decide (capsL[i]? = some (65 + i))) = true := by decide +kernel
  exact fun i hi => of_decide_eq_true (List.all_eq_true.mp h i (List.mem_range.mpr hi))
theorem nameF_ok {i : Nat} (h : i < 26) : NameOk (nameF i) := by
  refine ⟨by show 1 ≤ 1; decide, by show 1 ≤ 8; decide, fun c hc => ?_⟩
  have hc' : c ∈ [65 + i] := hc
  rw [List.mem_singleton.mp hc']
  exact List.mem_of_getElem? (caps_at i h)
def rankS (s : Str) : Nat := s.cps.toList.headD 0
theorem rank_nameF (i : Nat) : rankS (nameF i) = 65 + i := rfl
def ren (P : List Str) : Key → Key
  | .inl s => .inl s
  | .inr y => if y ∈ P then .inr (nameF (P.idxOf y)) else .inr y
def renQ (P : List Str) (q : Key × Int) : Key × Int := (ren P q.1, q.2)
theorem ren_in {P : List Str} {y : Str} (h : y ∈ P) : ren P (.inr y) = .inr (nameF (P.idxOf y)) := if_pos h
theorem idx_at {P : List Str} {y : Str} (h : y ∈ P) : P[P.idxOf y]? = some y := by
  have hl := List.idxOf_lt_length_of_mem h
  rw [List.getElem?_eq_getElem hl, List.getElem_idxOf hl]
inductive MkR (R : Rules) : List Str → Rules → Prop
  | nil : MkR R [] []
  | snoc {P : List Str} {R2 : Rules} {x : Str} : MkR R P R2 → x ∉ P → (∀ q ∈ rowOf R x, ∀ y, q.1 = .inr y → y ∈ P) → MkR R (P ++ [x]) (R2 ++ [(nameF P.length, (rowOf R x).map (renQ P))])
theorem MkR.len {R : Rules} : ∀ {P : List Str} {R2 : Rules}, MkR R P R2 → R2.length = P.length
  | _, _, .nil => rfl
  | _, _, .snoc h _ _ => by rw [List.length_append, List.length_append, h.len]; rfl
theorem MkR.keys {R : Rules} : ∀ {P : List Str} {R2 : Rules}, MkR R P R2 → R2.map (fun p => p.1) = (List.range P.length).map nameF
  | _, _, .nil => rfl
  | _, _, .snoc h _ _ => by
    rw [List.map_append, h.keys, List.length_append, List.length_singleton, List.range_succ, List.map_append]
    rfl
/-- what the rows of the new rules keep -/
theorem MkR.rows {R : Rules} : ∀ {P : List Str} {R2 : Rules}, MkR R P R2 → ∀ p ∈ R2, ∃ (j : Nat) (x : Str) (P1 : List Str), x ∈ P ∧ p.1 = nameF j ∧ j < P.length ∧ P1.length = j ∧ p.2 = (rowOf R x).map (renQ P1) ∧ ∀ q ∈ rowOf R x, ∀ y, q.1 = .inr y → y ∈ P1
  | _, _, .nil, p, hp => by cases hp
  | _, _, .snoc (P := P) (x := x) h hx hn, p, hp => by
    rw [List.length_append, List.length_singleton]
    rcases List.mem_append.mp hp with hp | hp
    · obtain ⟨j, z, P1, h1, h2, h3, h4⟩ := h.rows p hp
      exact ⟨j, z, P1, List.mem_append_left _ h1, h2, by omega, h4⟩
    · rw [List.mem_singleton.mp hp]
      exact ⟨P.length, x, P, List.mem_append_right _ (List.mem_singleton.mpr rfl), rfl, by omega, rfl, rfl, hn⟩
theorem rowSum_ren {W V : Key → Int} {P : List Str} (hs : ∀ s, W (.inl s) = V (.inl s)) (hP : ∀ (j : Nat) y, P[j]? = some y → W (.inr (nameF j)) = V (.inr y)) : ∀ (r : Row), (∀ q ∈ r, ∀ y, q.1 = .inr y → y ∈ P) → rowSum W (r.map (renQ P)) = rowSum V r
  | [], _ => rfl
  | q :: r, h => by
    have ih := rowSum_ren hs hP r fun z hz => h z (List.mem_cons_of_mem _ hz)
    rw [List.map_cons, rowSum_cons, rowSum_cons, ih]
    obtain ⟨k, c⟩ := q
    have e : W (renQ P (k, c)).1 = V (k, c).1 := by
      cases k with
      | inl s => exact hs s
      | inr y =>
        have hy := h (.inr y, c) List.mem_cons_self y rfl
        show W (ren P (.inr y)) = _
        rw [ren_in hy]
        exact hP _ y (idx_at hy)
    rw [e]
    rfl
theorem MkR.val {R : Rules} {W V : Key → Int} (hs : ∀ s, W (.inl s) = V (.inl s)) {R3 : Rules} (hW : ∀ p ∈ R3, W (.inr p.1) = rowSum W p.2) :
    ∀ {P : List Str} {R2 : Rules}, MkR R P R2 → (∀ p ∈ R2, p ∈ R3) → (∀ x ∈ P, V (.inr x) = rowSum V (rowOf R x)) → ∀ (j : Nat) y, P[j]? = some y → W (.inr (nameF j)) = V (.inr y)
  | _, _, .nil, _, _, j, y, h => by simp at h
  | _, _, .snoc (P := P) (R2 := R2) (x := x) h hx hn, hsub, hV, j, y, hj => by
    have ih := h.val hs hW (fun p hp => hsub p (List.mem_append_left _ hp)) (fun x hx => hV x (List.mem_append_left _ hx))
    by_cases c : j < P.length
    · rw [List.getElem?_append_left c] at hj
      exact ih j y hj
    · have hj2 := (List.getElem?_eq_some_iff.mp hj).1
      rw [List.length_append, List.length_singleton] at hj2
      have e : j = P.length := by omega
      subst e
      rw [List.getElem?_append_right (Nat.le_refl _), Nat.sub_self] at hj
      have e2 : x = y := by simpa using hj
      subst e2
      have h1 := hW _ (hsub (nameF P.length, (rowOf R x).map (renQ P)) (List.mem_append_right _ (List.mem_singleton.mpr rfl)))
      rw [hV x (List.mem_append_right _ (List.mem_singleton.mpr rfl)), ← rowSum_ren hs ih (rowOf R x) hn]
      exact h1
section
variable {n : Int} {R : Rules} {root : Str} {ord : List Str}
/-- the new rules with their root -/
def newR (R2 : Rules) (P : List Str) (items : Row) : Rules := R2 ++ [(nameF P.length, items.map (renQ P))]
structure CutOk (n : Int) (R : Rules) (ord : List Str) (P : List Str) (R2 : Rules) (items : Row) : Prop where
  made : MkR R P R2
  sub : ∀ x ∈ P, x ∈ ord
  inP : ∀ q ∈ items, ∀ y, q.1 = .inr y → y ∈ P
  cnt : ∀ q ∈ items, (1 ≤ q.2 ∧ q.2 ≤ 1000) ∧ keyIn n ord q.1
  few : items.length ≤ 40
  lenP : P.length ≤ 24
theorem CutOk.keys {P : List Str} {R2 : Rules} {items : Row} (c : CutOk n R ord P R2 items) : (newR R2 P items).map (fun p => p.1) = (List.range (P.length + 1)).map nameF := by
  unfold newR
  rw [List.map_append, c.made.keys, List.range_succ, List.map_append]
  rfl
theorem CutOk.root_mem {P : List Str} {R2 : Rules} {items : Row} (c : CutOk n R ord P R2 items) : nameF P.length ∈ (newR R2 P items).map fun p => p.1 := by
  rw [c.keys]
  exact List.mem_map.mpr ⟨P.length, List.mem_range.mpr (by omega), rfl⟩
theorem CutOk.rows {P : List Str} {R2 : Rules} {items : Row} (tx : TxOk n R root ord) (small : ∀ p ∈ R, ∀ q ∈ p.2, q.2 ≤ 1000) (c : CutOk n R ord P R2 items) : ∀ p ∈ newR R2 P items, ∃ (j : Nat) (P1 : List Str) (r : Row), p.1 = nameF j ∧ j ≤ P.length ∧ P1.length = j ∧ p.2 = r.map (renQ P1) ∧ r.length ≤ 40 ∧ ∀ q ∈ r, (1 ≤ q.2 ∧ q.2 ≤ 1000) ∧ keyIn n ord q.1 ∧ ∀ y, q.1 = .inr y → y ∈ P1 := fun p hp => by
  rcases List.mem_append.mp hp with hp | hp
  · obtain ⟨j, x, P1, h1, h2, h3, h4, h5, h6⟩ := c.made.rows p hp
    obtain ⟨i, hi, ei⟩ := List.getElem_of_mem (c.sub x h1)
    have gi : ord[i]? = some x := by rw [List.getElem?_eq_getElem hi, ei]
    obtain ⟨p0, hp0, e0⟩ := List.mem_map.mp ((tx.mem x).mp (c.sub x h1))
    have er : rowOf R x = p0.2 := by rw [← e0]; exact rowOf_at tx.ok.nd hp0
    refine ⟨j, P1, rowOf R x, h2, by omega, h4, h5, by rw [er]; exact (tx.ok.row p0 hp0).1, fun q hq => ?_⟩
    obtain ⟨a, b⟩ := tx.rowIn gi q hq
    exact ⟨⟨a, small p0 hp0 q (by rw [← er]; exact hq)⟩, b.sub (fun z hz => List.mem_of_mem_take hz), h6 q hq⟩
  · rw [List.mem_singleton.mp hp]
    exact ⟨P.length, P, items, rfl, Nat.le_refl _, rfl, rfl, c.few, fun q hq => ⟨(c.cnt q hq).1, (c.cnt q hq).2, c.inP q hq⟩⟩
theorem CutOk.rok {P : List Str} {R2 : Rules} {items : Row} (tx : TxOk n R root ord) (small : ∀ p ∈ R, ∀ q ∈ p.2, q.2 ≤ 1000) (c : CutOk n R ord P R2 items) : ROk n (newR R2 P items) ∧ ∀ p ∈ newR R2 P items, ∀ q ∈ p.2, q.2 ≤ 1000 := by
  have lp := c.lenP
  have ln : (newR R2 P items).length = P.length + 1 := by
    unfold newR
    rw [List.length_append, c.made.len]
    rfl
  refine ⟨⟨?_, fun p hp => ?_, fun p hp => ?_, ⟨rankS, fun p hp q hq nm e => ?_⟩, by omega, by omega, tx.ok.signs⟩, fun p hp q hq => ?_⟩
  · rw [c.keys]
    refine List.pairwise_map.mpr (List.nodup_range.imp fun {a b} h e => h (nameF_inj e))
  · obtain ⟨j, P1, r, h1, h2, h3, h4, h5, h6⟩ := c.rows tx small p hp
    rw [h1]
    exact nameF_ok (by omega)
  · obtain ⟨j, P1, r, h1, h2, h3, h4, h5, h6⟩ := c.rows tx small p hp
    rw [h4, List.length_map]
    refine ⟨h5, fun q hq => ?_⟩
    obtain ⟨⟨k, z⟩, hk, rfl⟩ := List.mem_map.mp hq
    obtain ⟨a, b, d⟩ := h6 _ hk
    replace a : 1 ≤ z ∧ z ≤ 1000 := a
    replace b : keyIn n ord k := b
    refine ⟨⟨a.1, by show z ≤ _; omega⟩, ?_⟩
    cases k with
    | inl s => exact b
    | inr y =>
      have hy := d y rfl
      show partOk n _ (ren P1 (.inr y))
      rw [ren_in hy]
      show nameF (P1.idxOf y) ∈ (newR R2 P items).map fun p => p.1
      rw [c.keys]
      have := List.idxOf_lt_length_of_mem hy
      exact List.mem_map.mpr ⟨_, List.mem_range.mpr (by omega), rfl⟩
  · obtain ⟨j, P1, r, h1, h2, h3, h4, h5, h6⟩ := c.rows tx small p hp
    rw [h4] at hq
    obtain ⟨⟨k, z⟩, hk, rfl⟩ := List.mem_map.mp hq
    obtain ⟨a, b, d⟩ := h6 _ hk
    replace e : ren P1 k = .inr nm := e
    cases k with
    | inl s => cases e
    | inr y =>
      have hy := d y rfl
      rw [ren_in hy] at e
      injection e with e
      rw [← e, h1, rank_nameF, rank_nameF]
      have := List.idxOf_lt_length_of_mem hy
      omega
  · obtain ⟨j, P1, r, h1, h2, h3, h4, h5, h6⟩ := c.rows tx small p hp
    rw [h4] at hq
    obtain ⟨z, hz, rfl⟩ := List.mem_map.mp hq
    exact (h6 z hz).1.2
/-- the new root tells what the items tell -/
theorem CutOk.val {P : List Str} {R2 : Rules} {items : Row} (tx : TxOk n R root ord) (c : CutOk n R ord P R2 items) {ord3 : List Str} (tx3 : TxOk n (newR R2 P items) (nameF P.length) ord3) (g : Int → Int) :
    valF (newR R2 P items) ord3 g (.inr (nameF P.length)) = rowSum (valF R ord g) items := by
  have hs : ∀ s, valF (newR R2 P items) ord3 g (.inl s) = valF R ord g (.inl s) := fun s => by rw [valF_sign, valF_sign]
  have hW : ∀ p ∈ newR R2 P items, valF (newR R2 P items) ord3 g (.inr p.1) = rowSum (valF (newR R2 P items) ord3 g) p.2 := fun p hp => valF_name tx3.ok.nd tx3.no tx3.topo hp ((tx3.mem p.1).mpr (List.mem_map.mpr ⟨p, hp, rfl⟩))
  have key := c.made.val hs hW (fun p hp => List.mem_append_left _ hp) (fun x hx => tx.val_name g (c.sub x hx))
  rw [← rowSum_ren hs key items c.inP]
  exact hW (nameF P.length, items.map (renQ P)) (List.mem_append_right _ (List.mem_singleton.mpr rfl))
theorem rowOf_mem {x : Str} {q : Key × Int} : ∀ {R : Rules}, q ∈ rowOf R x → ∃ p ∈ R, q ∈ p.2
  | [], h => by cases h
  | p :: R, h => by
    unfold rowOf at h
    rw [List.lookup_cons] at h
    cases hz : x == p.1 with
    | true =>
      rw [hz] at h
      exact ⟨p, List.mem_cons_self, h⟩
    | false =>
      rw [hz] at h
      obtain ⟨p', h1, h2⟩ := rowOf_mem (R := R) h
      exact ⟨p', List.mem_cons_of_mem _ h1, h2⟩
theorem itRun_le {f : Key → Int} (small : ∀ x, ∀ q ∈ rowOf R x, 1 ≤ q.2 ∧ q.2 ≤ 1000) : ∀ (m : Nat) (st : Row) (left : Int), (∀ q ∈ st, 1 ≤ q.2 ∧ q.2 ≤ 1000) → ∀ q ∈ itRun f R m st left, q.2 ≤ 1000
  | 0, _, _, _, q, hq => by cases hq
  | m + 1, [], _, _, q, hq => by cases hq
  | m + 1, (k, c) :: st, left, hst, q, hq => by
    have e : itRun f R (m + 1) ((k, c) :: st) left = if left ≤ 0 then [] else
      if f k * c ≤ 0 then itRun f R m st left else
      (if 0 < min c (left / f k) then [(k, min c (left / f k))] else []) ++ itRun f R m (if min c (left / f k) < c ∧ 0 < left - min c (left / f k) * f k then keyRow R k ++ ((if 1 < c - min c (left / f k) then [(k, c - min c (left / f k) - 1)] else []) ++ st) else st) (left - min c (left / f k) * f k) := rfl
    rw [e] at hq
    have hc : 1 ≤ c ∧ c ≤ 1000 := hst (k, c) List.mem_cons_self
    have hst' : ∀ q ∈ st, 1 ≤ q.2 ∧ q.2 ≤ 1000 := fun z hz => hst z (List.mem_cons_of_mem _ hz)
    by_cases h0 : left ≤ 0
    · rw [if_pos h0] at hq
      cases hq
    rw [if_neg h0] at hq
    by_cases h1 : f k * c ≤ 0
    · rw [if_pos h1] at hq
      exact itRun_le small m st left hst' q hq
    rw [if_neg h1] at hq
    have fp : 0 < f k := by
      rcases Int.lt_or_le 0 (f k) with h | h
      · exact h
      · exact absurd (Int.mul_nonpos_of_nonpos_of_nonneg h (show 0 ≤ c by omega)) h1
    have d0 : 0 ≤ left / f k := Int.ediv_nonneg (by omega) (by omega)
    have w0 : 0 ≤ min c (left / f k) := by omega
    have wc : min c (left / f k) ≤ c := by omega
    generalize min c (left / f k) = w at hq w0 wc
    rcases List.mem_append.mp hq with hq | hq
    · split at hq
      · rw [List.mem_singleton.mp hq]
        show w ≤ 1000
        omega
      · cases hq
    · refine itRun_le small m _ _ (fun z hz => ?_) q hq
      split at hz
      · rcases List.mem_append.mp hz with hz | hz
        · cases k with
          | inl s => cases hz
          | inr x => exact small x z hz
        · rcases List.mem_append.mp hz with hz | hz
          · split at hz
            · rw [List.mem_singleton.mp hz]
              show 1 ≤ c - w - 1 ∧ c - w - 1 ≤ 1000
              omega
            · cases hz
          · exact hst' z hz
      · exact hst' z hz
theorem items_le (tx : TxOk n R root ord) (small : ∀ p ∈ R, ∀ q ∈ p.2, q.2 ≤ 1000) (many : Int) : ∀ q ∈ itemsF R root ord many, q.2 ≤ 1000 := by
  refine itRun_le (fun x q hq => ?_) _ _ _ fun q hq => ?_
  · obtain ⟨p, h1, h2⟩ := rowOf_mem hq
    exact ⟨((tx.ok.row p h1).2 q h2).1.1, small p h1 q h2⟩
  · rw [List.mem_singleton.mp hq]
    exact ⟨Int.le_refl 1, by show (1 : Int) ≤ 1000; decide⟩
end
end WV
end
section
set_option maxRecDepth 100000
set_option maxHeartbeats 4000000
namespace WV
open PySem PySem.Spec PyProof.Rows L2
theorem nameF_cat (c : Nat) : (⟨#[c]⟩ : Str) ++ (Str.ofString "") = ⟨#[c]⟩ := by
  with_unfolding_all rfl
def mkF (n : Int) (d : Addr) : List (Str × V) := [("signs", .int n), ("own_rules", .ref d)]
section
variable {K : PySem.W.Frag} {H H' : Hp} {d : Addr} {kvs : List (Key × V)}
theorem SameX.seqD {a : Addr} {xs : List V} (s : SameX d H H') (hd : H d = some (.dK kvs)) (h : SqL K H a xs) : SqL K H' a xs := by
  rcases h with (h | ⟨u, h⟩) | h
  · exact .inl (.inl (s _ _ (fun e => by rw [e, hd] at h; cases h) h))
  · exact .inl (.inr ⟨u, s _ _ (fun e => by rw [e, hd] at h; cases h) h⟩)
  · exact .inr h
theorem SameX.tupD {a : Addr} {xs : List V} (s : SameX d H H') (hd : H d = some (.dK kvs)) (h : SqT K H a xs) : SqT K H' a xs := by
  rcases h with (h | ⟨u, h⟩) | h
  · exact .inl (.inl (s _ _ (fun e => by rw [e, hd] at h; cases h) h))
  · exact .inl (.inr ⟨u, s _ _ (fun e => by rw [e, hd] at h; cases h) h⟩)
  · exact .inr h
mutual
theorem Rp.sameD (s : SameX d H H') (hd : H d = some (.dK kvs)) : ∀ {v : V} {e : Dat}, Rp K H v e → Rp K H' v e
  | _, .v _, .v _ => .v _
  | _, .L _, .L q r => .L (s.seqD hd q) (RpA.sameD s hd r)
  | _, .T _, .T q r => .T (s.tupD hd q) (RpA.sameD s hd r)
theorem RpA.sameD (s : SameX d H H') (hd : H d = some (.dK kvs)) : ∀ {vs : List V} {es : List Dat}, RpA K H vs es → RpA K H' vs es
  | _, [], .nil => .nil
  | _, _ :: _, .cons q r => .cons (Rp.sameD s hd q) (RpA.sameD s hd r)
end
end
section
variable {P : Program} {w : World} {K : PySem.W.Frag} {mg : Str → Option Value} {base : Heap}
theorem sc_name_of : FnScope ["number", "found", "left"] ["number"] (defScope s_name_of) := ⟨rfl, rfl, rfl, by decide +kernel, rfl, by decide +kernel, by decide +kernel⟩
def sp_name_of : Sp := fun vs H Q _ => ∃ n : Nat, vs = [.int n] ∧ n < 26 ∧ ∀ H', Same H H' → Q (.str (nameF n)) H'
theorem ok_name_of (t : T K mg) : Okf P w K mg base 1 ("name_of", none) ["number"] [] sp_name_of := by
  refine okf (d := d_name_of) t 58 rfl rfl sc_name_of (fun _ _ _ _ _ _ us hl => match us, hl with | [_], _ => rfl) (fun vs H Q E h => ?_) (fun cdv A outer s H vs Q E hr h => ?_)
  · obtain ⟨n, rfl, _⟩ := h
    rfl
  · obtain ⟨n, rfl, hn, q⟩ := h
    refine ⟨_, (pss_cons (ps_par (i := 1) (j := 2) rfl sc_name_of.nd rfl rfl (by decide) rfl rfl (pa_cons pe_str (pa_cons (pe_op op_add (pv 0) pe_int) pa_nil)) (by rfl))
      (pss_cons (ps_while PassesOwn.never (pt_cmpR op_gt (pv 2) pe_int (nomark _))
        (pss_cons (ps_set (i := 1) sc_name_of.nd rfl (.inl rfl) (pe_op op_add_str (pe_ix ix_str (pe_k t.i_CAPITALS) (pe_op op_mod (pe_callTy call_int1 (by rfl) t.b_int bt_int (pa_cons (pe_op op_sub (pv 2) pe_int) pa_nil)) pe_int) (fun _ _ => rfl)) (pv 1)))
        (pss_one (ps_set (i := 2) sc_name_of.nd rfl (.inl rfl) (pe_op op_fdiv (pe_op op_sub (pv 2) pe_int) pe_int)))))
      (pss_one (ps_ret (pv 1))))), ?_⟩
    refine ⟨_, rfl, _, _, rfl, rfl, _, _, rfl, ?_⟩
    refine ⟨fun k σ H' => H' = H ∧ ((k = 1 ∧ σ = [some (.int n), some (.str (Str.ofString "")), some (.int (n + 1))]) ∨ (k = 0 ∧ σ = [some (.int n), some (.str (nameF n)), some (.int 0)])), ⟨1, rfl, .inl ⟨rfl, rfl⟩⟩, ?_⟩
    rintro k σ H3 ⟨rfl, ⟨rfl, rfl⟩ | ⟨rfl, rfl⟩⟩
    · refine ⟨_, rfl, _, 0, rfl, rfl, true, congrArg V.bl (decide_eq_true (by omega)), iteT ⟨fun σ' H' => ∃ m', m' < 1 ∧ (H' = H3 ∧ ((m' = 1 ∧ σ' = [some (.int n), some (.str (Str.ofString "")), some (.int (n + 1))]) ∨ (m' = 0 ∧ σ' = [some (.int n), some (.str (nameF n)), some (.int 0)]))), fun _ _ h => h, ?_⟩⟩
      have e1 : ((n : Int) + 1 - 1) % 26 = (n : Nat) := by omega
      have e2 : ((n : Int) + 1 - 1) / 26 = 0 := by omega
      refine ⟨_, rfl, _, _, rfl, rfl, .inl ⟨_, rfl, _, _, rfl, rfl, (by decide : (0 : Int) < 26), _, _, 65 + n, rfl, rfl, by show 26 ≤ sizeLine; decide, ?_, _, rfl, _, _, rfl, rfl, by show 1 + 0 ≤ sizeLine; decide, _, rfl, _, _, rfl, rfl, _, _, rfl, rfl, ⟨by decide, by decide⟩, ?_⟩⟩
      · rw [e1]
        exact atI_nat (caps_at n hn)
      · refine ⟨0, by decide, rfl, .inr ⟨rfl, ?_⟩⟩
        show [some (V.int n), some (V.str ((⟨#[65 + n]⟩ : Str) ++ Str.ofString "")), some (V.int (((n : Int) + 1 - 1) / 26))] = _
        rw [e2, nameF_cat]
        rfl
    · exact ⟨_, rfl, _, 0, rfl, rfl, false, rfl, iteF ⟨_, rfl, q _ (Same.refl _)⟩⟩
theorem sc_Maker_init : FnScope ["self", "signs"] ["self", "signs"] (defScope s_Maker_init) := ⟨rfl, rfl, rfl, by decide +kernel, rfl, by decide +kernel, by decide +kernel⟩
def sp_Maker (K : PySem.W.Frag) : Sp := fun vs H Q _ => ∃ (x dx : Addr) (n : Int), vs = [.ref x, .int n] ∧ H x = some (.ins (He.ga K "Maker") dx []) ∧ ∀ H' d dx, SameX x H H' → H d = none → d ≠ x → H' x = some (.ins (He.ga K "Maker") dx (mkF n d)) → H' d = some (.dK []) → Q .non H'
theorem ok_Maker (t : T K mg) : Okf P w K mg base 1 ("Maker", some "__init__") ["self", "signs"] [] (sp_Maker K) := by
  refine okf (d := d_Maker_init) t 59 rfl rfl sc_Maker_init (fun _ _ _ _ _ _ us hl => match us, hl with | [_, _], _ => rfl) (fun vs H Q E h => ?_) (fun cdv A outer s H vs Q E hr h => ?_)
  · obtain ⟨x, dx, n, rfl, _⟩ := h
    rfl
  · obtain ⟨x, dx, n, rfl, hx, q⟩ := h
    have hu := hu_of hr
    refine ⟨_, (pss_cons (ps_fld (pv 0) (pv 1) rfl)
      (pss_one (ps_fld (pv 0) pe_dnewK rfl))), ?_⟩
    refine ⟨_, rfl, .ref x, rfl, x, _, dx, _, rfl, hx, t.c_Maker, t.n_Maker_signs, (by decide : (0 : Nat) < 1000), ?_⟩
    have m1 := (SameX.refl H).mut (x := x) (o := .ins (He.ga K "Maker") dx (putF "signs" (.int n) []))
    have hx1 : (upd H x (.ins (He.ga K "Maker") dx (putF "signs" (.int n) []))) x = some (.ins (He.ga K "Maker") dx (putF "signs" (.int n) [])) := upd_same
    generalize upd H x (.ins (He.ga K "Maker") dx (putF "signs" (.int n) [])) = H1 at m1 hx1
    intro d hd
    have s3 := Same.new (o := .dK []) hd
    have bx : d ≠ x := fun e => by rw [e, hx1] at hd; cases hd
    have hdH : H d = none := by
      cases h : H d with
      | none => rfl
      | some o => rw [m1 d o bx h] at hd; cases hd
    have hd3 : (upd H1 d (.dK [])) d = some (.dK []) := upd_same
    have hx3 := s3 _ _ hx1
    have m3 := m1.trans (SameX.of s3)
    generalize upd H1 d (.dK []) = H3 at hd3 hx3 m3
    refine ⟨.ref x, rfl, x, _, dx, _, rfl, hx3, t.c_Maker, t.n_Maker_own_rules, (by decide : (1 : Nat) < 1000), ?_⟩
    refine q _ d dx m3.mut hdH bx upd_same ?_
    rw [upd_ne bx]
    exact hd3
theorem sc_Maker_add_rule : FnScope ["self", "items", "name"] ["self", "items"] (defScope s_Maker_add_rule) := ⟨rfl, rfl, rfl, by decide +kernel, rfl, by decide +kernel, by decide +kernel⟩
def sp_add_rule (K : PySem.W.Frag) : Sp := fun vs H Q _ => ∃ (x dx d L : Addr) (n : Int) (kvs : List (Key × V)) (ys : List V), vs = [.ref x, .ref L] ∧ H x = some (.ins (He.ga K "Maker") dx (mkF n d)) ∧ H d = some (.dK kvs) ∧ SqL K H L ys ∧ kvs.length < 26 ∧ valV kvs (.inr (nameF kvs.length)) = none ∧
  ∀ H' T, SameX d H H' → SqT K H' T ys → H' d = some (.dK (kvs ++ [(.inr (nameF kvs.length), .ref T)])) → Q (.str (nameF kvs.length)) H'
theorem ok_add_rule (t : T K mg) : Okf P w K mg base 2 ("Maker", some "add_rule") ["self", "items"] [] (sp_add_rule K) := by
  have O_name_of := ok_name_of (P := P) (w := w) (base := base) t
  refine okf (d := d_Maker_add_rule) t 60 rfl rfl sc_Maker_add_rule (fun _ _ _ _ _ _ us hl => match us, hl with | [_, _], _ => rfl) (fun vs H Q E h => ?_) (fun cdv A outer s H vs Q E hr h => ?_)
  · obtain ⟨x, dx, d, L, n, kvs, ys, rfl, _⟩ := h
    rfl
  · obtain ⟨x, dx, d, L, n, kvs, ys, rfl, hx, hd, hL, h26, hne, q⟩ := h
    have hu := hu_of hr
    refine ⟨_, (pss_cons (ps_set (i := 2) sc_Maker_add_rule.nd rfl (.inl rfl) (pe_f O_name_of (hr.mono (by decide)) t.g_name_of (pa_cons (pe_callB call_lenD (by rfl) t.b_len bt_len (pa_cons (pe_fld (pv 0) rfl) pa_nil)) pa_nil)))
      (pss_cons (ps_dput hu (pe_fld (pv 0) rfl) (pv 2) (pe_callTy call_tuple_of (by rfl) t.b_tuple bt_tuple (pa_cons (pv 1) pa_nil)) rfl)
      (pss_one (ps_ret (pv 2))))), ?_⟩
    refine ⟨_, rfl, x, _, dx, _, .ref d, rfl, hx, t.c_Maker, t.n_Maker_own_rules, rfl, d, kvs, rfl, hd, kvs.length, rfl, h26, fun H1 s1 => ?_⟩
    refine ⟨_, rfl, L, ys, rfl, .inl ⟨s1.seq hL, fun T hT => ?_⟩⟩
    have s2 := Same.new (o := .tup ys) hT
    have eT : (upd H1 T (.tup ys)) T = some (.tup ys) := upd_same
    have s12 := s1.trans s2
    generalize upd H1 T (.tup ys) = H2 at s2 eT s12
    have hd2 := s12 _ _ hd
    refine ⟨_, rfl, x, _, dx, _, .ref d, rfl, s12 _ _ hx, t.c_Maker, t.n_Maker_own_rules, rfl, _, rfl, d, _, rfl, DPut.k (k := .inr (nameF kvs.length)) hd2 (by rw [sizeLine_eq]; omega), ?_⟩
    refine ⟨_, rfl, q _ T ((SameX.of s12).mut) (SqT.updD hd2 (SqT.of eT)) ?_⟩
    rw [upd_same, putK_new _ hne]
theorem sc_check_stretch : FnScope ["text", "first", "many"] ["text", "first", "many"] (defScope s_check_stretch) := ⟨rfl, rfl, rfl, by decide +kernel, rfl, by decide +kernel, by decide +kernel⟩
def sp_check_stretch (K : PySem.W.Frag) : Sp := fun vs H Q _ => ∃ (x : Addr) (many n : Int) (R : Rules) (root : Str) (ord : List Str), vs = [.ref x, .int 0, .int many] ∧ TextAt K H (.ref x) n R root ord ∧ 0 ≤ many ∧ many ≤ sizes R ord (.inr root) ∧ Q .non H
theorem ok_check_stretch (t : T K mg) : Okf P w K mg base 2 ("check_stretch", none) ["text", "first", "many"] [] (sp_check_stretch K) := by
  have O_is_from := ok_is_from (P := P) (w := w) (base := base) t
  refine okf (d := d_check_stretch) t 63 rfl rfl sc_check_stretch (fun _ _ _ _ _ _ us hl => match us, hl with | [_, _, _], _ => rfl) (fun vs H Q E h => ?_) (fun cdv A outer s H vs Q E hr h => ?_)
  · obtain ⟨x, many, n, R, root, ord, rfl, _⟩ := h
    rfl
  · obtain ⟨x, many, n, R, root, ord, rfl, tt, m0, m1, q⟩ := h
    have hu := hu_of hr
    refine ⟨_, (pss_cons (ps_if (pt_not (pt_val (pe_f O_is_from (hr.mono (by decide)) t.g_is_from (pa_cons (pv 1) (pa_cons pe_int (pa_cons (pe_fld (pv 0) rfl) pa_nil))))))
        (pss_one ps_never)
        pss_nil)
      (pss_one (ps_if (pt_not (pt_val (pe_f O_is_from (hr.mono (by decide)) t.g_is_from (pa_cons (pv 2) (pa_cons pe_int (pa_cons (pe_op op_sub (pe_fld (pv 0) rfl) (pv 1)) pa_nil))))))
        (pss_one ps_never)
        pss_nil))), ?_⟩
    obtain ⟨x', dx, oo, dr, ds, dp, kvs, ex, hx, ho, hdr, hR, lk⟩ := tt.ex
    injection ex with ex
    subst ex
    refine ⟨_, rfl, _, rfl, x, _, dx, _, _, rfl, hx, t.c_Text, t.n_Text_size, rfl, 0, 0, _, rfl, ⟨by decide, by omega⟩, true, rfl, iteF ?_⟩
    exact ⟨_, rfl, _, rfl, x, _, dx, _, _, rfl, hx, t.c_Text, t.n_Text_size, rfl, _, rfl, _, _, rfl, rfl, many, 0, _, rfl, ⟨m0, by omega⟩, true, rfl, iteF q⟩
theorem sc_Maker_text_of : FnScope ["self", "items", "row", "chunks", "root", "at", "chunk"] ["self", "items"] (defScope s_Maker_text_of) := ⟨rfl, rfl, rfl, by decide +kernel, rfl, by decide +kernel, by decide +kernel⟩
def sp_text_of (K : PySem.W.Frag) : Sp := fun vs H Q _ => ∃ (x dx d L : Addr) (n : Int) (kvs : List (Key × V)) (ys : List V) (R2 : Rules) (items : Row), vs = [.ref x, .ref L] ∧ H x = some (.ins (He.ga K "Maker") dx (mkF n d)) ∧ H d = some (.dK kvs) ∧ RulesAt K H d false R2 ∧ SqL K H L ys ∧ RpA K H ys (rowP items) ∧ items.length ≤ 40 ∧ kvs.length < 26 ∧ valV kvs (.inr (nameF kvs.length)) = none ∧
  ROk n (R2 ++ [(nameF kvs.length, items)]) ∧ (∀ p ∈ R2 ++ [(nameF kvs.length, items)], ∀ q ∈ p.2, q.2 ≤ 1000) ∧
  ∀ H' v ord3, SameX d H H' → TextAt K H' v n (R2 ++ [(nameF kvs.length, items)]) (nameF kvs.length) ord3 → TxOk n (R2 ++ [(nameF kvs.length, items)]) (nameF kvs.length) ord3 → Q v H'
theorem ok_text_of (t : T K mg) : Okf P w K mg base 8 ("Maker", some "text_of") ["self", "items"] [] (sp_text_of K) := by
  have O_Maker_add_rule := ok_add_rule (P := P) (w := w) (base := base) t
  have O_Text_init := ok_Text (P := P) (w := w) (base := base) t
  refine okf (d := d_Maker_text_of) t 62 rfl rfl sc_Maker_text_of (fun _ _ _ _ _ _ us hl => match us, hl with | [_, _], _ => rfl) (fun vs H Q E h => ?_) (fun cdv A outer s H vs Q E hr h => ?_)
  · obtain ⟨x, dx, d, L, n, kvs, ys, R2, items, rfl, _⟩ := h
    rfl
  · obtain ⟨x, dx, d, L, n, kvs, ys, R2, items, rfl, hx, hd, hR, hL, hys, few, h26, hne, rok, small, q⟩ := h
    have hu := hu_of hr
    have ly : ys.length = items.length := by rw [hys.len, rowP_len]
    refine ⟨_, (pss_cons (ps_set (i := 2) sc_Maker_text_of.nd rfl (.inr rfl) (pe_callTy call_list_of (by rfl) t.b_list bt_list (pa_cons (pv 1) pa_nil)))
      (pss_cons (ps_while PassesOwn.never (pt_cmpR op_gt (pe_callB call_len_seq (by rfl) t.b_len bt_len (pa_cons (pv 2) pa_nil)) (pe_k t.i_MOST_ITEMS) (nomark _))
        (pss_cons ps_never (pss_one ps_never)))
      (pss_cons (ps_set (i := 4) sc_Maker_text_of.nd rfl (.inl rfl) (pe_mf O_Maker_add_rule (hr.mono (by decide)) (pv 0) t.c_Maker t.h_Maker_add_rule (pa_cons (pv 2) pa_nil)))
      (pss_cons (ps_if (pt_cmpR op_gt (pe_callB call_lenD (by rfl) t.b_len bt_len (pa_cons (pe_fld (pv 0) rfl) pa_nil)) (pe_k t.i_MOST_RULES) (nomark _))
        (pss_one ps_never)
        pss_nil)
      (pss_one (ps_ret (pe_mkf O_Text_init t.m_Text (hr.mono (by decide)) t.g_Text (pa_cons (pe_fld (pv 0) rfl) (pa_cons (pe_fld (pv 0) rfl) (pa_cons (pv 4) pa_nil)))))))))), ?_⟩
    refine ⟨_, rfl, L, ys, rfl, .inl hL, fun M hM => ?_⟩
    have s1 := Same.new (o := .lst ys) hM
    have eM : (upd H M (.lst ys)) M = some (.lst ys) := upd_same
    generalize upd H M (.lst ys) = H1 at s1 eM
    refine ⟨fun k σ H' => H' = H1 ∧ σ = [some (.ref x), some (.ref L), some (.ref M), none, none, none, none], ⟨0, rfl, rfl⟩, ?_⟩
    rintro k σ H1 ⟨rfl, rfl⟩
    refine ⟨_, rfl, M, ys, rfl, .inl (SqL.of eM), _, 40, rfl, rfl, false, congrArg V.bl (decide_eq_false (by omega)), iteF ?_⟩
    refine ⟨_, rfl, x, dx, _, rfl, s1 _ _ hx, by rfl, _, rfl, x, dx, d, M, n, kvs, ys, rfl, s1 _ _ hx, s1 _ _ hd, SqL.of eM, h26, hne, fun H2 T m2 hT hd2 => ?_⟩
    have m12 := (SameX.of (x := d) s1).trans m2
    have hx2 := m12 _ _ (fun e => by rw [e, hd] at hx; cases hx) hx
    obtain ⟨ek, er⟩ := hR.kvs hd
    have lk : kvs.length = R2.length := by
      have := congrArg List.length ek
      rw [List.length_map, List.length_map] at this
      exact this
    have hR3 : RulesAt K H2 d false (R2 ++ [(nameF kvs.length, items)]) := by
      refine ⟨_, .inl hd2, ?_, ?_⟩
      · rw [List.map_append, List.map_append, ek]
        rfl
      · rw [List.map_append, List.map_append]
        exact (RpA.sameD m12 hd er).append (.cons (.T hT (RpA.sameD m12 hd hys)) .nil)
    refine ⟨_, rfl, x, _, dx, _, .ref d, rfl, hx2, t.c_Maker, t.n_Maker_own_rules, rfl, d, _, rfl, hd2, _, 2000, rfl, rfl, false, congrArg V.bl (decide_eq_false (by rw [List.length_append, List.length_singleton]; omega)), iteF ?_⟩
    refine ⟨_, rfl, x, _, dx, _, .int n, rfl, hx2, t.c_Maker, t.n_Maker_signs, rfl, _, rfl, x, _, dx, _, .ref d, rfl, hx2, t.c_Maker, t.n_Maker_own_rules, rfl, _, rfl, fun y dy hy hdy hyne => ?_⟩
    have sN : Same H2 (upd (upd H2 dy (.own y)) y (.ins (He.ga K "Text") dy [])) := (Same.new hdy).mut hy
    refine ⟨y, dy, d, n, _, false, _, _, H2, rfl, upd_same, sN, hy, hd2, hR3, rok, small, List.mem_map.mpr ⟨_, List.mem_append_right _ (List.mem_singleton.mpr rfl), rfl⟩, fun H5 ord3 m5 tt3 tx3 => ⟨rfl, q H5 _ ord3 (fun b o hb h => ?_) tt3 tx3⟩⟩
    have h2 := m12 b o hb h
    exact m5 b o (fun e => by rw [e, hy] at h2; cases h2) (sN b o h2)
end
end WV
end
section
set_option maxRecDepth 100000
set_option maxHeartbeats 4000000
namespace WV
open PySem PySem.Spec PyProof.Rows L2
theorem merge_true {y : Str} : ∀ {S2 : List Str} {kvs : List (Key × V)}, (valV (mergeK kvs (trueD S2)) (.inr y)).isSome = true ↔ (valV kvs (.inr y)).isSome = true ∨ y ∈ S2
  | [], kvs => ⟨fun h => .inl h, fun h => h.resolve_right List.not_mem_nil⟩
  | z :: S2, kvs => by
    have ih := merge_true (y := y) (S2 := S2) (kvs := putK kvs (.inr z) (.bl true))
    show (valV (mergeK (putK kvs (.inr z) (.bl true)) (trueD S2)) (.inr y)).isSome = true ↔ _
    rw [ih, valV_put]
    by_cases c : y = z
    · subst c
      rw [if_pos rfl]
      exact ⟨fun _ => .inr List.mem_cons_self, fun _ => .inl rfl⟩
    · rw [if_neg (fun e => c (by injection e))]
      constructor
      · rintro (h | h)
        · exact .inl h
        · exact .inr (List.mem_cons_of_mem _ h)
      · rintro (h | h)
        · exact .inl h
        · rcases List.mem_cons.mp h with h | h
          · exact absurd h c
          · exact .inr h
theorem ren_snoc {P : List Str} {x : Str} (hx : x ∉ P) (k : Key) : ren (P ++ [x]) k = if k = .inr x then .inr (nameF P.length) else ren P k := by
  cases k with
  | inl s => rw [if_neg (fun h => by cases h)]; rfl
  | inr y =>
    by_cases c : y = x
    · subst c
      rw [if_pos rfl, ren_in (List.mem_append_right _ (List.mem_singleton.mpr rfl)), List.idxOf_append, if_neg hx]
      simp
    · rw [if_neg (fun e => c (by injection e))]
      by_cases m : y ∈ P
      · rw [ren_in m, ren_in (List.mem_append_left _ m), List.idxOf_append, if_pos m]
      · have m2 : y ∉ P ++ [x] := fun h => by
          rcases List.mem_append.mp h with h | h
          · exact m h
          · exact c (List.mem_singleton.mp h)
        show (if y ∈ P ++ [x] then _ else _) = if y ∈ P then _ else _
        rw [if_neg m, if_neg m2]
section
variable {K : PySem.W.Frag} {H H' : Hp} {d : Addr} {kvs : List (Key × V)}
theorem DF.sameX {a : Addr} {m : Nat} {f : Key → Option V} (s : SameX d H H') (ne : a ≠ d) (h : DF H a m f) : DF H' a m f := let ⟨kv, h1, h2, h3⟩ := h.ex; ⟨kv, s _ _ ne h1, h2, h3⟩
theorem RulesAt.snoc {R2 : Rules} {T : Addr} {nm : Str} {ys : List V} {items : Row} (hR : RulesAt K H d false R2) (hd : H d = some (.dK kvs)) (m : SameX d H H') (hd2 : H' d = some (.dK (kvs ++ [(.inr nm, .ref T)]))) (hT : SqT K H' T ys) (hys : RpA K H ys (rowP items)) : RulesAt K H' d false (R2 ++ [(nm, items)]) := by
  obtain ⟨ek, er⟩ := hR.kvs hd
  refine ⟨_, .inl hd2, ?_, ?_⟩
  · rw [List.map_append, List.map_append, ek]
    rfl
  · rw [List.map_append, List.map_append]
    exact (RpA.sameD m hd er).append (.cons (.T hT (RpA.sameD m hd hys)) .nil)
theorem RulesAt.fresh {R R2 : Rules} {P : List Str} (hR : RulesAt K H d false R2) (hd : H d = some (.dK kvs)) (mk : MkR R P R2) : kvs.length = P.length ∧ valV kvs (.inr (nameF P.length)) = none := by
  obtain ⟨ek, er⟩ := hR.kvs hd
  have lk : kvs.length = R2.length := by
    have := congrArg List.length ek
    rw [List.length_map, List.length_map] at this
    exact this
  refine ⟨by rw [lk, mk.len], ?_⟩
  cases h : valV kvs (.inr (nameF P.length)) with
  | none => rfl
  | some v =>
    exfalso
    have h1 := valV_in h
    have h2 : kvs.map (fun p => p.1) = (R2.map fun p => p.1).map Sum.inr := by
      rw [List.map_map]
      exact ek
    rw [h2, mk.keys, List.map_map] at h1
    obtain ⟨j, hj, e⟩ := List.mem_map.mp h1
    have hj2 := List.mem_range.mp hj
    have e2 : (Sum.inr (nameF j) : Key) = .inr (nameF P.length) := e
    injection e2 with e2
    have := nameF_inj e2
    omega
end
section
variable {P : Program} {w : World} {K : PySem.W.Frag} {mg : Str → Option Value} {base : Heap}
theorem sc_Maker_add_text : FnScope ["self", "text", "items", "below", "part", "count", "names", "name", "row"] ["self", "text", "items"] (defScope s_Maker_add_text) := ⟨rfl, rfl, rfl, by decide +kernel, rfl, by decide +kernel, by decide +kernel⟩
def sp_add_text (K : PySem.W.Frag) : Sp := fun vs H Q _ => ∃ (x dx d xt L : Addr) (n : Int) (R : Rules) (root : Str) (ord : List Str) (ys : List V) (items : Row) (H0 : Hp), vs = [.ref x, .ref xt, .ref L] ∧ H x = some (.ins (He.ga K "Maker") dx (mkF n d)) ∧ H d = some (.dK []) ∧ Same H0 H ∧ H0 d = none ∧ TextAt K H0 (.ref xt) n R root ord ∧ TxOk n R root ord ∧ R.length ≤ 20 ∧ SqL K H L ys ∧ RpA K H ys (rowP items) ∧ items.length ≤ 40 ∧ (∀ q ∈ items, keyIn n ord q.1) ∧
  ∀ H' D zs Pn R2 kvs, SameX d H H' → SqL K H' D zs → RpA K H' zs (rowP (items.map (renQ Pn))) → H' d = some (.dK kvs) → RulesAt K H' d false R2 → MkR R Pn R2 → (∀ x ∈ Pn, x ∈ ord) → (∀ q ∈ items, ∀ y, q.1 = .inr y → y ∈ Pn) → Pn.length ≤ 20 → Q (.ref D) H'
theorem ok_add_text (t : T K mg) : Okf P w K mg base 3 ("Maker", some "add_text") ["self", "text", "items"] [] (sp_add_text K) := by
  have O_Maker_add_rule := ok_add_rule (P := P) (w := w) (base := base) t
  have O_names_below := ok_names_below (P := P) (w := w) (base := base) t
  refine okf (d := d_Maker_add_text) t 61 rfl rfl sc_Maker_add_text (fun _ _ _ _ _ _ us hl => match us, hl with | [_, _, _], _ => rfl) (fun vs H Q E h => ?_) (fun cdv A outer s H vs Q E hr h => ?_)
  · obtain ⟨x, dx, d, xt, L, n, R, root, ord, ys, items, H0, rfl, _⟩ := h
    rfl
  · obtain ⟨x, dx, d, xt, L, n, R, root, ord, ys, items, H0, rfl, hx, hd, s0, hd0, tt, tx, l20, hL, hys, few, hin, q⟩ := h
    have hu := hu_of hr
    have ly : ys.length = items.length := by rw [hys.len, rowP_len]
    obtain ⟨xt', dt, oo, dr, ds, dp, kvT, ex, ht0, ho0, hdr0, hR0, lk⟩ := tt.ex
    injection ex with ex
    subst ex
    have lord : ord.length ≤ R.length := by
      have h1 := nodup_len ord (R.map fun p => p.1) tx.no (fun x hx => (tx.mem x).mp hx)
      rw [List.length_map] at h1
      omega
    have xd : x ≠ d := fun e => by rw [e, hd] at hx; cases hx
    refine ⟨_, (pss_cons (ps_set (i := 3) sc_Maker_add_text.nd rfl (.inl rfl) pe_dnewK)
      (pss_cons (ps_for PassesOwn.never rfl (pi_list (pv 2)) (pg_tup rfl (pgs_cons (pg_name (i := 4) sc_Maker_add_text.nd rfl (.inl rfl)) (pgs_cons (pg_name (i := 5) sc_Maker_add_text.nd rfl (.inl rfl)) pgs_nil)))
        (pss_one (ps_if (PW.pt (pw_and (pt_val (pe_callB call_isi (by rfl) t.b_isinstance bt_isinstance (pa_cons (pv 4) (pa_cons (pe_bt t.b_str bt_str) pa_nil)))) (pw_and1 (pt_cmp (pc_dnotin hu (pv 4) (pv 3))))))
          (pss_cons (ps_dput hu (pv 3) (pv 4) pe_bl rfl)
          (pss_one (ps_expr (pe_bm PySem.F.plainAttrs_dict PySem.F.slot_dict_update PySem.F.type_dict_update mt_dupdate (pv 3) (pa_cons (pe_f O_names_below (hr.mono (by decide)) t.g_names_below (pa_cons (pe_fld (pv 1) rfl) (pa_cons (pv 4) pa_nil))) pa_nil)))))
          pss_nil)))
      (pss_cons (ps_set (i := 6) sc_Maker_add_text.nd rfl (.inr rfl) pe_dnewK)
      (pss_cons (ps_for PassesOwn.never rfl (pi_list (pe_fld (pv 1) rfl)) (pg_name (i := 7) sc_Maker_add_text.nd rfl (.inl rfl))
        (pss_one (ps_if (pt_cmp (pc_din hu (pv 7) (pv 3)))
          (pss_cons (ps_setLc (i := 8) (own := [("part", 4), ("count", 5)]) (g := gTup K 2 (gCons (gName 4) (gCons (gName 5) gNil))) (tt := tYes) rfl sc_Maker_add_text.nd rfl rfl (sw_true rfl rfl rfl (by decide +kernel)) (pi_tup (pe_dget hu (pe_fld (pv 1) rfl) (pv 7) (fun _ _ => rfl))) (blkOk_by (own := [("part", 4), ("count", 5)]) (N := ["self", "text", "items", "below", "part", "count", "names", "name", "row"]) (sc := defScope s_Maker_add_text) (by decide +kernel)) (fun _ _ _ _ _ => (pg_tup rfl (pgs_cons (pg_name (i := 4) sc_Maker_add_text.nd rfl (.inl rfl)) (pgs_cons (pg_name (i := 5) sc_Maker_add_text.nd rfl (.inl rfl)) pgs_nil)))) (fun _ _ _ _ _ => pts_nil) (fun _ _ _ _ _ => (pe_tup (pa_cons (pe_dget2 hu (pv 6) (pv 4) (pv 4) ⟨by rfl, by rfl, by rfl, by rfl⟩) (pa_cons (pv 5) pa_nil)))))
          (pss_one (ps_dput hu (pv 6) (pv 7) (pe_mf O_Maker_add_rule (hr.mono (by decide)) (pv 0) t.c_Maker t.h_Maker_add_rule (pa_cons (pv 8) pa_nil)) rfl)))
          pss_nil)))
      (pss_one (ps_ret (pe_lc (own := [("part", 4), ("count", 5)]) (g := gTup K 2 (gCons (gName 4) (gCons (gName 5) gNil))) (tt := tYes) rfl sc_Maker_add_text.nd (pi_list (pv 2)) (blkOk_by (own := [("part", 4), ("count", 5)]) (N := ["self", "text", "items", "below", "part", "count", "names", "name", "row"]) (sc := defScope s_Maker_add_text) (by decide +kernel)) (fun _ _ _ _ _ => (pg_tup rfl (pgs_cons (pg_name (i := 4) sc_Maker_add_text.nd rfl (.inl rfl)) (pgs_cons (pg_name (i := 5) sc_Maker_add_text.nd rfl (.inl rfl)) pgs_nil)))) (fun _ _ _ _ _ => pts_nil) (fun _ _ _ _ _ => (pe_tup (pa_cons (pe_dget2 hu (pv 6) (pv 4) (pv 4) ⟨by rfl, by rfl, by rfl, by rfl⟩) (pa_cons (pv 5) pa_nil))))))))))), ?_⟩
    intro Bd hBd
    have s1 := Same.new (o := .dK []) hBd
    have d1 : DF (upd H Bd (.dK [])) Bd 0 fun _ => none := DF.nil
    generalize upd H Bd (.dK []) = H1 at s1 d1
    have Bdd : Bd ≠ d := fun e => by rw [e, hd] at hBd; cases hBd
    refine ⟨_, rfl, L, rfl, ⟨_, s1.seq hL⟩, ?_⟩
    refine for_it (walk_list (xs := ys)) (fun i σ H' => Same H H' ∧ ∃ (u4 u5 : Option V) (S : List Str) (f : Key → Option V), σ = [some (.ref x), some (.ref xt), some (.ref L), some (.ref Bd), u4, u5, none, none, none] ∧ DF H' Bd (51 * i) f ∧ (∀ y, (f (.inr y)).isSome = true ↔ y ∈ S) ∧ Clo R S [] ∧ (∀ q ∈ items.take i, ∀ y, q.1 = .inr y → y ∈ S))
      ⟨s1, none, none, [], _, rfl, d1, fun y => ⟨fun h => absurd h Bool.false_ne_true, fun h => absurd h List.not_mem_nil⟩, fun p _ h => absurd h List.not_mem_nil, fun q hq => absurd hq List.not_mem_nil⟩ (fun i σ H' _ p => p.1.seq hL) (fun i y σ H2 H3 hi pp yy => ?_) (fun σ H2 pp => ?_)
    · obtain ⟨s2, u4, u5, S, f, rfl, df, hf, clo, hit⟩ := pp
      obtain ⟨rfl, hyi⟩ := yy
      obtain ⟨q1, b, hq1, rfl, hb⟩ := row_at (hys.mono s2) hyi
      refine g_two hb ?_
      have hq1m := List.mem_of_getElem? hq1
      have kin := hin q1 hq1m
      rw [take_snoc hq1]
      obtain ⟨k1, c1⟩ := q1
      cases k1 with
      | inl z =>
        refine ⟨_, rfl, _, _, _, _, false, rfl, .ty _, .base (.int z), kit_ty (by decide +kernel), false, rfl, iteF ⟨s2, _, _, S, f, rfl, df.le (by omega), hf, clo, fun q hq y hy => ?_⟩⟩
        rcases List.mem_append.mp hq with hq | hq
        · exact hit q hq y hy
        · rw [List.mem_singleton.mp hq] at hy
          cases hy
      | inr z =>
        refine ⟨_, rfl, _, _, _, _, true, rfl, .ty _, .base (.str z), kit_ty (by decide +kernel), true, rfl, iteT ⟨_, rfl, _, rfl, Bd, f (.inr z), rfl, df.get (k := .inr z) rfl, _, rfl, ?_⟩⟩
        cases hfz : f (.inr z) with
        | some v0 =>
          have zS : z ∈ S := (hf z).mp (by rw [hfz]; rfl)
          refine iteF ⟨s2, _, _, S, f, rfl, df.le (by omega), hf, clo, fun q hq y hy => ?_⟩
          rcases List.mem_append.mp hq with hq | hq
          · exact hit q hq y hy
          · rw [List.mem_singleton.mp hq] at hy
            injection hy with hy
            rw [← hy]
            exact zS
        | none =>
          obtain ⟨p0, hp0, ep0⟩ := List.mem_map.mp ((tx.mem z).mp kin)
          replace ep0 : p0.1 = z := ep0
          subst ep0
          obtain ⟨kv, p1, d2⟩ := df.put (show 51 * i < sizeLine by rw [sizeLine_eq]; omega) (.inr p0.1) (.bl true)
          refine iteT ⟨_, rfl, _, rfl, Bd, _, rfl, p1, ?_⟩
          have s3 := s2.mut (o := .dK kv) hBd
          generalize upd H3 Bd (.dK kv) = H4 at p1 d2 s3
          refine ⟨_, rfl, d2.tyV, _, rfl, xt, _, dt, _, .ref dr, rfl, s3 _ _ (s0 _ _ ht0), t.c_Text, t.n_Text_own_rules, rfl, _, rfl, dr, n, false, R, p0, rfl, hR0.mono (s0.trans s3), tx.ok, hp0, fun H5 D2 S2 hD2 s5 e2 hS2 nd2 clo2 base2 => ?_⟩
          obtain ⟨kv5, hkv5, l5, f5⟩ := (d2.mono s5).ex
          have lS2 : S2.length ≤ R.length := by
            have := nodup_len S2 (R.map fun p => p.1) nd2 hS2
            rw [List.length_map] at this
            exact this
          have lT : (trueD S2).length = S2.length := by unfold trueD; rw [List.length_map]
          have BD2 : Bd ≠ D2 := fun e => by
            obtain ⟨kv, h, _⟩ := d2.ex
            rw [e, hD2] at h
            cases h
          refine ⟨Bd, D2, kv5, trueD S2, rfl, rfl, BD2, hkv5, e2, by rw [sizeLine_eq]; omega, ?_⟩
          have lm := mergeK_len (trueD S2) kv5
          refine ⟨(s3.trans s5).mut hBd, _, _, S ++ p0.1 :: S2, fun k => valV (mergeK kv5 (trueD S2)) k, rfl, ⟨_, upd_same, by omega, fun _ => rfl⟩, fun y => ?_, fun p hp hpS y hy => ?_, fun q hq y hy => ?_⟩
          · rw [merge_true, f5 (.inr y)]
            constructor
            · rintro (h | h)
              · by_cases c : (.inr y : Key) = .inr p0.1
                · injection c with c
                  rw [c]
                  exact List.mem_append_right _ List.mem_cons_self
                · rw [if_neg c] at h
                  exact List.mem_append_left _ ((hf y).mp h)
              · exact List.mem_append_right _ (List.mem_cons_of_mem _ h)
            · intro h
              rcases List.mem_append.mp h with h | h
              · refine .inl ?_
                by_cases c : (.inr y : Key) = .inr p0.1
                · rw [if_pos c]
                  rfl
                · rw [if_neg c]
                  exact (hf y).mpr h
              · rcases List.mem_cons.mp h with h | h
                · refine .inl ?_
                  rw [if_pos (by rw [h])]
                  rfl
                · exact .inr h
          · refine .inl ?_
            rcases List.mem_append.mp hpS with h | h
            · exact List.mem_append_left _ ((clo p hp h y hy).resolve_right List.not_mem_nil)
            · rcases List.mem_cons.mp h with h | h
              · have e : p.2 = p0.2 := by rw [← rowOf_at tx.ok.nd hp, ← rowOf_at tx.ok.nd hp0, h]
                rw [e] at hy
                exact List.mem_append_right _ (List.mem_cons_of_mem _ (base2 y hy))
              · exact List.mem_append_right _ (List.mem_cons_of_mem _ ((clo2 p hp h y hy).resolve_right List.not_mem_nil))
          · rcases List.mem_append.mp hq with hq | hq
            · exact List.mem_append_left _ (hit q hq y hy)
            · rw [List.mem_singleton.mp hq] at hy
              injection hy with hy
              rw [← hy]
              exact List.mem_append_right _ List.mem_cons_self
    · obtain ⟨s2, u4, u5, S, f, rfl, df, hf, clo, hit⟩ := pp
      rw [ly, List.take_length] at hit
      obtain ⟨kb, hkb, lkb, fkb⟩ := df.ex
      intro Nd hNd
      have s3 := Same.new (o := .dK []) hNd
      have d3 : DF (upd H2 Nd (.dK [])) Nd 0 fun _ => none := DF.nil
      have hkb3 := s3 _ _ hkb
      have NdB : Nd ≠ Bd := fun e => by rw [e, hkb] at hNd; cases hNd
      have hNdH : H Nd = none := by
        cases h : H Nd with
        | none => rfl
        | some o => rw [s2 _ _ h] at hNd; cases hNd
      have Ndd : Nd ≠ d := fun e => by rw [e, hd] at hNdH; cases hNdH
      have s23 := s2.trans s3
      generalize upd H2 Nd (.dK []) = H3 at s3 d3 hkb3 s23
      clear df hkb s3 s2 hNd
      have sA := s0.trans s23
      refine ⟨_, rfl, xt, _, dt, _, .ref oo, rfl, sA _ _ ht0, t.c_Text, t.n_Text_own_order, rfl, oo, rfl, ⟨_, SqL.of (sA _ _ ho0)⟩, ?_⟩
      refine for_it (walk_list (xs := ord.map V.str)) (fun i σ H' => SameX d H H' ∧ H' Bd = some (.dK kb) ∧ ∃ (u7 u8 : Option V) (Pn : List Str) (R2 : Rules) (kvs : List (Key × V)) (fN : Key → Option V), σ = [some (.ref x), some (.ref xt), some (.ref L), some (.ref Bd), u4, u5, some (.ref Nd), u7, u8] ∧ DF H' Nd i fN ∧ (∀ k, (fN k).getD (kV k) = kV (ren Pn k)) ∧ H' d = some (.dK kvs) ∧ RulesAt K H' d false R2 ∧ MkR R Pn R2 ∧ (∀ y, y ∈ Pn ↔ y ∈ ord.take i ∧ y ∈ S) ∧ Pn.length ≤ i)
        ⟨SameX.of s23, hkb3, none, none, [], [], [], _, rfl, d3, fun k => by cases k <;> rfl, s23 _ _ hd, ⟨[], .inl (s23 _ _ hd), rfl, .nil⟩, .nil, fun y => ⟨fun h => absurd h List.not_mem_nil, fun h => absurd h.1 List.not_mem_nil⟩, Nat.zero_le _⟩ (fun i σ H' _ p => SqL.of (SameX.same hd0 s0 p.1 _ _ ho0)) (fun i y σ H4 H5 hi pp yy => ?_) (fun σ H4 pp => ?_)
      · obtain ⟨m4, hkb4, u7, u8, Pn, R2, kvs, fN, rfl, dN, hN, hd4, hR4, mk, memP, lP⟩ := pp
        obtain ⟨rfl, hyi⟩ := yy
        obtain ⟨nm, hnm, rfl⟩ := strs_at hyi
        rw [List.length_map] at hi
        have nmo : nm ∈ ord := List.mem_of_getElem? hnm
        have ntk := notin_take tx.no hnm
        have s4 := SameX.same hd0 s0 m4
        rw [take_snoc hnm]
        refine ⟨_, rfl, _, rfl, Bd, f (.inr nm), rfl, .inl ⟨kb, .inr nm, .inl hkb4, rfl, (fkb _).symm⟩, _, rfl, ?_⟩
        cases hfz : f (.inr nm) with
        | none =>
          have nS : nm ∉ S := fun h => by
            have := (hf nm).mpr h
            rw [hfz] at this
            cases this
          refine iteF ⟨m4, hkb4, _, _, Pn, R2, kvs, fN, rfl, dN.le (by omega), hN, hd4, hR4, mk, fun y => ?_, by omega⟩
          rw [memP y]
          constructor
          · exact fun h => ⟨List.mem_append_left _ h.1, h.2⟩
          · rintro ⟨h1, h2⟩
            rcases List.mem_append.mp h1 with h | h
            · exact ⟨h, h2⟩
            · rw [List.mem_singleton.mp h] at h2
              exact absurd h2 nS
        | some v0 =>
          have zS : nm ∈ S := (hf nm).mp (by rw [hfz]; rfl)
          have nP : nm ∉ Pn := fun h => ntk ((memP nm).mp h).1
          obtain ⟨p, hp, ep⟩ := List.mem_map.mp ((tx.mem nm).mp nmo)
          obtain ⟨ip, hip, eip⟩ := List.getElem_of_mem hp
          have gp : R[ip]? = some p := by rw [← eip]; exact List.getElem?_eq_getElem hip
          have er : rowOf R nm = p.2 := by rw [← ep]; exact rowOf_at tx.ok.nd hp
          have lp := (tx.ok.row p hp).1
          have rowP' : ∀ q ∈ rowOf R nm, ∀ y, q.1 = .inr y → y ∈ Pn := fun q hq y hy => by
            have h1 := (tx.rowIn hnm q hq).2
            rw [hy] at h1
            refine (memP y).mpr ⟨h1, ?_⟩
            have h2 : y ∈ namesR p.2 := by
              rw [er] at hq
              unfold namesR
              refine List.mem_filterMap.mpr ⟨q, hq, ?_⟩
              rw [hy]
            exact (clo p hp (by rw [show p.1 = nm from ep]; exact zS) y h2).resolve_right List.not_mem_nil
          obtain ⟨v3, hv, hr3⟩ := (hR0.mono s4).get tx.ok.nd gp
          obtain ⟨a, xs, rfl, ha, hxs⟩ := hr3.row
          rw [ep] at hv
          have lx : xs.length = p.2.length := by rw [hxs.len, rowP_len]
          refine iteT ⟨_, rfl, xt, _, dt, _, .ref dr, rfl, s4 _ _ ht0, t.c_Text, t.n_Text_own_rules, rfl, _, rfl, dr, _, rfl, hv, a, rfl, ⟨xs, ha⟩, fun D hD => ?_⟩
          refine lc_all (K := K) (walk_tup (xs := xs)) hD (by omega) (fun H' s6 => s6.tup ha) (fun j => .T [.v (kV (ren Pn (p.2.getD j (.inl 0, 0)).1)), .v (.int (p.2.getD j (.inl 0, 0)).2)]) (fun j => rfl) (fun j y H7 H8 hj s6 yy Qk kq => ?_) (fun H7 zs s6 e r => ?_)
          · obtain ⟨rfl, hyj⟩ := yy
            obtain ⟨q1, b1, hq1, rfl, hb1⟩ := row_at hxs hyj
            refine g_two (s6.tup hb1) ⟨rfl, _, rfl, Nd, rfl, (dN.mono s6).isD, _, rfl, _, rfl, _, (dN.mono s6).get rfl, _, rfl, by show 2 ≤ sizeLine; decide, fun z hz => kq _ _ (Same.new hz) ?_⟩
            rw [getD_at hq1, ← hN q1.1]
            exact .T (SqT.of upd_same) (.cons (.v _) (.cons (.v _) .nil))
          have e3 : (List.range xs.length).map (fun j => Dat.T [.v (kV (ren Pn (p.2.getD j (.inl 0, 0)).1)), .v (.int (p.2.getD j (.inl 0, 0)).2)]) = rowP (p.2.map (renQ Pn)) := by
            unfold rowP
            rw [lx, List.map_map]
            conv => rhs; rw [← range_get (xs := p.2) (fun j => p.2.getD j (.inl 0, 0)) fun j x hx => getD_at hx]
            rw [List.map_map]
            rfl
          rw [e3] at r
          have hd7 := s6 _ _ hd4
          have hR7 := hR4.mono s6
          obtain ⟨lk7, fr7⟩ := hR7.fresh hd7 mk
          have m7 := m4.trans (SameX.of s6)
          have hx7 := m7 _ _ xd hx
          refine ⟨_, rfl, x, dx, _, rfl, hx7, by rfl, _, rfl, x, dx, d, D, n, kvs, zs, rfl, hx7, hd7, SqL.of e, by omega, by rw [lk7]; exact fr7, fun H8 T m8 hT hd8 => ?_⟩
          rw [lk7] at hd8 ⊢
          have hR8 := hR7.snoc hd7 m8 hd8 hT r
          rw [← er] at hR8
          have dN8 := (dN.mono s6).sameX m8 Ndd
          obtain ⟨kv5, p5, d5⟩ := dN8.put (show i < sizeLine by rw [sizeLine_eq]; omega) (.inr nm) (.str (nameF Pn.length))
          obtain ⟨kvn, hkvn, _⟩ := dN8.ex
          refine ⟨_, rfl, _, rfl, Nd, _, rfl, p5, ?_⟩
          refine ⟨(m7.trans m8).mutN hNdH, ?_, _, _, Pn ++ [nm], _, kvs ++ [(.inr (nameF Pn.length), .ref T)], _, rfl, d5, fun k => ?_, ?_, hR8.updK hkvn (Ne.symm Ndd), .snoc mk nP rowP', fun y => ?_, ?_⟩
          · rw [upd_ne (Ne.symm NdB)]
            exact m8 _ _ Bdd (s6 _ _ hkb4)
          · rw [ren_snoc nP]
            by_cases c : k = .inr nm
            · rw [if_pos c, if_pos c]
              rfl
            · rw [if_neg c, if_neg c]
              exact hN k
          · rw [upd_ne (Ne.symm Ndd)]
            exact hd8
          · constructor
            · intro h
              rcases List.mem_append.mp h with h | h
              · have := (memP y).mp h
                exact ⟨List.mem_append_left _ this.1, this.2⟩
              · rw [List.mem_singleton.mp h]
                exact ⟨List.mem_append_right _ (List.mem_singleton.mpr rfl), zS⟩
            · rintro ⟨h1, h2⟩
              rcases List.mem_append.mp h1 with h | h
              · exact List.mem_append_left _ ((memP y).mpr ⟨h, h2⟩)
              · exact List.mem_append_right _ h
          · rw [List.length_append, List.length_singleton]
            omega
      · obtain ⟨m4, hkb4, u7, u8, Pn, R2, kvs, fN, rfl, dN, hN, hd4, hR4, mk, memP, lP⟩ := pp
        rw [List.length_map, List.take_length] at memP
        rw [List.length_map] at lP
        have hL4 := m4.seqD hd hL
        have hys4 := RpA.sameD m4 hd hys
        refine ⟨_, rfl, L, rfl, ⟨_, hL4⟩, fun D hD => ?_⟩
        refine lc_all (K := K) (walk_list (xs := ys)) hD (by omega) (fun H' s6 => s6.seq hL4) (fun j => .T [.v (kV (ren Pn (items.getD j (.inl 0, 0)).1)), .v (.int (items.getD j (.inl 0, 0)).2)]) (fun j => rfl) (fun j y H7 H8 hj s6 yy Qk kq => ?_) (fun H7 zs s6 e r => ?_)
        · obtain ⟨rfl, hyj⟩ := yy
          obtain ⟨q1, b1, hq1, rfl, hb1⟩ := row_at hys4 hyj
          refine g_two (s6.tup hb1) ⟨rfl, _, rfl, Nd, rfl, (dN.mono s6).isD, _, rfl, _, rfl, _, (dN.mono s6).get rfl, _, rfl, by show 2 ≤ sizeLine; decide, fun z hz => kq _ _ (Same.new hz) ?_⟩
          rw [getD_at hq1, ← hN q1.1]
          exact .T (SqT.of upd_same) (.cons (.v _) (.cons (.v _) .nil))
        have e3 : (List.range ys.length).map (fun j => Dat.T [.v (kV (ren Pn (items.getD j (.inl 0, 0)).1)), .v (.int (items.getD j (.inl 0, 0)).2)]) = rowP (items.map (renQ Pn)) := by
          unfold rowP
          rw [ly, List.map_map]
          conv => rhs; rw [← range_get (xs := items) (fun j => items.getD j (.inl 0, 0)) fun j x hx => getD_at hx]
          rw [List.map_map]
          rfl
        rw [e3] at r
        refine q H7 D zs Pn R2 kvs (m4.trans (SameX.of s6)) (SqL.of e) r (s6 _ _ hd4) (hR4.mono s6) mk (fun y hy => ((memP y).mp hy).1) (fun q hq y hy => (memP y).mpr ⟨?_, hit q hq y hy⟩) (by omega)
        have := hin q hq
        rw [hy] at this
        exact this
theorem sc_cut_out : FnScope ["text", "first", "many", "maker"] ["text", "first", "many"] (defScope s_cut_out) := ⟨rfl, rfl, rfl, by decide +kernel, rfl, by decide +kernel, by decide +kernel⟩
def sp_cut_out (K : PySem.W.Frag) : Sp := fun vs H Q _ => ∃ (xt : Addr) (many n : Int) (R : Rules) (root : Str) (ord : List Str), vs = [.ref xt, .int 0, .int many] ∧ TextAt K H (.ref xt) n R root ord ∧ TxS n R root ord ∧ R.length ≤ 20 ∧ totR R ord ≤ 39 ∧ 0 ≤ many ∧ many ≤ sizes R ord (.inr root) ∧
  ∀ H' v R3 root3 ord3, Same H H' → TextAt K H' v n R3 root3 ord3 → TxOk n R3 root3 ord3 → (∀ p ∈ R3, ∀ q ∈ p.2, q.2 ≤ 1000) → (∀ g, valF R3 ord3 g (.inr root3) = rowSum (valF R ord g) (itemsF R root ord many)) → Q v H'
theorem ok_cut_out (t : T K mg) : Okf P w K mg base 9 ("cut_out", none) ["text", "first", "many"] [] (sp_cut_out K) := by
  have O_check_stretch := ok_check_stretch (P := P) (w := w) (base := base) t
  have O_Maker_init := ok_Maker (P := P) (w := w) (base := base) t
  have O_Text_items_of := ok_items_of (P := P) (w := w) (base := base) t
  have O_Maker_add_text := ok_add_text (P := P) (w := w) (base := base) t
  have O_Maker_text_of := ok_text_of (P := P) (w := w) (base := base) t
  refine okf (d := d_cut_out) t 64 rfl rfl sc_cut_out (fun _ _ _ _ _ _ us hl => match us, hl with | [_, _, _], _ => rfl) (fun vs H Q E h => ?_) (fun cdv A outer s H vs Q E hr h => ?_)
  · obtain ⟨xt, many, n, R, root, ord, rfl, _⟩ := h
    rfl
  · obtain ⟨xt, many, n, R, root, ord, rfl, tt, ⟨tx, sz, tot, small⟩, l20, t39, m0, m1, q⟩ := h
    have hu := hu_of hr
    refine ⟨_, (pss_cons (ps_expr (pe_f O_check_stretch (hr.mono (by decide)) t.g_check_stretch (pa_cons (pv 0) (pa_cons (pv 1) (pa_cons (pv 2) pa_nil)))))
      (pss_cons (ps_set (i := 3) sc_cut_out.nd rfl (.inl rfl) (pe_mkf O_Maker_init t.m_Maker (hr.mono (by decide)) t.g_Maker (pa_cons (pe_fld (pv 0) rfl) pa_nil)))
      (pss_one (ps_ret (pe_mf O_Maker_text_of (hr.mono (by decide)) (pv 3) t.c_Maker t.h_Maker_text_of (pa_cons (pe_mf O_Maker_add_text (hr.mono (by decide)) (pv 3) t.c_Maker t.h_Maker_add_text (pa_cons (pv 0) (pa_cons (pe_mf O_Text_items_of (hr.mono (by decide)) (pv 0) t.c_Text t.h_Text_items_of (pa_cons (pv 1) (pa_cons (pv 2) pa_nil))) pa_nil))) pa_nil)))))), ?_⟩
    obtain ⟨xt', dt, oo, dr, ds, dp, kvT, ex, ht0, ho0, hdr0, hR0, lk⟩ := tt.ex
    injection ex with ex
    subst ex
    refine ⟨_, rfl, _, rfl, _, rfl, xt, many, n, R, root, ord, rfl, tt, m0, m1, ?_⟩
    refine ⟨_, rfl, xt, _, dt, _, .int n, rfl, ht0, t.c_Text, t.n_Text_signs, rfl, fun y dy hy hdy hyne => ?_⟩
    have sN : Same H (upd (upd H dy (.own y)) y (.ins (He.ga K "Maker") dy [])) := (Same.new hdy).mut hy
    refine ⟨y, dy, n, rfl, upd_same, fun H1 d dx m1' hdN dy0 hx1 hd1 => ⟨rfl, ?_⟩⟩
    have s1 : Same H H1 := SameX.same hy sN m1'
    have hdH : H d = none := by
      cases h : H d with
      | none => rfl
      | some o =>
        have := sN _ _ h
        have e := this.symm.trans hdN
        cases e
    refine ⟨_, rfl, y, dx, _, rfl, hx1, by rfl, _, rfl, y, dx, _, rfl, hx1, by rfl, _, rfl, _, rfl, xt, dt, _, rfl, s1 _ _ ht0, by rfl, _, rfl, _, rfl, xt, many, n, R, root, ord, rfl, LK.monoT s1 tt, tx, m0, m1, sz, by omega, small, fun H2 L ys hL s2 eL rL hit hsum hfew => ?_⟩
    have il := items_le tx small many
    refine ⟨y, dx, d, xt, L, n, R, root, ord, ys, _, H, rfl, s2 _ _ hx1, s2 _ _ hd1, s1.trans s2, hdH, tt, tx, l20, SqL.of eL, rL, by omega, fun q hq => (hit q hq).2, fun H3 D zs Pn R2 kvs m3 hD rD hd3 hR3 mk sub inP lP => ?_⟩
    have hd2 := s2 _ _ hd1
    have yd : y ≠ d := Ne.symm dy0
    obtain ⟨lk3, fr3⟩ := hR3.fresh hd3 mk
    have ct : CutOk n R ord Pn R2 (itemsF R root ord many) := ⟨mk, sub, inP, fun q hq => ⟨⟨(hit q hq).1, il q hq⟩, (hit q hq).2⟩, by omega, by omega⟩
    obtain ⟨rok, sm3⟩ := ct.rok tx small
    unfold newR at rok sm3
    refine ⟨y, dx, d, D, n, kvs, zs, R2, _, rfl, m3 _ _ yd (s2 _ _ hx1), hd3, hR3, hD, rD, by rw [List.length_map]; omega, by omega, by rw [lk3]; exact fr3, by rw [lk3]; exact rok, by rw [lk3]; exact sm3, fun H4 v ord3 m4 tt3 tx3 => ?_⟩
    rw [lk3] at tt3 tx3
    have sF : Same H H4 := SameX.same hdH (s1.trans s2) (m3.trans m4)
    exact q H4 v _ _ ord3 sF tt3 tx3 sm3 fun g => ct.val tx tx3 g
end
end WV
end
section
set_option maxRecDepth 100000
set_option maxHeartbeats 4000000
namespace WV
open PySem PySem.Spec PyProof.Rows L2
def penD (C : Addr) (a r : Int) : List (Key × V) := [(.inr "cells", .ref C), (.inr "at", .int a), (.inr "rest", .int r)]
theorem penD_at (C : Addr) (a r b : Int) : putK (penD C a r) (.inr "at") (.int b) = penD C b r := by with_unfolding_all rfl
theorem penD_rest (C : Addr) (a r b : Int) : putK (penD C a r) (.inr "rest") (.int b) = penD C a b := by with_unfolding_all rfl
theorem penD_c (C : Addr) (a r : Int) : valV (penD C a r) (.inr "cells") = some (.ref C) := by with_unfolding_all rfl
theorem penD_a (C : Addr) (a r : Int) : valV (penD C a r) (.inr "at") = some (.int a) := by with_unfolding_all rfl
theorem penD_r (C : Addr) (a r : Int) : valV (penD C a r) (.inr "rest") = some (.int r) := by with_unfolding_all rfl
/-- the pen, with at most so many draws behind it -/
structure PenOk (K : PySem.W.Frag) (H : Hp) (p C : Addr) (cells : List Int) (a : Int) : Prop where
  ex : ∃ at_ rest : Int, H p = some (.dK (penD C at_ rest)) ∧ 0 ≤ at_ ∧ at_ ≤ a ∧ 0 ≤ rest
  cl : SqL K H C (cells.map V.int)
section
variable {K : PySem.W.Frag} {H H' H3 : Hp} {p C : Addr} {cells : List Int} {a b : Int}
theorem PenOk.mono (s : Same H H') (h : PenOk K H p C cells a) : PenOk K H' p C cells a :=
  ⟨let ⟨a, r, h1, h2⟩ := h.ex; ⟨a, r, s _ _ h1, h2⟩, s.seq h.cl⟩
theorem PenOk.le (h : PenOk K H p C cells a) (l : a ≤ b) : PenOk K H p C cells b :=
  ⟨let ⟨a, r, h1, h2, h3, h4⟩ := h.ex; ⟨a, r, h1, h2, by omega, h4⟩, h.cl⟩
theorem PenOk.isD (h : PenOk K H p C cells a) : ∃ kvs, H p = some (.dK kvs) := let ⟨_, _, h1, _⟩ := h.ex; ⟨_, h1⟩
/-- what is new may change -/
theorem PenOk.mutN {L : Addr} {o : HO} (h : PenOk K H' p C cells a) (h3 : PenOk K H3 p C cells b) (m : SameX p H3 H') (hL : H3 L = none) : PenOk K (upd H' L o) p C cells a := by
  obtain ⟨kvs, hk⟩ := h3.isD
  refine ⟨?_, (m.mutN hL).seqD hk h3.cl⟩
  obtain ⟨x, r, h1, h2⟩ := h.ex
  exact ⟨x, r, by rw [upd_ne (fun e => by rw [e, hL] at hk; cases hk)]; exact h1, h2⟩
end
theorem dp_ints {K : PySem.W.Frag} {H : Hp} : ∀ ns : List Int, DpAll K H (ns.map V.int) (ns.map PyData.int)
  | [] => .nil
  | x :: ns => .cons (.int x) (dp_ints ns)
theorem lay_ints : ∀ ns : List Int, PyData.canLayAll0 (ns.map PyData.int) = true
  | [] => by
    show PyData.canLayAll0 [] = true
    rw [PyData.canLayAll0]
  | x :: ns => by
    show PyData.canLayAll0 (.int x :: ns.map PyData.int) = true
    rw [PyData.canLayAll0, lay_ints ns, PyData.canLay0]
    rfl
theorem dep_ints : ∀ ns : List Int, PyData.depthAll (ns.map PyData.int) = 0
  | [] => by
    show PyData.depthAll [] = 0
    rw [PyData.depthAll]
  | x :: ns => by
    show PyData.depthAll (.int x :: ns.map PyData.int) = 0
    rw [PyData.depthAll, dep_ints ns, PyData.depth]
    rfl
theorem shaped_ints (ns : List Int) : SeqAt.shaped (.list (ns.map PyData.int)) = true := by
  unfold SeqAt.shaped
  rw [PyData.canLay0, lay_ints ns, PyData.depth, dep_ints ns]
  rfl
theorem shaped_intsT (ns : List Int) : SeqAt.shaped (.tuple (ns.map PyData.int)) = true := by
  unfold SeqAt.shaped
  rw [PyData.canLay0, lay_ints ns, PyData.depth, dep_ints ns]
  rfl
section
variable {P : Program} {w : World} {K : PySem.W.Frag} {mg : Str → Option Value} {base : Heap}
theorem sc_law_pen : FnScope ["_law_script"] ["_law_script"] (defScope s_law_pen) := ⟨rfl, rfl, rfl, by decide +kernel, rfl, by decide +kernel, by decide +kernel⟩
def sp_law_pen (K : PySem.W.Frag) : Sp := fun vs H Q _ => ∃ (a : Addr) (ns : List Int), vs = [.ref a] ∧ SqL K H a (ns.map V.int) ∧ ∀ H' p, H p = none → Same H H' → (∃ C cells, PenOk K H' p C cells 0) → Q (.ref p) H'
theorem ok_law_pen (t : T K mg) : Okf P w K mg base 1 ("_law_pen", none) ["_law_script"] [] (sp_law_pen K) := by
  refine okf (d := d_law_pen) t 74 rfl rfl sc_law_pen (fun _ _ _ _ _ _ us hl => match us, hl with | [_], _ => rfl) (fun vs H Q E h => ?_) (fun cdv A outer s H vs Q E hr h => ?_)
  · obtain ⟨a, ns, rfl, _⟩ := h
    rfl
  · obtain ⟨a, ns, rfl, ha, q⟩ := h
    refine ⟨_, (pss_one (ps_ret (pe_disp (pps_cons pe_str (pe_callTy call_list_of (by rfl) t.b_list bt_list (pa_cons (pe_slice sl_list (pv 0) po_none (po_some pe_int)) pa_nil)) (pps_cons pe_str pe_int (pps_cons pe_str pe_int pps_nil))) (by rfl) (by rfl) (fun z => by cases z) (by decide)))), ?_⟩
    intro p hp
    have s1 := Same.new (o := .dK []) hp
    have e1 : (upd H p (.dK [])) p = some (.dK []) := upd_same
    generalize upd H p (.dK []) = H1 at s1 e1
    refine ⟨.ref a, rfl, 63, rfl, a, _, rfl, s1.seq ha, fun l hl => ?_⟩
    have s2 := Same.new (o := .lst (cutV (ns.map V.int) none (some 63))) hl
    have e2 : (upd H1 l (.lst (cutV (ns.map V.int) none (some 63)))) l = some (.lst (cutV (ns.map V.int) none (some 63))) := upd_same
    have ecut : cutV (ns.map V.int) none (some 63) = (ns.take 63).map V.int := by
      rw [show (63 : Int) = ((63 : Nat) : Int) from rfl, cut_to, List.map_take]
    rw [ecut] at s2 e2 ⊢
    generalize upd H1 l (.lst ((ns.take 63).map V.int)) = H2 at s2 e2
    refine ⟨l, _, rfl, .inl (SqL.of e2), fun m hm => ?_⟩
    have s3 := Same.new (o := .lst ((ns.take 63).map V.int)) hm
    have e3 : (upd H2 m (.lst ((ns.take 63).map V.int))) m = some (.lst ((ns.take 63).map V.int)) := upd_same
    have s13 := s1.trans (s2.trans s3)
    have e13 := s3 _ _ (s2 _ _ e1)
    generalize upd H2 m (.lst ((ns.take 63).map V.int)) = H3 at s3 e3 s13 e13
    have mp : m ≠ p := fun e => by rw [e, s2 _ _ e1] at hm; cases hm
    refine ⟨e13, [(.inr "cells", .ref m), (.inr "at", .int 0), (.inr "rest", .int 0)], rfl, by show 3 ≤ 15; decide, ?_⟩
    refine q _ p hp (s13.mut hp) ⟨m, ns.take 63, ⟨0, 0, ?_, Int.le_refl _, Int.le_refl _, Int.le_refl _⟩, ?_⟩
    · rw [upd_same]
      with_unfolding_all rfl
    · refine SqL.of ?_
      rw [upd_ne mp]
      exact e3
theorem sc_law_draw : FnScope ["_law_pen_here", "_law_many", "_law_digit", "_law_at", "_law_cell", "_law_blend"] ["_law_pen_here", "_law_many"] (defScope s_law_draw) := ⟨rfl, rfl, rfl, by decide +kernel, rfl, by decide +kernel, by decide +kernel⟩
def sp_law_draw (K : PySem.W.Frag) : Sp := fun vs H Q _ => ∃ (p C : Addr) (cells : List Int) (m a : Int), vs = [.ref p, .int m] ∧ PenOk K H p C cells a ∧ 1 ≤ m ∧ m ≤ 1000 ∧ a ≤ 10000 ∧ ∀ H' v, SameX p H H' → PenOk K H' p C cells (a + 1) → 0 ≤ v → v < m → Q (.int v) H'
theorem ok_law_draw (t : T K mg) : Okf P w K mg base 1 ("_law_draw", none) ["_law_pen_here", "_law_many"] [] (sp_law_draw K) := by
  refine okf (d := d_law_draw) t 75 rfl rfl sc_law_draw (fun _ _ _ _ _ _ us hl => match us, hl with | [_, _], _ => rfl) (fun vs H Q E h => ?_) (fun cdv A outer s H vs Q E hr h => ?_)
  · obtain ⟨p, C, cells, m, a, rfl, _⟩ := h
    rfl
  · obtain ⟨p, C, cells, m, a, rfl, hp, m1, m2, a1, q⟩ := h
    have hu := hu_of hr
    refine ⟨_, (pss_cons (ps_if (pt_cmpR op_gt (pe_dget hu (pv 0) pe_str (fun _ _ => rfl)) pe_int (nomark _))
        (pss_cons (ps_set (i := 2) sc_law_draw.nd rfl (.inl rfl) (pe_op op_mod (pe_callTy call_int1 (by rfl) t.b_int bt_int (pa_cons (pe_dget hu (pv 0) pe_str (fun _ _ => rfl)) pa_nil)) (pv 1)))
        (pss_cons (ps_dput hu (pv 0) pe_str (pe_op op_fdiv (pe_dget hu (pv 0) pe_str (fun _ _ => rfl)) (pv 1)) rfl)
        (pss_one (ps_ret (pv 2)))))
        pss_nil)
      (pss_cons (ps_set (i := 3) sc_law_draw.nd rfl (.inl rfl) (pe_dget hu (pv 0) pe_str (fun _ _ => rfl)))
      (pss_cons (ps_dput hu (pv 0) pe_str (pe_op op_add (pv 3) pe_int) rfl)
      (pss_cons (ps_if (pt_cmpR (op_eqD hr.units) (pe_dget hu (pv 0) pe_str (fun _ _ => rfl)) (pe_lst pa_nil) (nomark _))
        (pss_one (ps_ret (pe_op op_mod (pe_callTy call_int1 (by rfl) t.b_int bt_int (pa_cons (pe_op op_add (pe_op op_mul pe_int (pv 3)) pe_int) pa_nil)) (pv 1))))
        pss_nil)
      (pss_cons (ps_set (i := 4) sc_law_draw.nd rfl (.inl rfl) (pe_ix ix_list (pe_dget hu (pv 0) pe_str (fun _ _ => rfl)) (pe_op op_mod (pe_callTy call_int1 (by rfl) t.b_int bt_int (pa_cons (pv 3) pa_nil)) (pe_callB call_len_seq (by rfl) t.b_len bt_len (pa_cons (pe_dget hu (pv 0) pe_str (fun _ _ => rfl)) pa_nil))) (fun _ _ => rfl)))
      (pss_cons (ps_if (PW.pt (pw_and (pt_cmpR op_lt (pv 3) (pe_callB call_len_seq (by rfl) t.b_len bt_len (pa_cons (pe_dget hu (pv 0) pe_str (fun _ _ => rfl)) pa_nil)) (nomark _)) (pw_and1 (pt_cmpR op_ge (pe_callB call_abs (by rfl) t.b_abs bt_abs (pa_cons (pv 4) pa_nil)) (pe_op op_pow pe_int pe_int) (nomark _)))))
        (pss_cons (ps_dput hu (pv 0) pe_str (pe_op op_fdiv (pe_op op_sub (pe_callB call_abs (by rfl) t.b_abs bt_abs (pa_cons (pv 4) pa_nil)) (pe_op op_pow pe_int pe_int)) (pv 1)) rfl)
        (pss_one (ps_ret (pe_op op_mod (pe_callTy call_int1 (by rfl) t.b_int bt_int (pa_cons (pe_op op_sub (pe_callB call_abs (by rfl) t.b_abs bt_abs (pa_cons (pv 4) pa_nil)) (pe_op op_pow pe_int pe_int)) pa_nil)) (pv 1)))))
        pss_nil)
      (pss_cons (ps_set (i := 5) sc_law_draw.nd rfl (.inl rfl) (pe_op op_add (pe_op op_mul (pe_op op_mod (pe_callTy call_int1 (by rfl) t.b_int bt_int (pa_cons (pv 4) pa_nil)) pe_int) pe_int) (pe_op op_mul (pe_op op_mul pe_int (pv 3)) (pv 3))))
      (pss_cons (ps_set (i := 5) sc_law_draw.nd rfl (.inl rfl) (pe_op op_mod (pe_callTy call_int1 (by rfl) t.b_int bt_int (pa_cons (pe_op op_add (pe_op op_add (pv 5) (pe_op op_mul pe_int (pv 3))) pe_int) pa_nil)) pe_int))
      (pss_cons (ps_set (i := 5) sc_law_draw.nd rfl (.inl rfl) (pe_op op_mod (pe_callTy call_int1 (by rfl) t.b_int bt_int (pa_cons (pe_op op_add (pe_op op_add (pe_op op_add (pe_op op_mul (pv 5) (pv 5)) (pe_op op_mul pe_int (pv 5))) (pe_op op_mul pe_int (pv 3))) pe_int) pa_nil)) pe_int))
      (pss_one (ps_ret (pe_op op_mod (pe_callTy call_int1 (by rfl) t.b_int bt_int (pa_cons (pe_op op_fdiv (pe_op op_mod (pe_callTy call_int1 (by rfl) t.b_int bt_int (pa_cons (pe_op op_mul (pv 5) (pe_op op_add (pv 5) pe_int)) pa_nil)) pe_int) pe_int) pa_nil)) (pv 1))))))))))))), ?_⟩
    obtain ⟨at_, rest, e1, a0, a2, r0⟩ := hp.ex
    have hC := hp.cl
    have md : ∀ z : Int, 0 ≤ z % m ∧ z % m < m := fun z => ⟨Int.emod_nonneg z (by omega), Int.emod_lt_of_pos z (by omega)⟩
    have dr : DGet H p (.str "rest") (some (.int rest)) := .inl ⟨_, .inr "rest", .inl e1, rfl, (penD_r C at_ rest).symm⟩
    refine ⟨_, rfl, p, _, rfl, dr, _, _, rfl, rfl, decide (0 < rest), rfl, ?_⟩
    by_cases c0 : 0 < rest
    · rw [decide_eq_true c0]
      refine iteT ⟨_, rfl, p, _, rfl, dr, .inl ⟨_, rfl, _, rfl, _, _, rfl, rfl, by show 0 < m; omega, ?_⟩⟩
      refine ⟨_, rfl, p, _, rfl, dr, _, rfl, _, _, rfl, rfl, ⟨by omega, by omega⟩, _, rfl, p, _, rfl, DPut.k (k := .inr "rest") e1 (by show 3 < sizeLine; rw [sizeLine_eq]; omega), ?_⟩
      rw [penD_rest]
      refine ⟨_, rfl, q _ _ ((SameX.refl H).mut) ⟨⟨at_, rest / m, upd_same, a0, by omega, Int.ediv_nonneg r0 (by omega)⟩, SqL.updK e1 hC⟩ (md _).1 (md _).2⟩
    · rw [decide_eq_false c0]
      refine iteF ⟨_, rfl, p, _, rfl, .inl ⟨_, .inr "at", .inl e1, rfl, (penD_a C at_ rest).symm⟩, ?_⟩
      refine ⟨_, rfl, _, _, rfl, rfl, _, rfl, p, _, rfl, DPut.k (k := .inr "at") e1 (by show 3 < sizeLine; rw [sizeLine_eq]; omega), ?_⟩
      rw [penD_at]
      have m1 := (SameX.refl H).mut (x := p) (o := .dK (penD C (at_ + 1) rest))
      have e2 : (upd H p (.dK (penD C (at_ + 1) rest))) p = some (.dK (penD C (at_ + 1) rest)) := upd_same
      have hC1 := SqL.updK (o := .dK (penD C (at_ + 1) rest)) e1 hC
      generalize upd H p (.dK (penD C (at_ + 1) rest)) = H1 at m1 e2 hC1
      have dc : ∀ {H'}, Same H1 H' → DGet H' p (.str "cells") (some (.ref C)) := fun s => .inl ⟨_, .inr "cells", .inl (s _ _ e2), rfl, (penD_c C _ rest).symm⟩
      refine ⟨_, rfl, p, _, rfl, dc (Same.refl _), by show 0 ≤ sizeLine; decide, fun l hl => ?_⟩
      have s3 := Same.new (o := .lst []) hl
      have e3 : (upd H1 l (.lst [])) l = some (.lst []) := upd_same
      generalize upd H1 l (.lst []) = H2 at s3 e3
      have hC2 := s3.seq hC1
      have pen2 : PenOk K H2 p C cells (a + 1) := ⟨⟨at_ + 1, rest, s3 _ _ e2, by omega, by omega, r0⟩, hC2⟩
      have m2 := m1.trans (SameX.of s3)
      refine ⟨.list (cells.map PyData.int), .list [], .lst hC2 (dp_ints cells), .lst (SqL.of e3) .nil, shaped_ints cells, rfl, ?_⟩
      have ev : (PyData.list (cells.map PyData.int)).eqv (.list []) = cells.isEmpty := by
        cases cells with
        | nil =>
          show (PyData.list []).eqv (.list []) = true
          rw [PyData.eqv, PyData.eqvAll]
        | cons c cs =>
          show (PyData.list (.int c :: cs.map PyData.int)).eqv (.list []) = false
          rw [PyData.eqv, PyData.eqvAll]
      rw [ev]
      cases hcs : cells with
      | nil =>
        exact ⟨true, rfl, iteT ⟨_, rfl, _, _, rfl, rfl, .inl ⟨by decide, by decide⟩, _, _, rfl, rfl, .inl ⟨_, rfl, _, rfl, _, _, rfl, rfl, by show 0 < m; omega, q _ _ m2 pen2 (md _).1 (md _).2⟩⟩⟩
      | cons c0 cs0 =>
        have lc : 0 < cells.length := by rw [hcs]; exact Nat.succ_pos _
        clear hcs ev
        refine ⟨false, rfl, iteF ?_⟩
        have ci : (at_ % (cells.length : Nat)) = ((at_ % (cells.length : Nat)).toNat : Nat) := by
          have := Int.emod_nonneg at_ (show ((cells.length : Nat) : Int) ≠ 0 by omega)
          omega
        have cl : (at_ % (cells.length : Nat)).toNat < cells.length := by
          have := Int.emod_lt_of_pos at_ (show (0 : Int) < (cells.length : Nat) by omega)
          omega
        have gc := List.getElem?_eq_getElem cl
        generalize cells[(at_ % (cells.length : Nat)).toNat] = c at gc
        have lv : (cells.map V.int).length = cells.length := List.length_map _
        refine ⟨_, rfl, p, _, rfl, dc s3, _, rfl, .inl ⟨_, rfl, _, rfl, p, _, rfl, dc s3, C, _, rfl, .inl hC2, _, _, rfl, rfl, ?_, C, _, _, .int c, rfl, rfl, hC2, ?_, ?_⟩⟩
        · show (0 : Int) < ((cells.map V.int).length : Nat)
          omega
        · show atI (cells.map V.int) (at_ % ((cells.map V.int).length : Nat)) = _
          rw [lv, ci]
          exact atI_nat (at_ints gc)
        · have cp : CPow 10 18 := ⟨by decide, by decide, by decide⟩
          have mb : ∀ z : Int, -(2 ^ 64) < z % 4294966909 ∧ z % 4294966909 < 2 ^ 64 := fun z => by omega
          have mb2 : ∀ z : Int, -(2 ^ 64) < z % 4294966877 ∧ z % 4294966877 < 2 ^ 64 := fun z => by omega
          refine ⟨_, rfl, _, rfl, p, _, rfl, dc s3, C, _, rfl, .inl hC2, _, _, rfl, rfl, decide (at_ < ((cells.map V.int).length : Nat)), rfl, ?_⟩
          by_cases c1 : at_ < ((cells.map V.int).length : Nat)
          · rw [decide_eq_true c1]
            refine iteT ⟨_, rfl, c, rfl, 10, 18, rfl, rfl, cp, _, _, rfl, rfl, decide ((10 : Int) ^ (18 : Int).toNat ≤ if c < 0 then -c else c), rfl, ?_⟩
            by_cases c2 : (10 : Int) ^ (18 : Int).toNat ≤ if c < 0 then -c else c
            · rw [decide_eq_true c2]
              refine iteT ⟨_, rfl, c, rfl, 10, 18, rfl, rfl, cp, _, _, rfl, rfl, _, rfl, _, _, rfl, rfl, ⟨by omega, by omega⟩, _, rfl, p, _, rfl, DPut.k (k := .inr "rest") (s3 _ _ e2) (by show 3 < sizeLine; rw [sizeLine_eq]; omega), ?_⟩
              rw [penD_rest]
              refine ⟨_, rfl, c, rfl, 10, 18, rfl, rfl, cp, _, _, rfl, rfl, .inl ⟨_, rfl, _, rfl, _, _, rfl, rfl, by show 0 < m; omega, q _ _ m2.mut ⟨⟨at_ + 1, _, upd_same, by omega, by omega, Int.ediv_nonneg (by omega) (by omega)⟩, SqL.updK (s3 _ _ e2) hC2⟩ (md _).1 (md _).2⟩⟩
            · rw [decide_eq_false c2]
              refine iteF ?_
              refine ⟨_, rfl, .inl ⟨_, rfl, _, _, rfl, rfl, (by decide : (0 : Int) < 4294966927), _, _, rfl, rfl, .inr ⟨by decide, by decide⟩, _, rfl, _, _, rfl, rfl, .inl ⟨by decide, by decide⟩, _, rfl, _, _, rfl, rfl, .inr ⟨by omega, by omega⟩, _, _, rfl, rfl, ?_⟩⟩
              refine ⟨_, rfl, _, rfl, _, _, rfl, rfl, .inl ⟨by decide, by decide⟩, _, _, rfl, rfl, _, _, rfl, rfl, .inl ⟨_, rfl, _, _, rfl, rfl, (by decide : (0 : Int) < 4294966909), ?_⟩⟩
              refine ⟨_, rfl, _, rfl, _, _, rfl, rfl, .inl (mb _), _, rfl, _, _, rfl, rfl, .inl ⟨by decide, by decide⟩, _, _, rfl, rfl, _, rfl, _, _, rfl, rfl, .inl ⟨by decide, by decide⟩, _, _, rfl, rfl, _, _, rfl, rfl, .inl ⟨_, rfl, _, _, rfl, rfl, (by decide : (0 : Int) < 4294966877), ?_⟩⟩
              exact ⟨_, rfl, _, rfl, _, _, rfl, rfl, _, _, rfl, rfl, .inl (mb2 _), .inl ⟨_, rfl, _, _, rfl, rfl, (by decide : (0 : Int) < 4294966867), _, _, rfl, rfl, ⟨by decide, by decide⟩, .inl ⟨_, rfl, _, rfl, _, _, rfl, rfl, by show 0 < m; omega, q _ _ m2 pen2 (md _).1 (md _).2⟩⟩⟩
          · rw [decide_eq_false c1]
            refine iteF ?_
            refine ⟨_, rfl, .inl ⟨_, rfl, _, _, rfl, rfl, (by decide : (0 : Int) < 4294966927), _, _, rfl, rfl, .inr ⟨by decide, by decide⟩, _, rfl, _, _, rfl, rfl, .inl ⟨by decide, by decide⟩, _, rfl, _, _, rfl, rfl, .inr ⟨by omega, by omega⟩, _, _, rfl, rfl, ?_⟩⟩
            refine ⟨_, rfl, _, rfl, _, _, rfl, rfl, .inl ⟨by decide, by decide⟩, _, _, rfl, rfl, _, _, rfl, rfl, .inl ⟨_, rfl, _, _, rfl, rfl, (by decide : (0 : Int) < 4294966909), ?_⟩⟩
            refine ⟨_, rfl, _, rfl, _, _, rfl, rfl, .inl (mb _), _, rfl, _, _, rfl, rfl, .inl ⟨by decide, by decide⟩, _, _, rfl, rfl, _, rfl, _, _, rfl, rfl, .inl ⟨by decide, by decide⟩, _, _, rfl, rfl, _, _, rfl, rfl, .inl ⟨_, rfl, _, _, rfl, rfl, (by decide : (0 : Int) < 4294966877), ?_⟩⟩
            exact ⟨_, rfl, _, rfl, _, _, rfl, rfl, _, _, rfl, rfl, .inl (mb2 _), .inl ⟨_, rfl, _, _, rfl, rfl, (by decide : (0 : Int) < 4294966867), _, _, rfl, rfl, ⟨by decide, by decide⟩, .inl ⟨_, rfl, _, rfl, _, _, rfl, rfl, by show 0 < m; omega, q _ _ m2 pen2 (md _).1 (md _).2⟩⟩⟩
end
end WV
end
section
set_option maxRecDepth 100000
set_option maxHeartbeats 4000000
namespace WV
open PySem PySem.Spec PyProof.Rows L2
/-! ### the rules that the law draws, plain -/
def NL : List Str := ["A", "BC", "DEFGHIJK"]
theorem NL_nd : NL.Nodup := by decide +kernel
theorem NL_ok : ∀ x ∈ NL, NameOk x := by
  have h : NL.all (fun x => decide (1 ≤ x.length) && (decide (x.length ≤ 8) && x.cps.toList.all fun c => capsL.contains c)) = true := by decide +kernel
  intro x hx
  have := List.all_eq_true.mp h x hx
  rw [Bool.and_eq_true, Bool.and_eq_true] at this
  exact ⟨of_decide_eq_true this.1, of_decide_eq_true this.2.1, fun c hc => by simpa using List.all_eq_true.mp this.2.2 c hc⟩
structure RowL (n : Int) (i : Nat) (r : Row) : Prop where
  cnt : ∀ q ∈ r, (1 ≤ q.2 ∧ q.2 ≤ 3) ∧ keyIn n (NL.take i) q.1
structure RulL (n : Int) (i : Nat) (R : Rules) (h : Key → Int) : Prop where
  len : R.length = i
  at_ : ∀ (j : Nat) p, R[j]? = some p → NL[j]? = some p.1 ∧ p.2.length ≤ 3 ∧ RowL n j p.2
  one : ∀ s, h (.inl s) = 1
  val : ∀ p ∈ R, h (.inr p.1) = rowSum h p.2
  bnd : ∀ (j : Nat) p, R[j]? = some p → 0 ≤ h (.inr p.1) ∧ h (.inr p.1) ≤ 9 ^ (j + 1)
theorem pow9 {i j : Nat} (h : i ≤ j) : (9 : Int) ^ i ≤ 9 ^ j := by
  have := Nat.pow_le_pow_right (show 0 < 9 by decide) h
  exact_mod_cast this
section
variable {n : Int} {i : Nat} {R : Rules} {h : Key → Int}
theorem RulL.key (u : RulL n i R h) {m : Nat} (hm : m ≤ i) {k : Key} (hk : keyIn n (NL.take m) k) : 0 ≤ h k ∧ h k ≤ 9 ^ m := by
  cases k with
  | inl s =>
    rw [u.one]
    have := pow9 (Nat.zero_le m)
    exact ⟨by decide, by simpa using this⟩
  | inr y =>
    obtain ⟨j, hj, e⟩ := List.getElem_of_mem (show y ∈ NL.take m from hk)
    rw [List.length_take] at hj
    rw [List.getElem_take] at e
    have hj2 : j < R.length := by rw [u.len]; omega
    have g := List.getElem?_eq_getElem hj2
    have e2 := (u.at_ j _ g).1
    rw [List.getElem?_eq_getElem (by omega), e] at e2
    injection e2 with e2
    have b := u.bnd j _ g
    rw [← e2] at b
    exact ⟨b.1, Int.le_trans b.2 (pow9 (by omega))⟩
theorem RulL.sum (u : RulL n i R h) {m : Nat} (hm : m ≤ i) : ∀ (r : Row), RowL n m r → 0 ≤ rowSum h r ∧ rowSum h r ≤ (r.length : Int) * (3 * 9 ^ m)
  | [], _ => ⟨Int.le_refl _, by show (0 : Int) ≤ 0 * _; omega⟩
  | q :: r, hr => by
    obtain ⟨a1, a2⟩ := u.sum hm r ⟨fun z hz => hr.cnt z (List.mem_cons_of_mem _ hz)⟩
    obtain ⟨⟨b1, b2⟩, b3⟩ := hr.cnt q List.mem_cons_self
    obtain ⟨c1, c2⟩ := u.key hm b3
    rw [rowSum_cons, List.length_cons]
    have d1 : 0 ≤ q.2 * h q.1 := Int.mul_nonneg (by omega) c1
    have d2 : q.2 * h q.1 ≤ 3 * 9 ^ m := Int.mul_le_mul b2 c2 c1 (by decide)
    rw [Int.natCast_add, Int.add_mul]
    refine ⟨by omega, ?_⟩
    have : ((1 : Nat) : Int) * (3 * 9 ^ m) = 3 * 9 ^ m := by rw [show ((1 : Nat) : Int) = 1 from rfl, Int.one_mul]
    omega
theorem RulL.names (u : RulL n i R h) (hi : i ≤ 3) : R.map (fun p => p.1) = NL.take i := by
  have ln : NL.length = 3 := rfl
  refine List.ext_getElem (by rw [List.length_map, List.length_take, u.len]; omega) fun j h1 h2 => ?_
  rw [List.length_map] at h1
  rw [List.getElem_map, List.getElem_take]
  have := (u.at_ j _ (List.getElem?_eq_getElem h1)).1
  rw [List.getElem?_eq_getElem (by rw [u.len] at h1; omega)] at this
  injection this with this
  exact this.symm
theorem RulL.snoc (u : RulL n i R h) (hi : i < 3) {nm : Str} (hnm : NL[i]? = some nm) {r : Row} (hl : r.length ≤ 3) (hr : RowL n i r) : RulL n (i + 1) (R ++ [(nm, r)]) (fun k => if k = .inr nm then rowSum h r else h k) := by
  have nt : nm ∉ NL.take i := notin_take NL_nd hnm
  have nin : ∀ p ∈ R, p.1 ≠ nm := fun p hp e => by
    have : p.1 ∈ R.map (fun p => p.1) := List.mem_map.mpr ⟨p, hp, rfl⟩
    rw [u.names (by omega), e] at this
    exact nt this
  have same : ∀ (m : Nat) (r' : Row), m ≤ i → RowL n m r' → rowSum (fun k => if k = .inr nm then rowSum h r else h k) r' = rowSum h r' := fun m r' hm hr' => by
    refine rowSum_congr fun q hq => if_neg fun e => ?_
    have := (hr'.cnt q hq).2
    rw [e] at this
    obtain ⟨j, hj, ej⟩ := List.getElem_of_mem (show nm ∈ NL.take m from this)
    rw [List.length_take] at hj
    rw [List.getElem_take] at ej
    refine nt (List.mem_of_getElem? (i := j) ?_)
    rw [List.getElem?_take_of_lt (by omega), List.getElem?_eq_getElem (by omega), ej]
  have at2 : ∀ (j : Nat) p, (R ++ [(nm, r)])[j]? = some p → R[j]? = some p ∨ (j = i ∧ p = (nm, r)) := fun j p hp => by
    by_cases c : j < R.length
    · rw [List.getElem?_append_left c] at hp
      exact .inl hp
    · rw [List.getElem?_append_right (by omega)] at hp
      have := (List.getElem?_eq_some_iff.mp hp).1
      rw [List.length_singleton] at this
      have e : j - R.length = 0 := by omega
      rw [e] at hp
      injection hp with hp
      exact .inr ⟨by have := u.len; omega, hp.symm⟩
  refine ⟨by rw [List.length_append, u.len]; rfl, fun j p hp => ?_, fun s => ?_, fun p hp => ?_, fun j p hp => ?_⟩
  · rcases at2 j p hp with hp | ⟨rfl, rfl⟩
    · exact u.at_ j p hp
    · exact ⟨hnm, hl, hr⟩
  · exact (if_neg (fun e => by cases e)).trans (u.one s)
  · rcases List.mem_append.mp hp with hp | hp
    · refine (if_neg (fun e => nin p hp (by injection e))).trans ?_
      obtain ⟨j, hj, ej⟩ := List.getElem_of_mem hp
      have g : R[j]? = some p := by rw [List.getElem?_eq_getElem hj, ej]
      rw [same j p.2 (by have := u.len; omega) (u.at_ j p g).2.2]
      exact u.val p hp
    · rw [List.mem_singleton.mp hp]
      refine (if_pos rfl).trans ?_
      exact (same i r (Nat.le_refl _) hr).symm
  · rcases at2 j p hp with hp | ⟨rfl, rfl⟩
    · have e : (if (.inr p.1 : Key) = .inr nm then rowSum h r else h (.inr p.1)) = h (.inr p.1) := if_neg (fun e => nin p (List.mem_of_getElem? hp) (by injection e))
      show 0 ≤ (if (.inr p.1 : Key) = .inr nm then rowSum h r else h (.inr p.1)) ∧ (if (.inr p.1 : Key) = .inr nm then rowSum h r else h (.inr p.1)) ≤ _
      rw [e]
      exact u.bnd j p hp
    · show 0 ≤ (if (.inr nm : Key) = .inr nm then rowSum h r else h (.inr nm)) ∧ (if (.inr nm : Key) = .inr nm then rowSum h r else h (.inr nm)) ≤ _
      rw [if_pos rfl]
      obtain ⟨a1, a2⟩ := u.sum (Nat.le_refl j) r hr
      refine ⟨a1, Int.le_trans a2 ?_⟩
      rw [Int.pow_succ, Int.mul_comm (9 ^ j) 9]
      have h9 : (0 : Int) ≤ 9 ^ j := Int.le_trans (by decide) (pow9 (Nat.zero_le j))
      have : (r.length : Int) * (3 * 9 ^ j) ≤ 3 * (3 * 9 ^ j) := Int.mul_le_mul_of_nonneg_right (by omega) (by omega)
      omega
theorem RulL.ok (u : RulL n 3 R h) (h1 : 1 ≤ n) (h2 : n ≤ 2000) : ROk n R ∧ (∀ p ∈ R, ∀ q ∈ p.2, q.2 ≤ 3) := by
  have nms := u.names (Nat.le_refl 3)
  have e3 : NL.take 3 = NL := rfl
  rw [e3] at nms
  have row : ∀ p ∈ R, ∃ j, j < 3 ∧ NL[j]? = some p.1 ∧ p.2.length ≤ 3 ∧ RowL n j p.2 := fun p hp => by
    obtain ⟨j, hj, ej⟩ := List.getElem_of_mem hp
    exact ⟨j, by rw [u.len] at hj; exact hj, u.at_ j p (by rw [List.getElem?_eq_getElem hj, ej])⟩
  refine ⟨⟨by rw [nms]; exact NL_nd, fun p hp => ?_, fun p hp => ?_, ⟨fun x => NL.idxOf x, fun p hp q hq nm e => ?_⟩, by rw [u.len]; decide, by rw [u.len]; decide, h1, h2⟩, fun p hp q hq => ?_⟩
  · refine NL_ok p.1 ?_
    rw [← nms]
    exact List.mem_map.mpr ⟨p, hp, rfl⟩
  · obtain ⟨j, hj, a, b, c⟩ := row p hp
    refine ⟨by omega, fun q hq => ?_⟩
    obtain ⟨⟨d1, d2⟩, d3⟩ := c.cnt q hq
    refine ⟨⟨d1, by omega⟩, ?_⟩
    cases hk : q.1 with
    | inl s => rw [hk] at d3; exact d3
    | inr y =>
      rw [hk] at d3
      show y ∈ R.map fun p => p.1
      rw [nms]
      exact List.mem_of_mem_take (show y ∈ NL.take j from d3)
  · obtain ⟨j, hj, a, b, c⟩ := row p hp
    have d := (c.cnt q hq).2
    rw [e] at d
    have d' : nm ∈ NL.take j := d
    have f : (List.range 3).all (fun j => (NL.take j).all fun x => decide (NL.idxOf x < NL.idxOf (NL.getD j ""))) = true := by decide +kernel
    have g := of_decide_eq_true (List.all_eq_true.mp (List.all_eq_true.mp f j (List.mem_range.mpr hj)) nm d')
    rw [getD_at a] at g
    exact g
  · obtain ⟨j, hj, a, b, c⟩ := row p hp
    exact (c.cnt q hq).1.2
end
section
variable {K : PySem.W.Frag} {H H' : Hp} {d p : Addr} {kvs : List (Key × V)}
theorem RulesAt.sameD {k : Bool} {R : Rules} (s : SameX p H H') (hp : H p = some (.dK kvs)) (ne : d ≠ p) (h : RulesAt K H d k R) : RulesAt K H' d k R := by
  obtain ⟨kv, h1, h2, h3⟩ := h.ex
  refine ⟨kv, ?_, h2, RpA.sameD s hp h3⟩
  rcases h1 with h1 | ⟨o, h1⟩
  · exact .inl (s _ _ ne h1)
  · exact .inr ⟨o, s _ _ ne h1⟩
theorem RulesAt.snocL {R2 : Rules} {T : Addr} {nm : Str} {ys : List V} {items : Row} (hR : RulesAt K H d true R2) (hd : H d = some (.dK kvs)) (hT : SqL K H T ys) (hys : RpA K H ys (rowP items)) (hn : nm ∉ R2.map fun p => p.1) :
    RulesAt K (upd H d (.dK (putK kvs (.inr nm) (.ref T)))) d true (R2 ++ [(nm, items)]) := by
  obtain ⟨ek, er⟩ := hR.kvs hd
  have hnone : valV kvs (.inr nm) = none := by
    cases h : valV kvs (.inr nm) with
    | none => rfl
    | some v =>
      exfalso
      have h1 := valV_in h
      have h1' : (Sum.inr nm : Key) ∈ kvs.map (fun p => p.1) := h1
      rw [ek] at h1'
      obtain ⟨q, hq, e⟩ := List.mem_map.mp h1'
      injection e with e
      exact hn (List.mem_map.mpr ⟨q, hq, e⟩)
  rw [putK_new _ hnone]
  refine ⟨_, .inl upd_same, ?_, ?_⟩
  · rw [List.map_append, List.map_append, ek]
    rfl
  · rw [List.map_append, List.map_append]
    exact RpA.updK hd (er.append (.cons (.L hT hys) .nil))
end
end WV
end
section
set_option maxRecDepth 100000
set_option maxHeartbeats 4000000
namespace WV
open PySem PySem.Spec PyProof.Rows L2
section
variable {P : Program} {w : World} {K : PySem.W.Frag} {mg : Str → Option Value} {base : Heap}
theorem sc_law_rules : FnScope ["_law_pen_here", "_law_signs", "_law_rules_here", "_law_rows", "_law_names", "_law_at", "_law_name", "_law_row", "_law_found", "_law_k", "_law_part", "_law_count"] ["_law_pen_here", "_law_signs"] (defScope s_law_rules) := ⟨rfl, rfl, rfl, by decide +kernel, rfl, by decide +kernel, by decide +kernel⟩
def sp_law_rules (K : PySem.W.Frag) : Sp := fun vs H Q _ => ∃ (p C : Addr) (cells : List Int) (n a : Int), vs = [.ref p, .int n] ∧ PenOk K H p C cells a ∧ 2 ≤ n ∧ n ≤ 5 ∧ 0 ≤ a ∧ a ≤ 100 ∧
  ∀ H' T Dr L kvs R h zs, SameX p H H' → PenOk K H' p C cells (a + 60) → SqT K H' T [.ref Dr, .ref L] → H' Dr = some (.dK kvs) → RulesAt K H' Dr true R → RulL n 3 R h → H' L = some (.lst zs) → (zs.length : Int) = h (.inr "DEFGHIJK") → Q (.ref T) H'
theorem ok_law_rules (t : T K mg) : Okf P w K mg base 2 ("_law_rules", none) ["_law_pen_here", "_law_signs"] [] (sp_law_rules K) := by
  have O_law_draw := ok_law_draw (P := P) (w := w) (base := base) t
  refine okf (d := d_law_rules) t 76 rfl rfl sc_law_rules (fun _ _ _ _ _ _ us hl => match us, hl with | [_, _], _ => rfl) (fun vs H Q E h => ?_) (fun cdv A outer s H vs Q E hr h => ?_)
  · obtain ⟨p, C, cells, n, a, rfl, _⟩ := h
    rfl
  · obtain ⟨p, C, cells, n, a, rfl, pen, n2, n5, a0, a100, q⟩ := h
    have hu := hu_of hr
    refine ⟨_, (pss_cons (ps_par3 (i := 2) (j := 3) (l := 4) rfl sc_law_rules.nd rfl rfl rfl (by decide) (by decide) (by decide) rfl rfl rfl (pa_cons pe_dnewK (pa_cons pe_dnewK (pa_cons (pe_lst (pa_cons pe_str (pa_cons pe_str (pa_cons pe_str pa_nil)))) pa_nil))) (by rfl))
      (pss_cons (ps_for PassesOwn.never rfl (pi_enumA (by rfl) t.b_enumerate (pa_cons (pv 4) pa_nil)) (pg_tup rfl (pgs_cons (pg_name (i := 5) sc_law_rules.nd rfl (.inl rfl)) (pgs_cons (pg_name (i := 6) sc_law_rules.nd rfl (.inl rfl)) pgs_nil)))
        (pss_cons (ps_par (i := 7) (j := 8) rfl sc_law_rules.nd rfl rfl (by decide) rfl rfl (pa_cons (pe_lst pa_nil) (pa_cons (pe_lst pa_nil) pa_nil)) (by rfl))
        (pss_cons (ps_for PassesOwn.never rfl (pi_range1 (by rfl) t.b_range (pa_cons (pe_op op_add (pe_f O_law_draw (hr.mono (by decide)) t.g_law_draw (pa_cons (pv 0) (pa_cons pe_int pa_nil))) (pe_callTy call_int1 (by rfl) t.b_int bt_int (pa_cons (pe_cmpR op_eq (pv 5) pe_int (nomark _)) pa_nil))) pa_nil)) (pg_name (i := 9) sc_law_rules.nd rfl (.inl rfl))
          (pss_cons (ps_par (i := 10) (j := 11) rfl sc_law_rules.nd rfl rfl (by decide) rfl rfl (pa_cons (pe_f O_law_draw (hr.mono (by decide)) t.g_law_draw (pa_cons (pv 0) (pa_cons (pv 1) pa_nil))) (pa_cons (pe_op op_add pe_int (pe_f O_law_draw (hr.mono (by decide)) t.g_law_draw (pa_cons (pv 0) (pa_cons pe_int pa_nil)))) pa_nil)) (by rfl))
          (pss_cons (ps_if (PW.pt (pw_and (pt_cmpR op_gt (pv 5) pe_int (nomark _)) (pw_and1 (pt_cmpR op_eq (pe_f O_law_draw (hr.mono (by decide)) t.g_law_draw (pa_cons (pv 0) (pa_cons pe_int pa_nil))) pe_int (nomark _)))))
            (pss_one (ps_set (i := 10) sc_law_rules.nd rfl (.inl rfl) (pe_ix ix_list (pv 4) (pe_f O_law_draw (hr.mono (by decide)) t.g_law_draw (pa_cons (pv 0) (pa_cons (pv 5) pa_nil))) (fun _ _ => rfl))))
            pss_nil)
          (pss_cons (ps_expr (pe_bm PySem.F.plainAttrs_list PySem.F.slot_list_append PySem.F.type_list_append mt_append (pv 7) (pa_cons (pe_tup (pa_cons (pv 10) (pa_cons (pv 11) pa_nil))) pa_nil)))
          (pss_one (ps_set (i := 8) sc_law_rules.nd rfl (.inl rfl) (pe_op op_cat (pv 8) (pe_op op_rep (pe_ifExp (pt_val (pe_callB call_isi (by rfl) t.b_isinstance bt_isinstance (pa_cons (pv 10) (pa_cons (pe_bt t.b_str bt_str) pa_nil)))) (pe_dget hu (pv 3) (pv 10) (fun _ _ => rfl)) (pe_lst (pa_cons (pv 10) pa_nil))) (pv 11)))))))))
        (pss_one (ps_asg (pe_tup (pa_cons (pv 7) (pa_cons (pv 8) pa_nil))) (pg_tup rfl (pgs_cons (pg_sub (pv 2) (pv 6) (set_dict hu)) (pgs_cons (pg_sub (pv 3) (pv 6) (set_dict hu)) pgs_nil))))))))
      (pss_one (ps_ret (pe_tup (pa_cons (pv 2) (pa_cons (pe_dget hu (pv 3) pe_str (fun _ _ => rfl)) pa_nil))))))), ?_⟩
    obtain ⟨kp, hp⟩ := pen.isD
    intro Dr hDr Dw hDw
    refine ⟨by show 3 ≤ sizeLine; decide, fun N hN => ⟨_, _, _, rfl, ?_⟩⟩
    have s1 := Same.new (o := .dK []) hDr
    have e1 : (upd H Dr (.dK [])) Dr = some (.dK []) := upd_same
    generalize upd H Dr (.dK []) = H1 at s1 e1 hDw hN
    have s2 := Same.new (o := .dK []) hDw
    have e2 : (upd H1 Dw (.dK [])) Dw = some (.dK []) := upd_same
    have DwDr : Dw ≠ Dr := fun e => by rw [e, e1] at hDw; cases hDw
    have hDwH : H Dw = none := by
      cases h : H Dw with
      | none => rfl
      | some o => rw [s1 _ _ h] at hDw; cases hDw
    have e12 := s2 _ _ e1
    generalize upd H1 Dw (.dK []) = H2 at s2 e2 e12 hN
    have s3 := Same.new (o := .lst [V.str (Str.ofString "A"), V.str (Str.ofString "BC"), V.str (Str.ofString "DEFGHIJK")]) hN
    have s13 := s1.trans (s2.trans s3)
    have e3 : (upd H2 N (.lst [V.str (Str.ofString "A"), V.str (Str.ofString "BC"), V.str (Str.ofString "DEFGHIJK")])) N = some (.lst (NL.map V.str)) := upd_same
    have e13 := s3 _ _ e12
    have d23 : DF (upd H2 N (.lst [V.str (Str.ofString "A"), V.str (Str.ofString "BC"), V.str (Str.ofString "DEFGHIJK")])) Dw 0 fun _ => none := ⟨[], s3 _ _ e2, Nat.le_refl _, fun _ => rfl⟩
    have pen3 := pen.mono s13
    refine ⟨_, rfl, N, NL.map V.str, true, rfl, SqL.of e3, ?_⟩
    generalize upd H2 N (.lst [V.str (Str.ofString "A"), V.str (Str.ofString "BC"), V.str (Str.ofString "DEFGHIJK")]) = H3 at s13 e3 e13 d23 pen3
    clear s1 e1 s2 e2 e12 s3 hDw hN
    have pDr : p ≠ Dr := fun e => by rw [e, hDr] at hp; cases hp
    have pDw : p ≠ Dw := fun e => by rw [e, hDwH] at hp; cases hp
    refine for_it (walk_enumA (k := true) (xs := NL.map V.str)) (fun i σ H' => SameX p H H' ∧ PenOk K H' p C cells (a + 15 * i) ∧ H' N = some (.lst (NL.map V.str)) ∧ ∃ (u5 u6 u7 u8 u9 u10 u11 : Option V) (R : Rules) (h : Key → Int) (kvs : List (Key × V)) (f : Key → Option V), σ = [some (.ref p), some (.int n), some (.ref Dr), some (.ref Dw), some (.ref N), u5, u6, u7, u8, u9, u10, u11] ∧ RulL n i R h ∧ H' Dr = some (.dK kvs) ∧ RulesAt K H' Dr true R ∧ DF H' Dw i f ∧ ∀ q ∈ R, ∃ L zs, f (.inr q.1) = some (.ref L) ∧ H' L = some (.lst zs) ∧ (zs.length : Int) = h (.inr q.1))
      ⟨SameX.of s13, pen3.le (by omega), e3, none, none, none, none, none, none, none, [], fun k => match k with | .inl _ => 1 | .inr _ => 0, [], _, rfl, ⟨rfl, fun j p hp => (by simp at hp), fun _ => rfl, fun p hp => (by cases hp), fun j p hp => (by simp at hp)⟩, e13, ⟨[], .inl e13, rfl, .nil⟩, d23, fun q hq => (by cases hq)⟩ (fun i σ H' _ p => SqL.of p.2.2.1) (fun i y σ H4 H5 hi pp yy => ?_) (fun σ H4 pp => ?_)
    · obtain ⟨m4, pen4, e4, u5, u6, u7, u8, u9, u10, u11, R, h, kvs, f, rfl, ru, eDr, hR, dW, hW⟩ := pp
      obtain ⟨T, x', y', rfl, hT, rfl, ex, ey⟩ := yy
      cases ex
      obtain ⟨nm, hnm, rfl⟩ := strs_at ey
      have i3 : i < 3 := by rw [List.length_map] at hi; exact hi
      refine g_two (SqT.of upd_same) ?_
      have s5 := Same.new (o := .tup [V.int (i : Nat), V.str nm]) hT
      generalize upd H4 T (.tup [V.int (i : Nat), V.str nm]) = H5 at s5
      refine ⟨by show 0 ≤ sizeLine; decide, fun rl hrl => ⟨by show 0 ≤ sizeLine; decide, fun fl hfl => ⟨_, _, rfl, ?_⟩⟩⟩
      have m45 : SameX p H H5 := m4.trans (SameX.of s5)
      have pen5 := pen4.mono s5
      obtain ⟨kp5, hp5⟩ := pen5.isD
      have s6 := Same.new (o := .lst []) hrl
      have e6 : (upd H5 rl (.lst [])) rl = some (.lst []) := upd_same
      generalize upd H5 rl (.lst []) = H6 at s6 e6 hfl
      have s7 := Same.new (o := .lst []) hfl
      have e7 : (upd H6 fl (.lst [])) fl = some (.lst []) := upd_same
      have e67 := s7 _ _ e6
      have s57 := s6.trans s7
      generalize upd H6 fl (.lst []) = H7 at s7 e7 e67 s57
      have flrl : fl ≠ rl := fun e => by rw [e, e6] at hfl; cases hfl
      have prl : rl ≠ p := fun e => by rw [e, hp5] at hrl; cases hrl
      have pfl : fl ≠ p := fun e => by rw [e, s6 _ _ hp5] at hfl; cases hfl
      clear s6 s7 e6
      refine ⟨_, rfl, p, C, cells, 3, _, rfl, pen5.mono s57, by decide, by decide, by omega, fun H8 v m8 pen8 v0 v3 => ?_⟩
      have m58 : SameX p H5 H8 := (SameX.of s57).trans m8
      have e8 := m8 _ _ prl e67
      have eF8 := m8 _ _ pfl e7
      refine ⟨_, rfl, rfl, .inr ⟨_, rfl, _, _, rfl, rfl, _, rfl, ?_⟩⟩
      generalize decide (V.int (i : Nat) = V.int 2) = bb
      have hbb : 0 ≤ (if bb = true then (1 : Int) else 0) ∧ (if bb = true then (1 : Int) else 0) ≤ 1 := by cases bb <;> decide
      generalize (if bb = true then (1 : Int) else 0) = b1 at hbb
      have i2 : (9 : Int) ^ i ≤ 81 := Int.le_trans (pow9 (show i ≤ 2 by omega)) (by decide)
      have hR5 := (hR.mono s5)
      have dW5 := dW.mono s5
      have eN5 := s5 _ _ e4
      obtain ⟨kp4, hp4⟩ := pen4.isD
      refine ⟨by omega, by omega, ?_⟩
      refine for_it walk_range (fun k σ H' => SameX p H5 H' ∧ PenOk K H' p C cells (a + 15 * i + 1 + 4 * k) ∧ ∃ (u9 u10 u11 : Option V) (ys zs : List V) (F : Addr) (r : Row), σ = [some (.ref p), some (.int n), some (.ref Dr), some (.ref Dw), some (.ref N), some (.int (i : Nat)), some (.str nm), some (.ref rl), some (.ref F), u9, u10, u11] ∧ H' rl = some (.lst ys) ∧ RpA K H' ys (rowP r) ∧ H' F = some (.lst zs) ∧ F ≠ rl ∧ (zs.length : Int) = rowSum h r ∧ r.length = k ∧ RowL n i r)
        ⟨m58, pen8.le (by omega), u9, u10, u11, [], [], fl, [], rfl, e8, .nil, eF8, flrl, rfl, rfl, ⟨fun q hq => (by cases hq)⟩⟩ (fun _ _ _ _ _ => trivial) (fun k y σ H9 H10 hk pp yy => ?_) (fun σ H9 pp => ?_)
      · obtain ⟨m9, pen9, u9, u10, u11, ys, zs, F, r, rfl, e9, hr9, eF9, Frl, lz, lr, rw9⟩ := pp
        obtain ⟨rfl, rfl⟩ := yy
        have k3 : k < 3 := by omega
        obtain ⟨kp9, hp9⟩ := pen9.isD
        have pF : F ≠ p := fun e => by rw [e, hp9] at eF9; cases eF9
        refine ⟨_, rfl, _, rfl, p, C, cells, n, _, rfl, pen9, by omega, by omega, by omega, fun H11 v1 m11 pen11 v10 v1n => ?_⟩
        refine ⟨_, rfl, p, C, cells, 3, _, rfl, pen11, by decide, by decide, by omega, fun H12 v2 m12 pen12 v20 v23 => ⟨_, _, rfl, rfl, .int v1, .int (1 + v2), rfl, ?_⟩⟩
        have mX := m11.trans m12
        refine ⟨_, rfl, _, _, rfl, rfl, decide ((0 : Int) < (i : Nat)), rfl, ?_⟩
        by_cases c0 : (0 : Int) < (i : Nat)
        · rw [decide_eq_true c0]
          refine iteT ⟨_, rfl, p, C, cells, 2, _, rfl, pen12, by decide, by decide, by omega, fun H13 v3 m13 pen13 v30 v32 => ⟨rfl, decide (V.int v3 = V.int 0), rfl, ?_⟩⟩
          have mX := mX.trans m13
          by_cases c1 : v3 = 0
          · rw [decide_eq_true (by rw [c1])]
            refine iteT ⟨_, rfl, _, rfl, _, rfl, p, C, cells, (i : Nat), _, rfl, pen13, by omega, by omega, by omega, fun H14 v4 m14 pen14 v40 v4i => ?_⟩
            have mX := mX.trans m14
            have mB := m9.trans mX
            obtain ⟨j4, rfl⟩ : ∃ j : Nat, v4 = j := ⟨v4.toNat, by omega⟩
            have hj4 : j4 < NL.length := by show j4 < 3; omega
            have g4 := List.getElem?_eq_getElem hj4
            have hkB : keyIn n (NL.take i) (.inr NL[j4]) := by
              show NL[j4] ∈ NL.take i
              refine List.mem_of_getElem? (i := j4) ?_
              rw [List.getElem?_take_of_lt (by omega), g4]
            generalize NL[j4] = nk at g4 hkB
            have penB := pen14
            have eB := mX _ _ prl e9
            have rB := RpA.sameD mX hp9 hr9
            have eFB := mX _ _ pF eF9
            refine ⟨N, _, _, .str nk, rfl, rfl, SqL.of (mB _ _ (fun e => by rw [e, hp5] at eN5; cases eN5) eN5), atI_nat (at_strs g4), ?_⟩
            have kb9 := ru.key (Nat.le_refl i) hkB
            have lys : ys.length ≤ 3 := by
              have := rB.len
              rw [rowP_len] at this
              omega
            refine ⟨_, rfl, .inl ⟨rfl, _, SqL.of eB⟩, (V.str nk), rfl, V.int (1 + v2), rfl, by show 2 ≤ sizeLine; decide, fun z hz => ⟨rl, _, _, rfl, rfl, (Same.new hz) _ _ eB, by rw [sizeLine_eq]; omega, ?_⟩⟩
            have sz := Same.new (o := .tup [(V.str nk), V.int (1 + v2)]) hz
            have ez : (upd H14 z (.tup [(V.str nk), V.int (1 + v2)])) z = some (.tup [(V.str nk), V.int (1 + v2)]) := upd_same
            have mz := mB.trans (SameX.of sz)
            have penz := penB.mono sz
            have rz := rB.mono sz
            have eFz := sz _ _ eFB
            have eBz := sz _ _ eB
            generalize upd H14 z (.tup [(V.str nk), V.int (1 + v2)]) = HC at sz ez mz penz rz eFz eBz
            have mC : SameX p H5 (upd HC rl (.lst (ys ++ [.ref z]))) := mz.mutN hrl
            have penC := penz.mutN (o := .lst (ys ++ [.ref z])) pen5 mz hrl
            have eC : (upd HC rl (.lst (ys ++ [.ref z]))) rl = some (.lst (ys ++ [.ref z])) := upd_same
            have rC : RpA K (upd HC rl (.lst (ys ++ [.ref z]))) (ys ++ [.ref z]) (rowP (r ++ [((.inr nk), 1 + v2)])) := by
              unfold rowP
              rw [List.map_append]
              exact (RpA.updL eBz (rowP_noL r) rz).append (RpA.updL eBz rfl (.cons (.T (SqT.of ez) (.cons (.v _) (.cons (.v _) .nil))) .nil))
            have eFC : (upd HC rl (.lst (ys ++ [.ref z]))) F = some (.lst zs) := by
              rw [upd_ne Frl]
              exact eFz
            generalize upd HC rl (.lst (ys ++ [.ref z])) = HD at mC penC eC rC eFC
            have v2n : (1 + v2).toNat ≤ 3 := by omega
            have repLen : ∀ xs : List V, (List.replicate (1 + v2).toNat xs).flatten.length = (1 + v2).toNat * xs.length := fun xs => by simp
            have zs3 := (ru.sum (Nat.le_refl i) r rw9).2
            have zs4 : (r.length : Int) * (3 * 9 ^ i) ≤ 3 * (3 * 81) := Int.mul_le_mul (by omega) (by omega) (by have := pow9 (Nat.zero_le i); omega) (by decide)
            refine ⟨_, rfl, ?_⟩
            obtain ⟨jy, hjy, ejy⟩ := List.getElem_of_mem (show nk ∈ NL.take i from hkB)
            rw [List.length_take] at hjy
            rw [List.getElem_take] at ejy
            have hjR : jy < R.length := by rw [ru.len]; omega
            have gjR := List.getElem?_eq_getElem hjR
            have e2 := (ru.at_ jy _ gjR).1
            rw [List.getElem?_eq_getElem (by omega), ejy] at e2
            injection e2 with e2
            obtain ⟨L, zsL, hfL, hL, hlx⟩ := hW _ (List.getElem_mem hjR)
            rw [← e2] at hfL hlx
            have Lp : L ≠ p := fun e => by rw [e, (show _ = _ from hp4)] at hL; cases hL
            have hLD := mC _ _ Lp (s5 _ _ hL)
            have lx81 : zsL.length ≤ 81 := by omega
            refine ⟨_, rfl, _, _, _, _, true, rfl, .ty _, .base (.str nk), kit_ty (by decide +kernel), true, rfl, iteT ⟨_, rfl, _, rfl, Dw, _, rfl, (dW5.sameX mC (Ne.symm pDw)).get (k := .inr nk) hfL, _, rfl, L, _, _, rfl, rfl, hLD, by omega, by omega, Nat.le_trans (Nat.mul_le_mul lx81 v2n) (by rw [sizeLine_eq]; decide), fun l2 hl2 => ?_⟩⟩
            have sE := Same.new (o := .lst (List.replicate (1 + v2).toNat zsL).flatten) hl2
            refine ⟨F, l2, _, _, rfl, rfl, sE _ _ eFC, upd_same, by rw [repLen, sizeLine_eq]; have : (1 + v2).toNat * zsL.length ≤ 3 * 81 := Nat.mul_le_mul v2n lx81; omega, fun F2 hF2 => ?_⟩
            have sF := sE.trans (Same.new (o := .lst (zs ++ (List.replicate (1 + v2).toNat zsL).flatten)) hF2)
            have eRE := sE _ _ eC
            have F2rl : F2 ≠ rl := fun e => by rw [e, eRE] at hF2; cases hF2
            refine ⟨mC.trans (SameX.of sF), (penC.mono sF).le (by omega), _, _, _, ys ++ [.ref z], zs ++ (List.replicate (1 + v2).toNat zsL).flatten, F2, r ++ [((.inr nk), 1 + v2)], rfl, sF _ _ eC, rC.mono sF, upd_same, F2rl, ?_, ?_, ⟨fun q hq => ?_⟩⟩
            · rw [List.length_append, repLen, rowSum_app, rowSum_cons, ← lz, ← hlx]
              show _ = _ + ((1 + v2) * _ + 0)
              rw [Int.natCast_add, Int.natCast_mul, show (((1 + v2).toNat : Nat) : Int) = 1 + v2 by omega]
              omega
            · rw [List.length_append, lr]
              rfl
            · rcases List.mem_append.mp hq with hq | hq
              · exact rw9.cnt q hq
              · rw [List.mem_singleton.mp hq]
                exact ⟨⟨by show 1 ≤ 1 + v2; omega, by show 1 + v2 ≤ 3; omega⟩, hkB⟩
          · rw [decide_eq_false (fun e => c1 (by injection e))]
            refine iteF ?_
            have mB := m9.trans mX
            have hkB : keyIn n (NL.take i) (.inl v1) := ⟨v10, v1n⟩
            have penB := pen13
            have eB := mX _ _ prl e9
            have rB := RpA.sameD mX hp9 hr9
            have eFB := mX _ _ pF eF9
            have kb9 := ru.key (Nat.le_refl i) hkB
            have lys : ys.length ≤ 3 := by
              have := rB.len
              rw [rowP_len] at this
              omega
            refine ⟨_, rfl, .inl ⟨rfl, _, SqL.of eB⟩, (V.int v1), rfl, V.int (1 + v2), rfl, by show 2 ≤ sizeLine; decide, fun z hz => ⟨rl, _, _, rfl, rfl, (Same.new hz) _ _ eB, by rw [sizeLine_eq]; omega, ?_⟩⟩
            have sz := Same.new (o := .tup [(V.int v1), V.int (1 + v2)]) hz
            have ez : (upd H13 z (.tup [(V.int v1), V.int (1 + v2)])) z = some (.tup [(V.int v1), V.int (1 + v2)]) := upd_same
            have mz := mB.trans (SameX.of sz)
            have penz := penB.mono sz
            have rz := rB.mono sz
            have eFz := sz _ _ eFB
            have eBz := sz _ _ eB
            generalize upd H13 z (.tup [(V.int v1), V.int (1 + v2)]) = HC at sz ez mz penz rz eFz eBz
            have mC : SameX p H5 (upd HC rl (.lst (ys ++ [.ref z]))) := mz.mutN hrl
            have penC := penz.mutN (o := .lst (ys ++ [.ref z])) pen5 mz hrl
            have eC : (upd HC rl (.lst (ys ++ [.ref z]))) rl = some (.lst (ys ++ [.ref z])) := upd_same
            have rC : RpA K (upd HC rl (.lst (ys ++ [.ref z]))) (ys ++ [.ref z]) (rowP (r ++ [((.inl v1), 1 + v2)])) := by
              unfold rowP
              rw [List.map_append]
              exact (RpA.updL eBz (rowP_noL r) rz).append (RpA.updL eBz rfl (.cons (.T (SqT.of ez) (.cons (.v _) (.cons (.v _) .nil))) .nil))
            have eFC : (upd HC rl (.lst (ys ++ [.ref z]))) F = some (.lst zs) := by
              rw [upd_ne Frl]
              exact eFz
            generalize upd HC rl (.lst (ys ++ [.ref z])) = HD at mC penC eC rC eFC
            have v2n : (1 + v2).toNat ≤ 3 := by omega
            have repLen : ∀ xs : List V, (List.replicate (1 + v2).toNat xs).flatten.length = (1 + v2).toNat * xs.length := fun xs => by simp
            have zs3 := (ru.sum (Nat.le_refl i) r rw9).2
            have zs4 : (r.length : Int) * (3 * 9 ^ i) ≤ 3 * (3 * 81) := Int.mul_le_mul (by omega) (by omega) (by have := pow9 (Nat.zero_le i); omega) (by decide)
            refine ⟨_, rfl, ?_⟩
            refine ⟨_, rfl, _, _, _, _, false, rfl, .ty _, .base (.int v1), kit_ty (by decide +kernel), false, rfl, iteF ⟨_, rfl, by show 1 ≤ sizeLine; decide, fun l hl => ?_⟩⟩
            have sl := Same.new (o := .lst [V.int v1]) hl
            have el : (upd HD l (.lst [V.int v1])) l = some (.lst [V.int v1]) := upd_same
            generalize upd HD l (.lst [V.int v1]) = HX at sl el
            refine ⟨_, rfl, l, _, _, rfl, rfl, el, by omega, by omega, (show 1 * (1 + v2).toNat ≤ sizeLine by rw [sizeLine_eq]; omega), fun l2 hl2 => ?_⟩
            have sE := sl.trans (Same.new (o := .lst (List.replicate (1 + v2).toNat [V.int v1]).flatten) hl2)
            refine ⟨F, l2, _, _, rfl, rfl, sE _ _ eFC, upd_same, by rw [repLen, sizeLine_eq]; have : (1 + v2).toNat * [V.int v1].length ≤ 3 * 1 := Nat.mul_le_mul v2n (Nat.le_refl 1); omega, fun F2 hF2 => ?_⟩
            have hlx : (([V.int v1].length : Nat) : Int) = h (.inl v1) := (ru.one v1).symm
            have sF := sE.trans (Same.new (o := .lst (zs ++ (List.replicate (1 + v2).toNat [V.int v1]).flatten)) hF2)
            have eRE := sE _ _ eC
            have F2rl : F2 ≠ rl := fun e => by rw [e, eRE] at hF2; cases hF2
            refine ⟨mC.trans (SameX.of sF), (penC.mono sF).le (by omega), _, _, _, ys ++ [.ref z], zs ++ (List.replicate (1 + v2).toNat [V.int v1]).flatten, F2, r ++ [((.inl v1), 1 + v2)], rfl, sF _ _ eC, rC.mono sF, upd_same, F2rl, ?_, ?_, ⟨fun q hq => ?_⟩⟩
            · rw [List.length_append, repLen, rowSum_app, rowSum_cons, ← lz, ← hlx]
              show _ = _ + ((1 + v2) * _ + 0)
              rw [Int.natCast_add, Int.natCast_mul, show (((1 + v2).toNat : Nat) : Int) = 1 + v2 by omega]
              omega
            · rw [List.length_append, lr]
              rfl
            · rcases List.mem_append.mp hq with hq | hq
              · exact rw9.cnt q hq
              · rw [List.mem_singleton.mp hq]
                exact ⟨⟨by show 1 ≤ 1 + v2; omega, by show 1 + v2 ≤ 3; omega⟩, hkB⟩
        · rw [decide_eq_false c0]
          refine iteF ?_
          have mB := m9.trans mX
          have hkB : keyIn n (NL.take i) (.inl v1) := ⟨v10, v1n⟩
          have penB := pen12
          have eB := mX _ _ prl e9
          have rB := RpA.sameD mX hp9 hr9
          have eFB := mX _ _ pF eF9
          have kb9 := ru.key (Nat.le_refl i) hkB
          have lys : ys.length ≤ 3 := by
            have := rB.len
            rw [rowP_len] at this
            omega
          refine ⟨_, rfl, .inl ⟨rfl, _, SqL.of eB⟩, (V.int v1), rfl, V.int (1 + v2), rfl, by show 2 ≤ sizeLine; decide, fun z hz => ⟨rl, _, _, rfl, rfl, (Same.new hz) _ _ eB, by rw [sizeLine_eq]; omega, ?_⟩⟩
          have sz := Same.new (o := .tup [(V.int v1), V.int (1 + v2)]) hz
          have ez : (upd H12 z (.tup [(V.int v1), V.int (1 + v2)])) z = some (.tup [(V.int v1), V.int (1 + v2)]) := upd_same
          have mz := mB.trans (SameX.of sz)
          have penz := penB.mono sz
          have rz := rB.mono sz
          have eFz := sz _ _ eFB
          have eBz := sz _ _ eB
          generalize upd H12 z (.tup [(V.int v1), V.int (1 + v2)]) = HC at sz ez mz penz rz eFz eBz
          have mC : SameX p H5 (upd HC rl (.lst (ys ++ [.ref z]))) := mz.mutN hrl
          have penC := penz.mutN (o := .lst (ys ++ [.ref z])) pen5 mz hrl
          have eC : (upd HC rl (.lst (ys ++ [.ref z]))) rl = some (.lst (ys ++ [.ref z])) := upd_same
          have rC : RpA K (upd HC rl (.lst (ys ++ [.ref z]))) (ys ++ [.ref z]) (rowP (r ++ [((.inl v1), 1 + v2)])) := by
            unfold rowP
            rw [List.map_append]
            exact (RpA.updL eBz (rowP_noL r) rz).append (RpA.updL eBz rfl (.cons (.T (SqT.of ez) (.cons (.v _) (.cons (.v _) .nil))) .nil))
          have eFC : (upd HC rl (.lst (ys ++ [.ref z]))) F = some (.lst zs) := by
            rw [upd_ne Frl]
            exact eFz
          generalize upd HC rl (.lst (ys ++ [.ref z])) = HD at mC penC eC rC eFC
          have v2n : (1 + v2).toNat ≤ 3 := by omega
          have repLen : ∀ xs : List V, (List.replicate (1 + v2).toNat xs).flatten.length = (1 + v2).toNat * xs.length := fun xs => by simp
          have zs3 := (ru.sum (Nat.le_refl i) r rw9).2
          have zs4 : (r.length : Int) * (3 * 9 ^ i) ≤ 3 * (3 * 81) := Int.mul_le_mul (by omega) (by omega) (by have := pow9 (Nat.zero_le i); omega) (by decide)
          refine ⟨_, rfl, ?_⟩
          refine ⟨_, rfl, _, _, _, _, false, rfl, .ty _, .base (.int v1), kit_ty (by decide +kernel), false, rfl, iteF ⟨_, rfl, by show 1 ≤ sizeLine; decide, fun l hl => ?_⟩⟩
          have sl := Same.new (o := .lst [V.int v1]) hl
          have el : (upd HD l (.lst [V.int v1])) l = some (.lst [V.int v1]) := upd_same
          generalize upd HD l (.lst [V.int v1]) = HX at sl el
          refine ⟨_, rfl, l, _, _, rfl, rfl, el, by omega, by omega, (show 1 * (1 + v2).toNat ≤ sizeLine by rw [sizeLine_eq]; omega), fun l2 hl2 => ?_⟩
          have sE := sl.trans (Same.new (o := .lst (List.replicate (1 + v2).toNat [V.int v1]).flatten) hl2)
          refine ⟨F, l2, _, _, rfl, rfl, sE _ _ eFC, upd_same, by rw [repLen, sizeLine_eq]; have : (1 + v2).toNat * [V.int v1].length ≤ 3 * 1 := Nat.mul_le_mul v2n (Nat.le_refl 1); omega, fun F2 hF2 => ?_⟩
          have hlx : (([V.int v1].length : Nat) : Int) = h (.inl v1) := (ru.one v1).symm
          have sF := sE.trans (Same.new (o := .lst (zs ++ (List.replicate (1 + v2).toNat [V.int v1]).flatten)) hF2)
          have eRE := sE _ _ eC
          have F2rl : F2 ≠ rl := fun e => by rw [e, eRE] at hF2; cases hF2
          refine ⟨mC.trans (SameX.of sF), (penC.mono sF).le (by omega), _, _, _, ys ++ [.ref z], zs ++ (List.replicate (1 + v2).toNat [V.int v1]).flatten, F2, r ++ [((.inl v1), 1 + v2)], rfl, sF _ _ eC, rC.mono sF, upd_same, F2rl, ?_, ?_, ⟨fun q hq => ?_⟩⟩
          · rw [List.length_append, repLen, rowSum_app, rowSum_cons, ← lz, ← hlx]
            show _ = _ + ((1 + v2) * _ + 0)
            rw [Int.natCast_add, Int.natCast_mul, show (((1 + v2).toNat : Nat) : Int) = 1 + v2 by omega]
            omega
          · rw [List.length_append, lr]
            rfl
          · rcases List.mem_append.mp hq with hq | hq
            · exact rw9.cnt q hq
            · rw [List.mem_singleton.mp hq]
              exact ⟨⟨by show 1 ≤ 1 + v2; omega, by show 1 + v2 ≤ 3; omega⟩, hkB⟩
      · obtain ⟨m9, pen9, u9, u10, u11, ys, zs, F, r, rfl, e9, hr9, eF9, Frl, lz, lr, rw9⟩ := pp
        have eDr9 := m9 _ _ (Ne.symm pDr) (s5 _ _ eDr)
        have hR9 := hR5.sameD m9 hp5 (Ne.symm pDr)
        have dW9 := dW5.sameX m9 (Ne.symm pDw)
        have lk : kvs.length = i := by
          have h1 := congrArg List.length (hR5.kvs (s5 _ _ eDr)).1
          rw [List.length_map, List.length_map, ru.len] at h1
          exact h1
        have nin : nm ∉ R.map fun p => p.1 := by
          rw [ru.names (by omega)]
          exact notin_take NL_nd hnm
        refine ⟨_, rfl, _, rfl, by show 2 ≤ sizeLine; decide, fun tp htp => ⟨tp, [.ref rl, .ref F], rfl, SqT.of upd_same, rfl, _, _, rfl, _, rfl, _, rfl, Dr, upd (upd H9 tp (.tup [.ref rl, .ref F])) Dr (.dK (putK kvs (.inr nm) (.ref rl))), rfl, DPut.k (k := .inr nm) (Same.new htp _ _ eDr9) (by rw [lk, sizeLine_eq]; omega), ?_⟩⟩
        have s10 := Same.new (o := .tup [V.ref rl, V.ref F]) htp
        generalize upd H9 tp (.tup [V.ref rl, V.ref F]) = H10 at s10
        have hR11 := (hR9.mono s10).snocL (s10 _ _ eDr9) (SqL.of (s10 _ _ e9)) (hr9.mono s10) nin
        have m11 : SameX p H (upd H10 Dr (.dK (putK kvs (.inr nm) (.ref rl)))) := (m45.trans (m9.trans (SameX.of s10))).mutN hDr
        have pen11 := (pen9.mono s10).mutN (o := .dK (putK kvs (.inr nm) (.ref rl))) pen (m45.trans (m9.trans (SameX.of s10))) hDr
        have eDr11 : (upd H10 Dr (.dK (putK kvs (.inr nm) (.ref rl)))) Dr = some (.dK (putK kvs (.inr nm) (.ref rl))) := upd_same
        have dW11 := (dW9.mono s10).ne (o := .dK (putK kvs (.inr nm) (.ref rl))) DwDr
        have keepL : ∀ L zs, H10 L = some (.lst zs) → (upd H10 Dr (.dK (putK kvs (.inr nm) (.ref rl)))) L = some (.lst zs) := fun L zs e => by
          rw [upd_ne (fun c => by rw [c, s10 _ _ eDr9] at e; cases e)]
          exact e
        have eN11 := keepL N _ (s10 _ _ (m9 _ _ (fun e => by rw [e, hp5] at eN5; cases eN5) eN5))
        have eF11 := keepL F _ (s10 _ _ eF9)
        have hL11 : ∀ L zs, H5 L = some (.lst zs) → (upd H10 Dr (.dK (putK kvs (.inr nm) (.ref rl)))) L = some (.lst zs) := fun L zs e => keepL L zs (s10 _ _ (m9 _ _ (fun c => by rw [c, hp5] at e; cases e) e))
        generalize upd H10 Dr (.dK (putK kvs (.inr nm) (.ref rl))) = H11 at hR11 m11 pen11 eDr11 dW11 eN11 eF11 hL11
        obtain ⟨kvw, p5, d5⟩ := dW11.put (show i < sizeLine by rw [sizeLine_eq]; omega) (.inr nm) (.ref F)
        obtain ⟨kv0, hkv0, _⟩ := dW11.ex
        have keepW : ∀ L zs, H11 L = some (.lst zs) → (upd H11 Dw (.dK kvw)) L = some (.lst zs) := fun L zs e => by
          rw [upd_ne (fun c => by rw [c, hkv0] at e; cases e)]
          exact e
        have ru2 := ru.snoc i3 hnm (show r.length ≤ 3 by omega) rw9
        refine ⟨_, _, rfl, _, rfl, _, rfl, Dw, _, rfl, p5, rfl, m11.mutN hDwH, (pen11.mutN pen m11 hDwH).le (by omega), keepW _ _ eN11, _, _, _, _, _, _, _, R ++ [(nm, r)], _, putK kvs (.inr nm) (.ref rl), _, rfl, ru2, ?_, hR11.updK hkv0 (Ne.symm DwDr), d5, fun q hq => ?_⟩
        · rw [upd_ne (Ne.symm DwDr)]
          exact eDr11
        · rcases List.mem_append.mp hq with hq | hq
          · obtain ⟨L, zsL, a1, a2, a3⟩ := hW q hq
            have ne : (.inr q.1 : Key) ≠ .inr nm := fun e => by
              injection e with e
              exact nin (List.mem_map.mpr ⟨q, hq, e⟩)
            exact ⟨L, zsL, (if_neg ne).trans a1, keepW _ _ (hL11 L zsL (s5 _ _ a2)), by rw [a3]; exact (if_neg ne).symm⟩
          · rw [List.mem_singleton.mp hq]
            exact ⟨F, zs, if_pos rfl, keepW _ _ eF11, by rw [lz]; exact (if_pos rfl).symm⟩
    · obtain ⟨m4, pen4, e4, u5, u6, u7, u8, u9, u10, u11, R, h, kvs, f, rfl, ru, eDr, hR, dW, hW⟩ := pp
      have ru3 : RulL n 3 R h := ru
      have l3 : 2 < R.length := by rw [ru3.len]; decide
      have g2 := List.getElem?_eq_getElem l3
      have e2 := (ru3.at_ 2 _ g2).1
      obtain ⟨L, zs, a1, a2, a3⟩ := hW _ (List.getElem_mem l3)
      have e2' : some (Str.ofString "DEFGHIJK") = some R[2].1 := e2
      injection e2' with e2'
      rw [← e2'] at a1 a3
      refine ⟨_, rfl, _, rfl, Dw, _, rfl, dW.get (k := .inr "DEFGHIJK") a1, by show 2 ≤ sizeLine; decide, fun T hT => ?_⟩
      have s5 := Same.new (o := .tup [V.ref Dr, V.ref L]) hT
      exact q _ T Dr L kvs R h zs (m4.trans (SameX.of s5)) ((pen4.mono s5).le (by show a + 15 * ((3 : Nat) : Int) ≤ _; omega)) (SqT.of upd_same) (s5 _ _ eDr) (hR.mono s5) ru3 (s5 _ _ a2) a3
end
end WV
end
section
set_option maxRecDepth 100000
set_option maxHeartbeats 4000000
namespace WV
open PySem PySem.Spec PyProof.Rows L2
/-! ### what the drawn text keeps, plain -/
section
variable {n : Int} {R : Rules} {h : Key → Int} {root : Str} {ord : List Str}
theorem RulL.sizes (u : RulL n 3 R h) (tx : TxOk n R root ord) : ∀ x ∈ ord, sizes R ord (.inr x) = h (.inr x) := by
  refine val_unique tx.topo (fun x hx => (tx.mem x).mp hx) (fun p hp q hq s e => ?_) (fun p hp => valF_name tx.ok.nd tx.no tx.topo hp ((tx.mem p.1).mpr (List.mem_map.mpr ⟨p, hp, rfl⟩))) u.val
  show valF R ord (fun _ => 1) (.inl s) = _
  rw [valF_sign, u.one]
theorem RulL.le9 (u : RulL n 3 R h) (tx : TxOk n R root ord) : ∀ x ∈ ord, 0 ≤ h (.inr x) ∧ h (.inr x) ≤ 729 := fun x hx => by
  obtain ⟨p, hp, rfl⟩ := List.mem_map.mp ((tx.mem x).mp hx)
  obtain ⟨j, hj, ej⟩ := List.getElem_of_mem hp
  have g : R[j]? = some p := by rw [List.getElem?_eq_getElem hj, ej]
  have b := u.bnd j p g
  rw [u.len] at hj
  exact ⟨b.1, Int.le_trans b.2 (Int.le_trans (pow9 (show j + 1 ≤ 3 by omega)) (by decide))⟩
theorem RulL.tot (u : RulL n 3 R h) (tx : TxOk n R root ord) : totR R ord ≤ 9 := by
  have lo : ord.length ≤ 3 := by
    have h1 := nodup_len ord (R.map fun p => p.1) tx.no (fun x hx => (tx.mem x).mp hx)
    rw [List.length_map, u.len] at h1
    exact h1
  have each : ∀ x ∈ ord, (rowOf R x).length ≤ 3 := fun x hx => by
    obtain ⟨p, hp, rfl⟩ := List.mem_map.mp ((tx.mem x).mp hx)
    rw [rowOf_at tx.ok.nd hp]
    obtain ⟨j, hj, ej⟩ := List.getElem_of_mem hp
    exact (u.at_ j p (by rw [List.getElem?_eq_getElem hj, ej])).2.1
  have key : ∀ l : List Str, (∀ x ∈ l, (rowOf R x).length ≤ 3) → totR R l ≤ 3 * l.length := fun l => by
    induction l with
    | nil => exact fun _ => Nat.le_refl _
    | cons x l ih =>
      intro hl
      have h1 := hl x List.mem_cons_self
      have h2 := ih fun y hy => hl y (List.mem_cons_of_mem _ hy)
      unfold totR at h2 ⊢
      rw [List.map_cons, List.sum_cons, List.length_cons]
      omega
  have := key ord each
  omega
end
section
variable {P : Program} {w : World} {K : PySem.W.Frag} {mg : Str → Option Value} {base : Heap}
theorem sc_law_text : FnScope ["_law_pen_here", "_law_signs", "_law_rules_here", "_law_row"] ["_law_pen_here", "_law_signs"] (defScope s_law_text) := ⟨rfl, rfl, rfl, by decide +kernel, rfl, by decide +kernel, by decide +kernel⟩
def sp_law_text (K : PySem.W.Frag) : Sp := fun vs H Q _ => ∃ (p C : Addr) (cells : List Int) (n a : Int), vs = [.ref p, .int n] ∧ PenOk K H p C cells a ∧ 2 ≤ n ∧ n ≤ 5 ∧ 0 ≤ a ∧ a ≤ 100 ∧
  ∀ H' T xt L R ord zs, SameX p H H' → PenOk K H' p C cells (a + 60) → SqT K H' T [.ref xt, .ref L] → TextAt K H' (.ref xt) n R "DEFGHIJK" ord → TxS n R "DEFGHIJK" ord → R.length = 3 → totR R ord ≤ 9 → H' L = some (.lst zs) → (zs.length : Int) = sizes R ord (.inr "DEFGHIJK") → zs.length ≤ 729 → Q (.ref T) H'
theorem ok_law_text (t : T K mg) : Okf P w K mg base 8 ("_law_text", none) ["_law_pen_here", "_law_signs"] [] (sp_law_text K) := by
  have O_law_rules := ok_law_rules (P := P) (w := w) (base := base) t
  have O_Text_init := ok_Text (P := P) (w := w) (base := base) t
  refine okf (d := d_law_text) t 77 rfl rfl sc_law_text (fun _ _ _ _ _ _ us hl => match us, hl with | [_, _], _ => rfl) (fun vs H Q E h => ?_) (fun cdv A outer s H vs Q E hr h => ?_)
  · obtain ⟨p, C, cells, n, a, rfl, _⟩ := h
    rfl
  · obtain ⟨p, C, cells, n, a, rfl, pen, n2, n5, a0, a100, q⟩ := h
    have hu := hu_of hr
    refine ⟨_, (pss_cons (ps_asg (pe_f O_law_rules (hr.mono (by decide)) t.g_law_rules (pa_cons (pv 0) (pa_cons (pv 1) pa_nil))) (pg_tup rfl (pgs_cons (pg_name (i := 2) sc_law_text.nd rfl (.inl rfl)) (pgs_cons (pg_name (i := 3) sc_law_text.nd rfl (.inl rfl)) pgs_nil))))
      (pss_one (ps_ret (pe_tup (pa_cons (pe_mkf O_Text_init t.m_Text (hr.mono (by decide)) t.g_Text (pa_cons (pv 1) (pa_cons (pv 2) (pa_cons pe_str pa_nil)))) (pa_cons (pv 3) pa_nil)))))), ?_⟩
    refine ⟨_, rfl, _, rfl, p, C, cells, n, a, rfl, pen, n2, n5, a0, a100, fun H1 T Dr L kvs R h zs m1 pen1 hT eDr hR ru eL lz => g_two hT ?_⟩
    obtain ⟨ok, small⟩ := ru.ok (by omega) (by omega)
    have nms := ru.names (Nat.le_refl 3)
    have rootin : Str.ofString "DEFGHIJK" ∈ R.map fun p => p.1 := by
      rw [nms]
      exact List.mem_of_getElem? (i := 2) rfl
    refine ⟨_, rfl, _, rfl, fun y dy hy hdy hyne => ?_⟩
    have sN : Same H1 (upd (upd H1 dy (.own y)) y (.ins (He.ga K "Text") dy [])) := (Same.new hdy).mut hy
    refine ⟨y, dy, Dr, n, "DEFGHIJK", true, R, kvs, H1, rfl, upd_same, sN, hy, eDr, hR, ok, fun p hp q hq => Int.le_trans (small p hp q hq) (by decide), rootin, fun H5 ord m5 tt tx => ⟨rfl, _, rfl, by show 2 ≤ sizeLine; decide, fun T2 hT2 => ?_⟩⟩
    have s15 : Same H1 H5 := SameX.same hy sN m5
    have s6 := Same.new (o := .tup [V.ref y, V.ref L]) hT2
    have ro := (tx.mem _).mpr tx.root
    have e1 := ru.sizes tx _ ro
    have e2 := ru.le9 tx _ ro
    exact q _ T2 y L R ord zs (m1.trans (SameX.of (s15.trans s6))) (pen1.mono (s15.trans s6)) (SqT.of upd_same) (LK.monoT s6 tt) ⟨tx, fun y hy => by rw [ru.sizes tx y hy]; have := ru.le9 tx y hy; omega, by have := ru.tot tx; omega, fun p hp q hq => Int.le_trans (small p hp q hq) (by decide)⟩ ru.len (ru.tot tx) ((s15.trans s6) _ _ eL) (by rw [e1]; exact lz) (by omega)
end
end WV
end
section
set_option maxRecDepth 100000
set_option maxHeartbeats 4000000
namespace WV
open PySem PySem.Spec PyProof.Rows L2
/-! ### costs of sums, plain -/
theorem dot_cons (a b : Int) (x y : List Int) : dot (a :: x) (b :: y) = a * b + dot x y := by
  unfold dot
  rw [List.zipWith_cons_cons, List.sum_cons]
theorem addL_cons (a b : Int) (x y : List Int) : addL (a :: x) (b :: y) = (a + b) :: addL x y := rfl
theorem stp_cons (a b : Int) (x y : List Int) (k : Int) : stp (a :: x) (b :: y) k = (a + k * b) :: stp x y k := rfl
theorem dot_add : ∀ {l a b : List Int}, a.length = l.length → b.length = l.length → dot (addL a b) l = dot a l + dot b l
  | [], [], [], _, _ => rfl
  | [], _ :: _, _, h, _ => by simp at h
  | [], _, _ :: _, _, h => by simp at h
  | _ :: _, [], _, h, _ => by simp at h
  | _ :: _, _, [], _, h => by simp at h
  | x :: l, y :: a, z :: b, h1, h2 => by
    have ih := dot_add (l := l) (a := a) (b := b) (by simpa using h1) (by simpa using h2)
    rw [addL_cons, dot_cons, dot_cons, dot_cons, ih, Int.add_mul]
    omega
theorem dot_stp {k : Int} : ∀ {l a b : List Int}, a.length = l.length → b.length = l.length → dot (stp a b k) l = dot a l + k * dot b l
  | [], [], [], _, _ => by
    show (0 : Int) = 0 + k * 0
    omega
  | [], _ :: _, _, h, _ => by simp at h
  | [], _, _ :: _, _, h => by simp at h
  | _ :: _, [], _, h, _ => by simp at h
  | _ :: _, _, [], _, h => by simp at h
  | x :: l, y :: a, z :: b, h1, h2 => by
    have ih := dot_stp (k := k) (l := l) (a := a) (b := b) (by simpa using h1) (by simpa using h2)
    rw [stp_cons, dot_cons, dot_cons, dot_cons, ih, Int.add_mul, Int.mul_add, Int.mul_assoc]
    omega
theorem stp_zero : ∀ {a b : List Int}, a.length = b.length → stp a b 0 = a
  | [], [], _ => rfl
  | [], _ :: _, h => by simp at h
  | _ :: _, [], h => by simp at h
  | y :: a, z :: b, h => by
    rw [stp_cons, stp_zero (a := a) (b := b) (by simpa using h), Int.zero_mul, Int.add_zero]
/-- full lengths of so many signs -/
structure Fl (m : Nat) (ls : List Int) : Prop where
  len : ls.length = m
  full : Full (ls.map Int.toNat)
  pos : ∀ l ∈ ls, 0 ≤ l
/-- counts of so many signs -/
structure Ct (m : Nat) (ns : List Int) : Prop where
  len : ns.length = m
  pos : ∀ x ∈ ns, 0 ≤ x
theorem dotN_dot : ∀ (ns ls : List Int), (∀ l ∈ ls, 0 ≤ l) → dotN ns (ls.map Int.toNat) = dot ns ls
  | [], _, _ => rfl
  | _ :: _, [], _ => rfl
  | c :: ns, l :: ls, h => by
    have ih := dotN_dot ns ls fun x hx => h x (List.mem_cons_of_mem _ hx)
    have hl := h l List.mem_cons_self
    rw [dot_cons, ← ih]
    show (List.zipWith _ (c :: ns) (l.toNat :: ls.map Int.toNat)).sum = _
    rw [List.zipWith_cons_cons, List.sum_cons, Int.toNat_of_nonneg hl]
    rfl
theorem lo_dot {m : Nat} {ns ls : List Int} (h1 : 1 ≤ m) (hn : Ct m ns) (hl : Fl m ls) : lo ns ≤ dot ns ls := by
  rw [← dotN_dot ns ls hl.pos]
  exact lo_le (by rw [hn.len]; exact h1) hn.pos (by rw [List.length_map, hl.len, hn.len]) hl.full
theorem hgI_pos (ns : List Int) : ∀ l ∈ hgI ns, 0 ≤ l := fun l hl => by
  unfold hgI at hl
  obtain ⟨x, _, rfl⟩ := List.mem_map.mp hl
  exact Int.natCast_nonneg x
theorem hgI_fl {m : Nat} {ns : List Int} (h2 : 2 ≤ m) (hn : Ct m ns) : Fl m (hgI ns) := by
  refine ⟨by rw [hgI_len, hn.len], ?_, hgI_pos ns⟩
  rw [hgI_nat]
  exact (hg_ok (by rw [hn.len]; exact h2) hn.pos).1
theorem hgI_dot {m : Nat} {ns : List Int} (h2 : 2 ≤ m) (hn : Ct m ns) : dot ns (hgI ns) = lo ns := by
  rw [← dotN_dot ns _ (hgI_pos ns), hgI_nat]
  exact (hg_ok (by rw [hn.len]; exact h2) hn.pos).2.1
theorem Ct.add {m : Nat} {a b : List Int} (ha : Ct m a) (hb : Ct m b) : Ct m (addL a b) :=
  ⟨by rw [addL_len (by rw [ha.len, hb.len]), ha.len], addL_pos ha.pos hb.pos⟩
theorem Ct.stp {m : Nat} {a b : List Int} (ha : Ct m a) (hb : Ct m b) {k : Int} (hk : 0 ≤ k) : Ct m (stp a b k) :=
  ⟨by rw [stp_len (by rw [ha.len, hb.len]), ha.len], stp_pos hk ha.pos hb.pos⟩
theorem lo_super {m : Nat} {a b : List Int} (h2 : 2 ≤ m) (ha : Ct m a) (hb : Ct m b) : lo a + lo b ≤ lo (addL a b) := by
  have hl := hgI_fl h2 (ha.add hb)
  rw [← hgI_dot h2 (ha.add hb), dot_add (by rw [ha.len, hl.len]) (by rw [hb.len, hl.len])]
  have := lo_dot (by omega) ha hl
  have := lo_dot (by omega) hb hl
  omega
theorem run_srv {m : Nat} (h2 : 2 ≤ m) {ls : List Int} (hl : Fl m ls) : ∀ (r : List (List Int)) (tot : List Int) (l : Int) (a : Nat), l = lo tot → Ct m tot → (∀ ns ∈ r, Ct m ns) → dot (runFrom tot l r a).1 ls = lo (runFrom tot l r a).1 →
    dot tot ls = lo tot ∧ ∀ (k : Nat) ns, a + k < (runFrom tot l r a).2.2 → r[k]? = some ns → dot ns ls = lo ns
  | [], tot, l, a, _, _, _, h => ⟨h, fun k ns hk => by
      have hk' : a + k < a := hk
      omega⟩
  | ns :: r, tot, l, a, e, ht, hr, h => by
    have n1 := hr ns List.mem_cons_self
    have er : runFrom tot l (ns :: r) a = if lo (addL tot ns) = l + lo ns then runFrom (addL tot ns) (l + lo ns) r (a + 1) else (tot, l, a) := rfl
    by_cases c : lo (addL tot ns) = l + lo ns
    · rw [if_pos c] at er
      rw [er] at h ⊢
      obtain ⟨i1, i2⟩ := run_srv h2 hl r _ _ _ c.symm (ht.add n1) (fun x hx => hr x (List.mem_cons_of_mem _ hx)) h
      rw [dot_add (by rw [ht.len, hl.len]) (by rw [n1.len, hl.len]), c] at i1
      have u1 := lo_dot (by omega) ht hl
      have u2 := lo_dot (by omega) n1 hl
      refine ⟨by omega, fun k ns' hk hn => ?_⟩
      cases k with
      | zero =>
        have : ns = ns' := by simpa using hn
        subst this
        omega
      | succ k => exact i2 k ns' (by omega) (by simpa using hn)
    · rw [if_neg c] at er
      rw [er] at h ⊢
      exact ⟨h, fun k ns hk => by
        have hk' : a + k < a := hk
        omega⟩
theorem TOk.ct {m : Nat} {ts : List (List Int)} (tok : TOk m ts) {ns : List Int} (h : ns ∈ ts) : Ct m ns := ⟨(tok.row ns h).1, (tok.row ns h).2⟩
/-- every code of a plan is least for what it serves -/
theorem srv_all {m : Nat} {ts : List (List Int)} (tok : TOk m ts) {L : List (Nat × Nat)} (ch : Ch ts 0 ts.length L) : Srv ts L := by
  intro p hp k ns h1 h2 hk
  obtain ⟨_, plt, e2⟩ := ch.mem p hp
  obtain ⟨t1, t2⟩ := taken_tot tok plt
  have hfl := hgI_fl tok.two ⟨t1, t2⟩
  have hd := hgI_dot tok.two ⟨t1, t2⟩
  have gp := List.getElem?_eq_getElem plt
  have eg : ts.getD p.1 [] = ts[p.1] := getD_at gp
  have run := run_srv tok.two hfl (ts.drop (p.1 + 1)) (ts.getD p.1 []) (lo (ts.getD p.1 [])) (p.1 + 1) rfl (by rw [eg]; exact tok.ct (List.getElem_mem plt)) (fun x hx => tok.ct (List.mem_of_mem_drop hx)) hd
  obtain ⟨i1, i2⟩ := run
  by_cases c : k = p.1
  · subst c
    have : ts[p.1] = ns := by rw [gp] at hk; exact Option.some.inj hk
    rw [eg, this] at i1
    exact i1
  · rw [e2] at h2
    refine i2 (k - (p.1 + 1)) ns ?_ ?_
    · have h3 : k < (runFrom (ts.getD p.1 []) (lo (ts.getD p.1 [])) (ts.drop (p.1 + 1)) (p.1 + 1)).2.2 := h2
      omega
    · rw [List.getElem?_drop, show p.1 + 1 + (k - (p.1 + 1)) = k by omega]
      exact hk
/-! ### one code for all -/
theorem fold_ct {m : Nat} : ∀ (r : List (List Int)) (tot : List Int), Ct m tot → (∀ ns ∈ r, Ct m ns) → Ct m (r.foldl addL tot)
  | [], _, h, _ => h
  | ns :: r, tot, h, hr => fold_ct r _ (h.add (hr ns List.mem_cons_self)) fun x hx => hr x (List.mem_cons_of_mem _ hx)
theorem fold_super {m : Nat} (h2 : 2 ≤ m) : ∀ (r : List (List Int)) (tot : List Int), Ct m tot → (∀ ns ∈ r, Ct m ns) → lo tot + (r.map lo).sum ≤ lo (r.foldl addL tot)
  | [], tot, _, _ => by
    show lo tot + 0 ≤ lo tot
    omega
  | ns :: r, tot, h, hr => by
    have n1 := hr ns List.mem_cons_self
    have := fold_super h2 r _ (h.add n1) fun x hx => hr x (List.mem_cons_of_mem _ hx)
    have := lo_super h2 h n1
    rw [List.map_cons, List.sum_cons, List.foldl_cons]
    omega
theorem run_all {m : Nat} (h2 : 2 ≤ m) : ∀ (r : List (List Int)) (tot : List Int) (l : Int) (a : Nat), l = lo tot → Ct m tot → (∀ ns ∈ r, Ct m ns) → ((runFrom tot l r a).2.2 = a + r.length ↔ lo (r.foldl addL tot) = l + (r.map lo).sum)
  | [], tot, l, a, e, _, _ => by
    refine ⟨fun _ => ?_, fun _ => rfl⟩
    show lo tot = l + 0
    omega
  | ns :: r, tot, l, a, e, ht, hr => by
    have n1 := hr ns List.mem_cons_self
    have hr' : ∀ x ∈ r, Ct m x := fun x hx => hr x (List.mem_cons_of_mem _ hx)
    have er : runFrom tot l (ns :: r) a = if lo (addL tot ns) = l + lo ns then runFrom (addL tot ns) (l + lo ns) r (a + 1) else (tot, l, a) := rfl
    rw [List.map_cons, List.sum_cons, List.foldl_cons, List.length_cons]
    by_cases c : lo (addL tot ns) = l + lo ns
    · rw [if_pos c] at er
      rw [er]
      have ih := run_all h2 r _ _ (a + 1) c.symm (ht.add n1) hr'
      rw [show a + (r.length + 1) = a + 1 + r.length by omega, ih]
      constructor
      · intro h
        omega
      · intro h
        omega
    · rw [if_neg c] at er
      rw [er]
      have s1 := fold_super h2 r _ (ht.add n1) hr'
      have s2 := lo_super h2 ht n1
      constructor
      · intro h
        have h' : a = a + (r.length + 1) := h
        omega
      · intro h
        omega
theorem fold_at {m : Nat} : ∀ (r : List (List Int)) (tot : List Int), Ct m tot → (∀ ns ∈ r, Ct m ns) → ∀ i, i < m → (r.foldl addL tot).getD i 0 = tot.getD i 0 + (r.map fun ns => ns.getD i 0).sum
  | [], tot, _, _, i, _ => by
    show tot.getD i 0 = tot.getD i 0 + 0
    omega
  | ns :: r, tot, h, hr, i, hi => by
    have n1 := hr ns List.mem_cons_self
    rw [List.foldl_cons, fold_at r _ (h.add n1) (fun x hx => hr x (List.mem_cons_of_mem _ hx)) i hi, List.map_cons, List.sum_cons]
    have e : (addL tot ns).getD i 0 = tot.getD i 0 + ns.getD i 0 := by
      have l1 : i < tot.length := by rw [h.len]; exact hi
      have l2 : i < ns.length := by rw [n1.len]; exact hi
      have l3 : i < (addL tot ns).length := by rw [(h.add n1).len]; exact hi
      rw [getD_at (List.getElem?_eq_getElem l1), getD_at (List.getElem?_eq_getElem l2), getD_at (List.getElem?_eq_getElem l3)]
      exact List.getElem_zipWith
    rw [e]
    omega
theorem colS_fold {m : Nat} {t0 : List Int} {r : List (List Int)} (tok : TOk m (t0 :: r)) : colS (t0 :: r) m = r.foldl addL t0 := by
  have h0 := tok.ct (List.mem_cons_self (a := t0) (l := r))
  have hr : ∀ ns ∈ r, Ct m ns := fun ns hn => tok.ct (List.mem_cons_of_mem _ hn)
  have hf := fold_ct r t0 h0 hr
  refine List.ext_getElem (by rw [colS_len, hf.len]) fun i h1 h2 => ?_
  have hi : i < m := by rw [colS_len] at h1; exact h1
  have e := fold_at r t0 h0 hr i hi
  rw [getD_at (List.getElem?_eq_getElem h2)] at e
  rw [e]
  have e2 : (colS (t0 :: r) m)[i] = ((t0 :: r).map fun ns => ns.getD i 0).sum := by
    show ((List.range m).map fun i => ((t0 :: r).map fun ns => ns.getD i 0).sum)[i]'(by rw [List.length_map, List.length_range]; exact hi) = _
    rw [List.getElem_map, List.getElem_range]
  rw [e2, List.map_cons, List.sum_cons]
theorem Ch.inv {ts : List (List Int)} {a b : Nat} {L : List (Nat × Nat)} (c : Ch ts a b L) (h : a ≠ b) : ∃ L2, L = (a, (takenF ts a).2.2) :: L2 ∧ Ch ts (takenF ts a).2.2 b L2 := by
  cases c with
  | nil => exact absurd rfl h
  | cons _ r => exact ⟨_, rfl, r⟩
theorem Ch.nil_eq {ts : List (List Int)} {a b : Nat} (c : Ch ts a b []) : a = b := by
  cases c
  rfl
/-- one code for all just if the plan has one -/
theorem common_one {m : Nat} {ts : List (List Int)} (tok : TOk m ts) {L : List (Nat × Nat)} (ch : Ch ts 0 ts.length L) : lo (colS ts m) = (ts.map lo).sum ↔ L.length = 1 := by
  have ne := tok.ne
  match ts, tok, ch, ne with
  | t0 :: r, tok, ch, _ =>
    have h0 := tok.ct (List.mem_cons_self (a := t0) (l := r))
    have hr : ∀ ns ∈ r, Ct m ns := fun ns hn => tok.ct (List.mem_cons_of_mem _ hn)
    have ra := run_all tok.two r t0 (lo t0) 1 rfl h0 hr
    have et : (takenF (t0 :: r) 0).2.2 = (runFrom t0 (lo t0) r 1).2.2 := rfl
    rw [colS_fold tok, List.map_cons, List.sum_cons, ← ra, ← et]
    rw [show (1 + r.length) = (t0 :: r).length by rw [List.length_cons]; omega]
    obtain ⟨L2, rfl, ch2⟩ := ch.inv (by rw [List.length_cons]; omega)
    show _ ↔ L2.length + 1 = 1
    constructor
    · intro h
      rw [h] at ch2
      have := ch2.le
      omega
    · intro h
      match L2, ch2, h with
      | [], ch2, _ => exact ch2.nil_eq
/-! ### how long a least code lasts -/
theorem least_zero {m : Nat} {c s ls : List Int} (hc : Ct m c) (hs : Ct m s) (h0 : dot c ls = lo c) : LeastAt c s ls 0 := by
  unfold LeastAt
  have e : stp c s ((0 : Nat) : Int) = c := stp_zero (by rw [hc.len, hs.len])
  rw [e]
  exact h0
theorem least_far {m : Nat} {c s ls : List Int} (h2 : 2 ≤ m) (hc : Ct m c) (hs : Ct m s) (hl : Fl m ls) (hd : dot s ls ≠ lo s) : ∃ B : Nat, ∀ k, B ≤ k → ¬ LeastAt c s ls k := by
  have hl2 := hgI_fl h2 hs
  have e2 := hgI_dot h2 hs
  have u := lo_dot (by omega) hs hl
  refine ⟨(dot c (hgI s) - dot c ls).toNat + 1, fun k hk h => ?_⟩
  unfold LeastAt at h
  have v := lo_dot (by omega) (hc.stp hs (k := (k : Int)) (by omega)) hl2
  rw [← h, dot_stp (by rw [hc.len, hl.len]) (by rw [hs.len, hl.len]), dot_stp (by rw [hc.len, hl2.len]) (by rw [hs.len, hl2.len]), e2] at v
  have w : (k : Int) * 1 ≤ (k : Int) * (dot s ls - lo s) := Int.mul_le_mul_of_nonneg_left (by omega) (by omega)
  rw [Int.mul_sub] at w
  omega
theorem least_ever {m : Nat} {c s ls : List Int} (h2 : 2 ≤ m) (hc : Ct m c) (hs : Ct m s) (hl : Fl m ls) (h0 : dot c ls = lo c) (hd : dot s ls = lo s) (k : Nat) : dot (stp c s k) ls = lo (stp c s k) := by
  have hk := hc.stp hs (k := (k : Int)) (by omega)
  have hl2 := hgI_fl h2 hk
  have e2 := hgI_dot h2 hk
  have u := lo_dot (by omega) hk hl
  rw [dot_stp (by rw [hc.len, hl2.len]) (by rw [hs.len, hl2.len])] at e2
  rw [dot_stp (by rw [hc.len, hl.len]) (by rw [hs.len, hl.len])] at u ⊢
  have v1 := lo_dot (by omega) hc hl2
  have v2 := lo_dot (by omega) hs hl2
  have w : (k : Int) * lo s ≤ (k : Int) * dot s (hgI (stp c s k)) := Int.mul_le_mul_of_nonneg_left v2 (by omega)
  rw [h0, hd] at u ⊢
  omega
end WV
end
section
set_option maxRecDepth 100000
set_option maxHeartbeats 4000000
namespace WV
open PySem PySem.Spec PyProof.Rows L2
/-! ### the canonical codes of at most five signs -/
def pfB : List (List Nat) → Bool
  | [] => true
  | a :: r => (r.all fun b => !preB a b && !preB b a) && pfB r
def okW (ws : List (List Nat)) : Bool := (ws.all fun w => w.all fun c => c == 48 || c == 49) && (pfB ws && ((kr 15 (ws.map List.length) == 32768) && ((ws.all fun w => decide (1 ≤ w.length) && decide (w.length ≤ 15)) && (decide (2 ≤ ws.length) && decide (ws.length ≤ 60)))))
theorem pfB_ok : ∀ {ws : List (List Nat)}, pfB ws = true → ws.Pairwise fun a b => preB a b = false ∧ preB b a = false
  | [], _ => .nil
  | a :: r, h => by
    have h' : ((r.all fun b => !preB a b && !preB b a) && pfB r) = true := h
    rw [Bool.and_eq_true] at h'
    refine List.pairwise_cons.mpr ⟨fun b hb => ?_, pfB_ok h'.2⟩
    have := List.all_eq_true.mp h'.1 b hb
    rw [Bool.and_eq_true] at this
    exact ⟨by simpa using this.1, by simpa using this.2⟩
theorem lensW_nat (ws : List (List Nat)) : (lensW ws).map Int.toNat = ws.map List.length := by
  unfold lensW
  rw [List.map_map]
  rfl
theorem okW_ok {ws : List (List Nat)} (h : okW ws = true) : COk (lensW ws) ws := by
  unfold okW at h
  rw [Bool.and_eq_true, Bool.and_eq_true, Bool.and_eq_true, Bool.and_eq_true, Bool.and_eq_true] at h
  obtain ⟨h1, h2, h3, h4, h5, h6⟩ := h
  have b : ∀ w ∈ ws, 1 ≤ w.length ∧ w.length ≤ 15 := fun w hw => by
    have := List.all_eq_true.mp h4 w hw
    rw [Bool.and_eq_true] at this
    exact ⟨of_decide_eq_true this.1, of_decide_eq_true this.2⟩
  have ll : (lensW ws).length = ws.length := by unfold lensW; rw [List.length_map]
  refine ⟨⟨rfl, fun w hw c hc => ?_, pfB_ok h2⟩, ?_, by rw [ll]; exact of_decide_eq_true h5, by rw [ll]; exact of_decide_eq_true h6, fun l hl => ?_⟩
  · have := List.all_eq_true.mp (List.all_eq_true.mp h1 w hw) c hc
    rw [Bool.or_eq_true] at this
    rcases this with h | h
    · exact .inl (by simpa using h)
    · exact .inr (by simpa using h)
  · rw [lensW_nat]
    refine ⟨15, fun l hl => ?_, ?_⟩
    · obtain ⟨w, hw, rfl⟩ := List.mem_map.mp hl
      exact (b w hw).2
    · rw [eq_of_beq h3]
  · unfold lensW at hl
    obtain ⟨w, hw, rfl⟩ := List.mem_map.mp hl
    have := b w hw
    omega
def allL (k : Nat) : Nat → List (List Nat)
  | 0 => [[]]
  | n + 1 => (List.range k).flatMap fun i => (allL k n).map fun r => (i + 1) :: r
theorem allL_mem {k : Nat} : ∀ {n : Nat} {ls : List Nat}, ls.length = n → (∀ l ∈ ls, 1 ≤ l ∧ l ≤ k) → ls ∈ allL k n
  | 0, [], _, _ => List.mem_singleton.mpr rfl
  | 0, _ :: _, h, _ => by simp at h
  | _ + 1, [], h, _ => by simp at h
  | n + 1, l :: ls, h, hb => by
    have hl := hb l List.mem_cons_self
    refine List.mem_flatMap.mpr ⟨l - 1, List.mem_range.mpr (by omega), List.mem_map.mpr ⟨ls, allL_mem (by simpa using h) fun x hx => hb x (List.mem_cons_of_mem _ hx), ?_⟩⟩
    show (l - 1 + 1) :: ls = l :: ls
    rw [show l - 1 + 1 = l by omega]
def toI (ls : List Nat) : List Int := ls.map fun l : Nat => (l : Int)
def chkW (n : Nat) (ws : List (List Nat)) : Bool := (List.range n).all fun sg => (List.range (n + 1)).all fun r => okW (putW ws sg r) && (strikeW (putW ws sg r) r == ws)
def chk (ls : List Nat) : Bool := (okW (canonF (toI ls)) && (lensW (canonF (toI ls)) == toI ls)) && chkW ls.length (canonF (toI ls))
theorem all2 : (allL 1 2).all (fun ls => !(kr 4 ls == 16) || chk ls) = true := by decide +kernel
theorem all3 : (allL 2 3).all (fun ls => !(kr 4 ls == 16) || chk ls) = true := by decide +kernel
theorem all4 : (allL 3 4).all (fun ls => !(kr 4 ls == 16) || chk ls) = true := by decide +kernel
theorem all5 : (allL 4 5).all (fun ls => !(kr 4 ls == 16) || chk ls) = true := by decide +kernel
theorem chk_of {ns : List Int} (h2 : 2 ≤ ns.length) (h5 : ns.length ≤ 5) (h0 : ∀ c ∈ ns, 0 ≤ c) : chk (hg ns) = true := by
  obtain ⟨f, _, b⟩ := hg_ok h2 h0
  have hl := hg_len ns
  have e := f.at (m := 4) fun l hl => by have := b l hl; omega
  have key : ∀ k n, hg ns ∈ allL k n → (allL k n).all (fun ls => !(kr 4 ls == 16) || chk ls) = true → chk (hg ns) = true := fun k n hm ha => by
    have := List.all_eq_true.mp ha _ hm
    rw [e] at this
    simpa using this
  have hb : ∀ k n, ns.length = n → k + 1 = n → hg ns ∈ allL k n := fun k n h1 h2 => allL_mem (by omega) fun l hl => by have := b l hl; omega
  rcases (show ns.length = 2 ∨ ns.length = 3 ∨ ns.length = 4 ∨ ns.length = 5 by omega) with h | h | h | h
  · exact key 1 2 (hb 1 2 h rfl) all2
  · exact key 2 3 (hb 2 3 h rfl) all3
  · exact key 3 4 (hb 3 4 h rfl) all4
  · exact key 4 5 (hb 4 5 h rfl) all5
structure Small (ls : List Int) (ws : List (List Nat)) : Prop where
  ok : COk ls ws
  put : ∀ sg r, sg < ws.length → r ≤ ws.length → COk (lensW (putW ws sg r)) (putW ws sg r) ∧ strikeW (putW ws sg r) r = ws
theorem small_of {ns : List Int} (h2 : 2 ≤ ns.length) (h5 : ns.length ≤ 5) (h0 : ∀ c ∈ ns, 0 ≤ c) : Small (hgI ns) (canonF (hgI ns)) := by
  have h := chk_of h2 h5 h0
  have ei : toI (hg ns) = hgI ns := rfl
  unfold chk at h
  rw [ei, Bool.and_eq_true, Bool.and_eq_true] at h
  obtain ⟨⟨a, b⟩, c⟩ := h
  have el := eq_of_beq b
  have ok := okW_ok a
  rw [el] at ok
  have lw := ok.lenW
  have lh : (hgI ns).length = (hg ns).length := by unfold hgI; rw [List.length_map]
  refine ⟨ok, fun sg r hs hr => ?_⟩
  unfold chkW at c
  have c1 := List.all_eq_true.mp (List.all_eq_true.mp c sg (List.mem_range.mpr (by omega))) r (List.mem_range.mpr (by omega))
  rw [Bool.and_eq_true] at c1
  exact ⟨okW_ok c1.1, eq_of_beq c1.2⟩
end WV
end
section
set_option maxRecDepth 100000
set_option maxHeartbeats 8000000
namespace WV
open PySem PySem.Spec PyProof.Rows L2
/-! ### words for the law -/
section
variable {K : PySem.W.Frag} {H H' : Hp} {p C : Addr} {cells : List Int} {a : Int}
theorem CodeAt.sameP {v : V} {ls : List Int} {ws : List Str} (pen : PenOk K H p C cells a) (s : SameX p H H') (h : CodeAt K H v ls ws) : CodeAt K H' v ls ws := by
  obtain ⟨kvs, hk⟩ := pen.isD
  obtain ⟨b, dx, tl, tw, m, rfl, h1, h2, h3⟩ := h.ex
  exact ⟨b, dx, tl, tw, m, rfl, s _ _ (fun e => by rw [e, hk] at h1; cases h1) h1, s.tupD hk h2, s.tupD hk h3⟩
theorem penD_none (C : Addr) (a r : Int) : valV (penD C a r) (.inr (Str.ofString "DEFGHIJK")) = none := by with_unfolding_all rfl
theorem TextAt.sameP {v : V} {n : Int} {R : Rules} {ord : List Str} (pen : PenOk K H p C cells a) (s : SameX p H H') (tx : TxOk n R (Str.ofString "DEFGHIJK") ord) (h : TextAt K H v n R (Str.ofString "DEFGHIJK") ord) : TextAt K H' v n R (Str.ofString "DEFGHIJK") ord := by
  obtain ⟨at_, rest, hk, _⟩ := pen.ex
  obtain ⟨x, dx, oo, dr, ds, dp, kvs, ex, hx, ho, hdr, hR, lk⟩ := h.ex
  have drp : dr ≠ p := fun e => by
    rw [e, hk] at hdr
    injection hdr with hdr
    injection hdr with hdr
    obtain ⟨ek, _⟩ := hR.kvs (show H dr = some (.dK kvs) by rw [e, hk, hdr])
    have h1 : (Sum.inr (Str.ofString "DEFGHIJK") : Key) ∈ kvs.map fun p => p.1 := by
      rw [ek]
      obtain ⟨q, hq, eq⟩ := List.mem_map.mp tx.root
      exact List.mem_map.mpr ⟨q, hq, by rw [eq]⟩
    rw [← hdr] at h1
    exact valV_not (penD_none C at_ rest) h1
  have dsp : ds ≠ p := fun e => by
    obtain ⟨m, f, hm, df, hf⟩ := lk.ex
    obtain ⟨kv, h1, h2, h3⟩ := df.ex
    rw [e, hk] at h1
    injection h1 with h1
    injection h1 with h1
    have h4 := h3 (.inr (Str.ofString "DEFGHIJK"))
    rw [← h1, penD_none, hf _ tx.root] at h4
    cases h4
  refine ⟨x, dx, oo, dr, ds, dp, kvs, ex, s _ _ (fun e => by rw [e, hk] at hx; cases hx) hx, s _ _ (fun e => by rw [e, hk] at ho; cases ho) ho, s _ _ drp hdr, hR.sameD s hk drp, ?_⟩
  obtain ⟨m, f, hm, df, hf⟩ := lk.ex
  exact ⟨m, f, hm, df.sameX s dsp, hf⟩
end
theorem iD_noL (ns : List Int) : noLs (iD ns) = true := noLs_of fun d hd => by
  obtain ⟨x, _, rfl⟩ := List.mem_map.mp hd
  rfl
theorem hD_noL (ts : List (List Int)) : noLs (hD ts) = true := noLs_of fun d hd => by
  obtain ⟨ns, _, rfl⟩ := List.mem_map.mp hd
  show (true && (noLs (iD ns) && true)) = true
  rw [iD_noL]
  rfl
theorem rowD_noL (ts : List (List Int)) : noLs (rowD ts) = true := noLs_of fun d hd => by
  obtain ⟨ns, _, rfl⟩ := List.mem_map.mp hd
  exact iD_noL ns
theorem one_item {n : Int} {R R3 : Rules} {ord ord3 : List Str} {root3 : Str} {items : Row} (h : ∀ g, valF R3 ord3 g (.inr root3) = rowSum (valF R ord g) items) : tlyF n R3 ord3 [(.inr root3, 1)] = tlyF n R ord items := by
  unfold tlyF
  refine List.map_congr_left fun s _ => ?_
  rw [rowSum_cons, ← h]
  show 1 * valF R3 ord3 (one1 (s : Nat)) (.inr root3) + 0 = _
  omega
section
variable {K : PySem.W.Frag} {H : Hp} {Q : VK} {E : XK}
/-- common's promise with one way on -/
theorem common_use {t : T K mg} {a : Addr} {xs : List V} {m : Nat} {ts : List (List Int)} (ha : SqL K H a xs) (hx : RpA K H xs (rowD ts)) (tok : TOk m ts) (h4 : ts.length ≤ 4) (hm : m ≤ 16)
    (q : ∀ H' x ty b, Same H H' → TyX K H' (.ref x) ty → PySem.W.kitOne K ty (.ref (He.ga K "Common")) = some b → (b = true ↔ lo (colS ts m) = (ts.map lo).sum) → Q (.ref x) H') : sp_common K [.ref a] H Q E := by
  refine ⟨a, xs, m, ts, rfl, ha, hx, tok, h4, hm, fun h H' x dx fs s hx => ?_, fun h H' x dx fs s hx => ?_⟩
  · exact q H' x (.ref (He.ga K "Common")) true s (t.tyOf t.xM t.c_Common hx) (kit_self K _) ⟨fun _ => h, fun _ => rfl⟩
  · exact q H' x (.ref (He.ga K "Apart")) false s (t.tyOf t.xA t.c_Apart hx) t.xAM ⟨fun h2 => absurd h2 Bool.false_ne_true, fun h2 => absurd h2 h⟩
theorem PlanAt.mono {H' : Hp} {v : V} {ts : List (List Int)} {L : List (Nat × Nat)} (e : Same H H') (h : PlanAt K H v ts L) : PlanAt K H' v ts L :=
  let ⟨x, dx, h', c', s', cvs, e1, e2, e3, e4, e5, e6⟩ := h.ex; ⟨x, dx, h', c', s', cvs, e1, e _ _ e2, e3.mono e, e4.mono e, e5.mono e, e6.mono e⟩
def LastOk (c s ls : List Int) : Option Nat → Prop
  | none => dot s ls = lo s
  | some k => LeastAt c s ls k ∧ ¬ LeastAt c s ls (k + 1)
def lastV : Option Nat → V
  | none => .non
  | some k => .int k
theorem lasts_use {cv : V} {a b : Addr} {ls : List Int} {ws : List Str} {c s : List Int} {m : Nat} (h2 : 2 ≤ m) (cc : CC K H cv a ls ws c) (hb : SqA K H b (s.map V.int)) (hc : Ct m c) (hs : Ct m s) (hl : Fl m ls) (s3 : ∀ x ∈ s, x ≤ 1000) (h0 : dot c ls = lo c)
    (q : ∀ H' o, Same H H' → LastOk c s ls o → Q (lastV o) H') : sp_lasts K [cv, .ref a, .ref b] H Q E := by
  refine ⟨cv, a, b, ls, ws, c, s, rfl, cc, hb, by rw [hs.len, hc.len], fun x hx => ⟨hs.pos x hx, s3 x hx⟩, h0, least_zero hc hs h0, fun h => least_far h2 hc hs hl h, fun h H' s => q H' none s h, fun h H' k s h1 h2 => q H' (some k) s ⟨h1, h2⟩⟩
def timesF : Option Nat → List Int
  | none => [0, 1, 2, 5]
  | some k => [0, (k : Int), (k : Int) + 1]
/-- the times at which the law asks -/
theorem times_use {σ : L2.St} {o : Option Nat} (h16 : σ[16]? = some (some (lastV o))) (q : ∀ H' T, Same H H' → H' T = some (.lst ((timesF o).map V.int)) → Q (.ref T) H') :
    tIf (tTest (tOp (fun x y H Q => y = .non ∧ Q (.bl (decide (x = .non))) H) (tVar 16) (tC .non))) (tLst (tCons (tC (.int 0)) (tCons (tC (.int 1)) (tCons (tC (.int 2)) (tCons (tC (.int 5)) tNil)))))
      (tLst (tCons (tC (.int 0)) (tCons (tVar 16) (tCons (tOp (rI0 fun i j => .int (i + j)) (tVar 16) (tC (.int 1))) tNil)))) σ H Q := by
  refine ⟨_, h16, rfl, _, rfl, ?_⟩
  cases o with
  | none => exact iteT ⟨by show 4 ≤ sizeLine; decide, fun T hT => q _ T (Same.new hT) upd_same⟩
  | some k => exact iteF ⟨_, h16, _, h16, _, _, rfl, rfl, by show 3 ≤ sizeLine; decide, fun T hT => q _ T (Same.new hT) upd_same⟩
theorem times_ok {c s ls : List Int} {m : Nat} (h2 : 2 ≤ m) (hc : Ct m c) (hs : Ct m s) (hl : Fl m ls) (h0 : dot c ls = lo c) {o : Option Nat} (h : LastOk c s ls o) : ∀ tm ∈ timesF o, 0 ≤ tm ∧ tm < 2 ^ 62 ∨ 0 ≤ tm := fun tm ht => .inr (by
  cases o with
  | none =>
    rcases List.mem_cons.mp ht with rfl | ht
    · decide
    rcases List.mem_cons.mp ht with rfl | ht
    · decide
    rcases List.mem_cons.mp ht with rfl | ht
    · decide
    rw [List.mem_singleton.mp ht]
    decide
  | some k =>
    rcases List.mem_cons.mp ht with rfl | ht
    · decide
    rcases List.mem_cons.mp ht with rfl | ht
    · omega
    rw [List.mem_singleton.mp ht]
    omega)
/-- a code is least at a time just if the time is not past the last -/
theorem times_is {c s ls : List Int} {m : Nat} (h2 : 2 ≤ m) (hc : Ct m c) (hs : Ct m s) (hl : Fl m ls) (h0 : dot c ls = lo c) {o : Option Nat} (h : LastOk c s ls o) : ∀ tm ∈ timesF o, (dot (stp c s tm) ls = lo (stp c s tm)) ↔ (∀ k, o = some k → tm ≤ (k : Int)) := fun tm ht => by
  cases o with
  | none =>
    have e : ∀ k : Nat, dot (stp c s k) ls = lo (stp c s k) := fun k => least_ever h2 hc hs hl h0 h k
    refine ⟨fun _ k hk => (by cases hk), fun _ => ?_⟩
    rcases List.mem_cons.mp ht with rfl | ht
    · exact e 0
    rcases List.mem_cons.mp ht with rfl | ht
    · exact e 1
    rcases List.mem_cons.mp ht with rfl | ht
    · exact e 2
    rw [List.mem_singleton.mp ht]
    exact e 5
  | some k =>
    obtain ⟨h3, h4⟩ := h
    rcases List.mem_cons.mp ht with rfl | ht
    · exact ⟨fun _ k' hk => (by injection hk with hk; omega), fun _ => least_zero hc hs h0⟩
    rcases List.mem_cons.mp ht with rfl | ht
    · exact ⟨fun _ k' hk => (by injection hk with hk; omega), fun _ => h3⟩
    rw [List.mem_singleton.mp ht]
    refine ⟨fun h => absurd h h4, fun h => ?_⟩
    have := h k rfl
    omega
end
end WV
end
section
set_option maxRecDepth 100000
set_option maxHeartbeats 8000000
namespace WV
open PySem PySem.Spec PyProof.Rows L2
section
variable {P : Program} {w : World} {K : PySem.W.Frag} {mg : Str → Option Value} {base : Heap}
theorem sc_law : FnScope ["_law_script", "_law_pen_here", "_law_signs", "_law_text_here", "_law_row", "_law_places", "_law_history", "_law_rows", "_law_now", "_law_place", "_law_tally", "_law_told", "_law_index", "_law_code", "_law_beginning", "_law_step", "_law_last", "_law_times", "_law_counts", "_law_rank", "_law_k", "_law_sign", "_law_one", "_law_more"] ["_law_script"] (defScope s_law) := ⟨rfl, rfl, rfl, by decide +kernel, rfl, by decide +kernel, by decide +kernel⟩
def sp_law (K : PySem.W.Frag) : Sp := fun vs H Q _ => ∃ (a : Addr) (ns : List Int), vs = [.ref a] ∧ SqL K H a (ns.map V.int) ∧ ∀ H', Q (.bl true) H'
theorem okfF {d : He.DefD} {N ps : List Str} {k : Nat} {sp : Sp} {fd : FuncData} (F : FunD K d.name d.qual d.params d.body d.scope (d.dvs K) (d.kws K) (He.fAd K d.at_) fd) (S : FnScope N ps d.scope)
    (len : ∀ vs H Q E, sp vs H Q E → vs.length = ps.length)
    (body : ∀ (cdv : Value) (A : Around) (outer : List Env) (s : Shared) (H : Hp) (vs : List V) (Q : VK) (E : XK), Room k (A.deeper (envOfC d.qual d.scope s.heap.objs.size (He.fAd K d.at_) cdv)) → sp vs H Q E →
      ∃ t, PSs (cxOf CX0 P w K mg base N d.qual d.scope (He.fAd K d.at_) cdv A outer s H E).nox d.body t ∧ t { nx := fun _ H' => Q .non H', rt := Q } (start N vs) H) :
    FnOk P w K mg base CX0 (k + 1) (He.fAd K d.at_) fd ps sp :=
  F.ok S len fun cdv A outer s H vs Q E hr hsp => by
    obtain ⟨tt, h, q⟩ := body cdv A outer s H vs Q E hr hsp
    exact ⟨tt, h.nox, q⟩
theorem ok_law (t : T K mg) {fd : FuncData} (F : FunD K d_law.name d_law.qual d_law.params d_law.body d_law.scope (d_law.dvs K) (d_law.kws K) (He.fAd K d_law.at_) fd) : FnOk P w K mg base CX0 10 (He.fAd K d_law.at_) fd ["_law_script"] (sp_law K) := by
  have O_law_pen := ok_law_pen (P := P) (w := w) (base := base) t
  have O_law_draw := ok_law_draw (P := P) (w := w) (base := base) t
  have O_law_text := ok_law_text (P := P) (w := w) (base := base) t
  have O_Text_ahead := ok_ahead (P := P) (w := w) (base := base) t
  have O_plan_codes := ok_plan_codes (P := P) (w := w) (base := base) t
  have O_is_plan := ok_is_plan (P := P) (w := w) (base := base) t
  have O_code_at := ok_code_at (P := P) (w := w) (base := base) t
  have O_cut_out := ok_cut_out (P := P) (w := w) (base := base) t
  have O_is_least := ok_is_least (P := P) (w := w) (base := base) t
  have O_cost := ok_cost (P := P) (w := w) (base := base) t
  have O_least_cost := ok_least_cost (P := P) (w := w) (base := base) t
  have O_Text_tally := ok_tally (P := P) (w := w) (base := base) t
  have O_Coded_init := ok_Coded (P := P) (w := w) (base := base) t
  have O_common := ok_common (P := P) (w := w) (base := base) t
  have O_least_code := ok_least_code (P := P) (w := w) (base := base) t
  have O_lasts := ok_lasts (P := P) (w := w) (base := base) t
  have O_put_sign := ok_put_sign (P := P) (w := w) (base := base) t
  have O_strike_sign := ok_strike_sign (P := P) (w := w) (base := base) t
  have O_Code_eq := ok_Code_eq (P := P) (w := w) (base := base) t
  refine okfF (d := d_law) F sc_law (fun vs H Q E h => ?_) (fun cdv A outer s H vs Q E hr h => ?_)
  · obtain ⟨a, ns, rfl, _⟩ := h
    rfl
  · obtain ⟨a, ns, rfl, ha, q⟩ := h
    have hu := hu_of hr
    refine ⟨_, (pss_cons (ps_set (i := 1) sc_law.nd rfl (.inr rfl) (pe_f O_law_pen (hr.mono (by decide)) t.g_law_pen (pa_cons (pv 0) pa_nil)))
      (pss_cons (ps_set (i := 2) sc_law.nd rfl (.inl rfl) (pe_op op_add pe_int (pe_f O_law_draw (hr.mono (by decide)) t.g_law_draw (pa_cons (pv 1) (pa_cons pe_int pa_nil)))))
      (pss_cons (ps_asg (pe_f O_law_text (hr.mono (by decide)) t.g_law_text (pa_cons (pv 1) (pa_cons (pv 2) pa_nil))) (pg_tup rfl (pgs_cons (pg_name (i := 3) sc_law.nd rfl (.inl rfl)) (pgs_cons (pg_name (i := 4) sc_law.nd rfl (.inr rfl)) pgs_nil))))
      (pss_cons (ps_set (i := 5) sc_law.nd rfl (.inl rfl) (pe_callB cr_sortedI (by rfl) t.b_sorted bt_sorted (pa_cons (pe_lc (own := [("_law_k", 20)]) (g := gName 20) (tt := tYes) rfl sc_law.nd (pi_range1 (by rfl) t.b_range (pa_cons (pe_op op_add pe_int (pe_f O_law_draw (hr.mono (by decide)) t.g_law_draw (pa_cons (pv 1) (pa_cons pe_int pa_nil)))) pa_nil)) (blkOk_by (own := [("_law_k", 20)]) (N := ["_law_script", "_law_pen_here", "_law_signs", "_law_text_here", "_law_row", "_law_places", "_law_history", "_law_rows", "_law_now", "_law_place", "_law_tally", "_law_told", "_law_index", "_law_code", "_law_beginning", "_law_step", "_law_last", "_law_times", "_law_counts", "_law_rank", "_law_k", "_law_sign", "_law_one", "_law_more"]) (sc := defScope s_law) (by decide +kernel)) (fun _ _ _ _ _ => (pg_name (i := 20) sc_law.nd rfl (.inl rfl))) (fun _ _ _ _ _ => pts_nil) (fun _ _ _ _ _ => (pe_f O_law_draw (hr.mono (by decide)) t.g_law_draw (pa_cons (pv 1) (pa_cons (pe_op op_add (pe_callB (call_len_seqK (K := K) rfl) (by rfl) t.b_len bt_len (pa_cons (pv 4) pa_nil)) pe_int) pa_nil))))) pa_nil)))
      (pss_cons (ps_par3 (i := 6) (j := 7) (l := 8) rfl sc_law.nd rfl rfl rfl (by decide) (by decide) (by decide) rfl rfl rfl (pa_cons (pe_lst pa_nil) (pa_cons (pe_lst pa_nil) (pa_cons (pv 3) pa_nil))) (by rfl))
      (pss_cons (ps_for PassesOwn.never rfl (pi_list (pv 5)) (pg_name (i := 9) sc_law.nd rfl (.inl rfl))
        (pss_cons (ps_set (i := 10) sc_law.nd rfl (.inl rfl) (pe_mf O_Text_ahead (hr.mono (by decide)) (pv 8) t.c_Text t.h_Text_ahead (pa_cons (pv 9) pa_nil)))
        (pss_cons (ps_expr (pe_bm PySem.F.plainAttrs_list PySem.F.slot_list_append PySem.F.type_list_append mt_append (pv 6) (pa_cons (pe_tup (pa_cons pe_str (pa_cons (pv 10) pa_nil))) pa_nil)))
        (pss_one (ps_expr (pe_bm PySem.F.plainAttrs_list PySem.F.slot_list_append PySem.F.type_list_append mt_append (pv 7) (pa_cons (pv 10) pa_nil)))))))
      (pss_cons (ps_set (i := 11) sc_law.nd rfl (.inl rfl) (pe_f O_plan_codes (hr.mono (by decide)) t.g_plan_codes (pa_cons (pv 6) pa_nil)))
      (pss_cons (ps_if (pt_cmpR op_isnot_bl (pe_f O_is_plan (hr.mono (by decide)) t.g_is_plan (pa_cons (pv 11) pa_nil)) pe_bl (nomark _))
        (pss_one (ps_ret pe_bl))
        pss_nil)
      (pss_cons (ps_for PassesOwn.never rfl (pi_enumA (by rfl) t.b_enumerate (pa_cons (pv 5) pa_nil)) (pg_tup rfl (pgs_cons (pg_name (i := 12) sc_law.nd rfl (.inl rfl)) (pgs_cons (pg_name (i := 9) sc_law.nd rfl (.inl rfl)) pgs_nil)))
        (pss_cons (ps_set (i := 13) sc_law.nd rfl (.inl rfl) (pe_f O_code_at (hr.mono (by decide)) t.g_code_at (pa_cons (pv 11) (pa_cons (pv 12) pa_nil))))
        (pss_cons (ps_set (i := 14) sc_law.nd rfl (.inl rfl) (pe_f O_cut_out (hr.mono (by decide)) t.g_cut_out (pa_cons (pv 3) (pa_cons pe_int (pa_cons (pv 9) pa_nil)))))
        (pss_cons (ps_if (PW.pt (pw_or (pt_cmpR op_ne (pe_f O_cost (hr.mono (by decide)) t.g_cost (pa_cons (pv 13) (pa_cons (pe_ix ix_list (pv 7) (pv 12) (fun _ _ => rfl)) pa_nil))) (pe_f O_least_cost (hr.mono (by decide)) t.g_least_cost (pa_cons (pe_ix ix_list (pv 7) (pv 12) (fun _ _ => rfl)) pa_nil)) (nomark _)) (pw_or1 (pt_not (pt_val (pe_f O_is_least (hr.mono (by decide)) t.g_is_least (pa_cons (pv 13) (pa_cons (pe_ix ix_list (pv 7) (pv 12) (fun _ _ => rfl)) pa_nil))))))))
          (pss_one (ps_ret pe_bl))
          pss_nil)
        (pss_one (ps_if (PW.pt (pw_or (pt_cmpR op_ne (pe_fld (pe_mkf O_Coded_init t.m_Coded (hr.mono (by decide)) t.g_Coded (pa_cons (pv 13) (pa_cons (pv 14) pa_nil))) rfl) (pe_f O_least_cost (hr.mono (by decide)) t.g_least_cost (pa_cons (pe_ix ix_list (pv 7) (pv 12) (fun _ _ => rfl)) pa_nil)) (nomark _)) (pw_or1 (pt_cmpR (op_neD hr.units) (pe_mf0 O_Text_tally (hr.mono (by decide)) (pv 14) t.c_Text t.h_Text_tally) (pe_ix ix_list (pv 7) (pv 12) (fun _ _ => rfl)) (nomark _)))))
          (pss_one (ps_ret pe_bl))
          pss_nil))))))
      (pss_cons (ps_if (pt_cmpR op_ne (pe_callB call_isi (by rfl) t.b_isinstance bt_isinstance (pa_cons (pe_f O_common (hr.mono (by decide)) t.g_common (pa_cons (pv 7) pa_nil)) (pa_cons (pe_cls t.g_Common) pa_nil))) (pe_cmpR op_eq (pe_callB call_len_seq (by rfl) t.b_len bt_len (pa_cons (pe_fld (pv 11) rfl) pa_nil)) pe_int (nomark _)) (nomark _))
        (pss_one (ps_ret pe_bl))
        pss_nil)
      (pss_cons (ps_par (i := 13) (j := 15) rfl sc_law.nd rfl rfl (by decide) rfl rfl (pa_cons (pe_f O_least_code (hr.mono (by decide)) t.g_least_code (pa_cons (pe_mf0 O_Text_tally (hr.mono (by decide)) (pv 3) t.c_Text t.h_Text_tally) pa_nil)) (pa_cons (pe_lc (own := [("_law_sign", 21)]) (g := gName 21) (tt := tYes) rfl sc_law.nd (pi_range1 (by rfl) t.b_range (pa_cons (pv 2) pa_nil)) (blkOk_by (own := [("_law_sign", 21)]) (N := ["_law_script", "_law_pen_here", "_law_signs", "_law_text_here", "_law_row", "_law_places", "_law_history", "_law_rows", "_law_now", "_law_place", "_law_tally", "_law_told", "_law_index", "_law_code", "_law_beginning", "_law_step", "_law_last", "_law_times", "_law_counts", "_law_rank", "_law_k", "_law_sign", "_law_one", "_law_more"]) (sc := defScope s_law) (by decide +kernel)) (fun _ _ _ _ _ => (pg_name (i := 21) sc_law.nd rfl (.inl rfl))) (fun _ _ _ _ _ => pts_nil) (fun _ _ _ _ _ => (pe_f O_law_draw (hr.mono (by decide)) t.g_law_draw (pa_cons (pv 1) (pa_cons pe_int pa_nil))))) pa_nil)) (by rfl))
      (pss_cons (ps_set (i := 16) sc_law.nd rfl (.inl rfl) (pe_f O_lasts (hr.mono (by decide)) t.g_lasts (pa_cons (pv 13) (pa_cons (pe_mf0 O_Text_tally (hr.mono (by decide)) (pv 3) t.c_Text t.h_Text_tally) (pa_cons (pv 15) pa_nil)))))
      (pss_cons (ps_for PassesOwn.never rfl (pi_list (pe_ifExp (pt_cmpR op_isN (pv 16) pe_non (nomark _)) (pe_lst (pa_cons pe_int (pa_cons pe_int (pa_cons pe_int (pa_cons pe_int pa_nil))))) (pe_lst (pa_cons pe_int (pa_cons (pv 16) (pa_cons (pe_op op_add (pv 16) pe_int) pa_nil)))))) (pg_name (i := 17) sc_law.nd rfl (.inr rfl))
        (pss_cons (ps_setLc (i := 18) (own := [("_law_one", 22), ("_law_more", 23)]) (g := gTup K 2 (gCons (gName 22) (gCons (gName 23) gNil))) (tt := tYes) rfl sc_law.nd rfl rfl (sw_true rfl rfl rfl (by decide +kernel)) (pi_zip2A (by rfl) t.b_zip (pa_cons (pe_mf0 O_Text_tally (hr.mono (by decide)) (pv 3) t.c_Text t.h_Text_tally) (pa_cons (pv 15) pa_nil))) (blkOk_by (own := [("_law_one", 22), ("_law_more", 23)]) (N := ["_law_script", "_law_pen_here", "_law_signs", "_law_text_here", "_law_row", "_law_places", "_law_history", "_law_rows", "_law_now", "_law_place", "_law_tally", "_law_told", "_law_index", "_law_code", "_law_beginning", "_law_step", "_law_last", "_law_times", "_law_counts", "_law_rank", "_law_k", "_law_sign", "_law_one", "_law_more"]) (sc := defScope s_law) (by decide +kernel)) (fun _ _ _ _ _ => (pg_tup rfl (pgs_cons (pg_name (i := 22) sc_law.nd rfl (.inl rfl)) (pgs_cons (pg_name (i := 23) sc_law.nd rfl (.inl rfl)) pgs_nil)))) (fun _ _ _ _ _ => pts_nil) (fun _ _ _ _ _ => (pe_op op_add (pv 22) (pe_op op_mul (pv 17) (pv 23)))))
        (pss_one (ps_if (pt_cmpR op_ne (pe_f O_is_least (hr.mono (by decide)) t.g_is_least (pa_cons (pv 13) (pa_cons (pv 18) pa_nil))) (pe_or (pe_cmpR op_isN (pv 16) pe_non (nomark _)) (pe_one (pe_cmpR op_le (pv 17) (pv 16) (nomark _)))) (nomark _))
          (pss_one (ps_ret pe_bl))
          pss_nil))))
      (pss_cons (ps_set (i := 19) sc_law.nd rfl (.inl rfl) (pe_f O_law_draw (hr.mono (by decide)) t.g_law_draw (pa_cons (pv 1) (pa_cons (pe_op op_add (pv 2) pe_int) pa_nil))))
      (pss_one (ps_ret (pe_cmpR (op_eqCode t O_Code_eq hr (by decide)) (pe_f O_strike_sign (hr.mono (by decide)) t.g_strike_sign (pa_cons (pe_f O_put_sign (hr.mono (by decide)) t.g_put_sign (pa_cons (pv 13) (pa_cons (pe_mf0 O_Text_tally (hr.mono (by decide)) (pv 3) t.c_Text t.h_Text_tally) (pa_cons (pv 19) pa_nil)))) (pa_cons (pv 19) pa_nil))) (pv 13) (nomark _)))))))))))))))))), ?_⟩
    refine ⟨_, rfl, a, ns, rfl, ha, fun H1 p hp s1 pen0 => ?_⟩
    obtain ⟨C, cells, pen1⟩ := pen0
    refine ⟨_, rfl, p, C, cells, 4, _, rfl, pen1, by decide, by decide, by decide, fun H2 v m2 pen2 v0 v4 => ⟨_, _, rfl, rfl, ?_⟩⟩
    refine ⟨_, rfl, _, rfl, p, C, cells, 2 + v, 1, rfl, pen2, by omega, by omega, by decide, by decide, fun H3 T xt L R ord zs m3 pen3 hT tt ts R3 t9 eL lz z729 => g_two hT ?_⟩
    obtain ⟨kp3, hp3⟩ := pen3.isD
    have tx := ts.tx
    have small := ts.small
    have Lp : L ≠ p := fun e => by rw [e, hp3] at eL; cases eL
    refine ⟨_, rfl, p, C, cells, 4, _, rfl, pen3, by decide, by decide, by decide, fun H4 v1 m4 pen4 v10 v14 => ⟨_, _, rfl, rfl, _, rfl, by omega, by omega, fun D hD => ?_⟩⟩
    have Dp : D ≠ p := fun e => by
      obtain ⟨k, h⟩ := pen4.isD
      rw [e, h] at hD
      cases hD
    have eL4 := m4 _ _ Lp eL
    refine lc_it walk_range (fun i H' => SameX p H4 H' ∧ PenOk K H' p C cells (62 + i) ∧ ∃ ns : List Int, H' D = some (.lst (ns.map V.int)) ∧ ns.length = i ∧ ∀ x ∈ ns, 0 ≤ x ∧ x ≤ (zs.length : Int)) ⟨SameX.of (Same.new hD), (pen4.mono (Same.new hD)).le (by decide), [], upd_same, rfl, fun x hx => absurd hx List.not_mem_nil⟩ (fun _ _ _ _ => trivial) (fun i y H5 H6 hi pp yy => ?_) (fun H5 pp => ?_)
    · obtain ⟨m5, pen5, ms, eD, lm, hm⟩ := pp
      obtain ⟨rfl, rfl⟩ := yy
      have i4 : i < 4 := by omega
      refine ⟨rfl, tyes ⟨_, rfl, _, rfl, L, _, rfl, .inl (SqL.of (m5 _ _ Lp eL4)), _, _, rfl, rfl, p, C, cells, (zs.length : Int) + 1, _, rfl, pen5, by omega, by omega, by omega, fun H7 v2 m7 pen7 v20 v2n => ⟨_, m7 _ _ Dp eD, by rw [List.length_map, sizeLine_eq]; omega, (m5.trans m7).mutN hD, (pen7.mutN pen4 (m5.trans m7) hD).le (by omega), ms ++ [v2], by rw [upd_same, List.map_append]; rfl, by rw [List.length_append, lm]; rfl, fun x hx => ?_⟩⟩⟩
      rcases List.mem_append.mp hx with hx | hx
      · exact hm x hx
      · rw [List.mem_singleton.mp hx]
        omega
    · obtain ⟨m5, pen5, ms, eD, lm, hm⟩ := pp
      refine ⟨D, ms, rfl, SqL.of eD, fun pls PL perm srt hPL => ?_⟩
      have s6 := Same.new (o := .lst (pls.map V.int)) hPL
      have ePL : (upd H5 PL (.lst (pls.map V.int))) PL = some (.lst (pls.map V.int)) := upd_same
      have pen6 := (pen5.mono s6).le (show 62 + (((1 + v1).toNat : Nat) : Int) ≤ 66 by omega)
      have m46 := m5.trans (SameX.of s6)
      generalize upd H5 PL (.lst (pls.map V.int)) = H6 at s6 ePL pen6 m46
      have lpl : pls.length = (1 + v1).toNat := by rw [perm.length_eq, lm]
      have hpl : ∀ x ∈ pls, 0 ≤ x ∧ x ≤ sizes R ord (.inr (Str.ofString "DEFGHIJK")) := fun x hx => by
        have := hm x (perm.mem_iff.mp hx)
        have e : (zs.length : Int) = sizes R ord (.inr (Str.ofString "DEFGHIJK")) := lz
        omega
      have m36 := m4.trans m46
      have tt6 := tt.sameP pen3 m36 tx
      clear s6 m5 pen5 eD hm perm hD eL4 pen4 m46 m4
      refine ⟨by show 0 ≤ sizeLine; decide, fun Hi hHi => ⟨by show 0 ≤ sizeLine; decide, fun Rw hRw => ⟨_, rfl, _, _, _, rfl, ?_⟩⟩⟩
      have s7 := Same.new (o := .lst []) hHi
      have eHi : (upd H6 Hi (.lst [])) Hi = some (.lst []) := upd_same
      generalize upd H6 Hi (.lst []) = H7 at s7 eHi hRw
      have s8 := Same.new (o := .lst []) hRw
      have eRw : (upd H7 Rw (.lst [])) Rw = some (.lst []) := upd_same
      have eHi8 := s8 _ _ eHi
      have s68 := s7.trans s8
      have RwHi : Rw ≠ Hi := fun e => by rw [e, eHi] at hRw; cases hRw
      have hRw6 : H6 Rw = none := by
        cases h : H6 Rw with
        | none => rfl
        | some o => rw [s7 _ _ h] at hRw; cases hRw
      generalize upd H7 Rw (.lst []) = H8 at s8 eRw eHi8 s68
      clear s7 s8 eHi hRw
      refine ⟨_, rfl, PL, rfl, ⟨_, SqL.of (s68 _ _ ePL)⟩, ?_⟩
      generalize hts : (pls.map fun pl => tlyF (2 + v) R ord (itemsF R (Str.ofString "DEFGHIJK") ord pl)) = tsT
      have lts : tsT.length = pls.length := by rw [← hts, List.length_map]
      have tsAt : ∀ (i : Nat) pl, pls[i]? = some pl → tsT[i]? = some (tlyF (2 + v) R ord (itemsF R (Str.ofString "DEFGHIJK") ord pl)) := fun i pl h => by
        rw [← hts, List.getElem?_map, h]
        rfl
      refine for_it (walk_list (xs := pls.map V.int)) (fun i σ H' => Same H6 H' ∧ ∃ (u9 u10 : Option V) (es xs : List V), σ = [some (.ref a), some (.ref p), some (.int (2 + v)), some (.ref xt), some (.ref L), some (.ref PL), some (.ref Hi), some (.ref Rw), some (.ref xt), u9, u10, none, none, none, none, none, none, none, none, none, none, none, none, none] ∧ H' Hi = some (.lst es) ∧ RpA K H' es (hD (tsT.take i)) ∧ H' Rw = some (.lst xs) ∧ RpA K H' xs (rowD (tsT.take i)) ∧ ∀ ns ∈ tsT.take i, ∀ x ∈ ns, 0 ≤ x)
        ⟨s68, none, none, [], [], rfl, eHi8, .nil, eRw, .nil, fun ns hn => absurd hn List.not_mem_nil⟩ (fun i σ H' _ p => SqL.of (p.1 _ _ ePL)) (fun i y σ H9 H10 hi pp yy => ?_) (fun σ H9 pp => ?_)
      · obtain ⟨s9, u9, u10, es, xs, rfl, eHi, rHi, eRw, rRw, pos⟩ := pp
        obtain ⟨rfl, hyi⟩ := yy
        obtain ⟨pl, hpl1, rfl⟩ := ints_at hyi
        have hp01 := hpl pl (List.mem_of_getElem? hpl1)
        have les : es.length ≤ 4 := by
          have h1 := rHi.len
          unfold hD at h1
          rw [List.length_map, List.length_take] at h1
          omega
        have lxs : xs.length ≤ 4 := by
          have h1 := rRw.len
          rw [rowD_len, List.length_take] at h1
          omega
        have tt9 := LK.monoT s9 tt6
        obtain ⟨xt', dt, oo, dr, ds, dp, kvT, ex, ht9, ho9, hdr9, hR9, lk9⟩ := tt9.ex
        injection ex with ex
        subst ex
        refine ⟨_, rfl, xt, dt, _, rfl, ht9, by rfl, _, rfl, xt, pl, 2 + v, R, _, ord, rfl, tt9, ts, hp01.1, hp01.2, fun H11 Dt s11 hDt hit => ?_⟩
        have gts := tsAt i pl hpl1
        have pos1 := tlyF_pos (items := itemsF R (Str.ofString "DEFGHIJK") ord pl) tx fun q hq => (hit q hq).1
        generalize tlyF (2 + v) R ord (itemsF R (Str.ofString "DEFGHIJK") ord pl) = ns1 at hDt gts pos1
        have eHi11 := s11 _ _ eHi
        refine ⟨_, rfl, .inl ⟨rfl, _, SqL.of eHi11⟩, _, rfl, by show 2 ≤ sizeLine; decide, fun z hz => ⟨Hi, _, _, rfl, rfl, (Same.new hz) _ _ eHi11, by rw [sizeLine_eq]; omega, ?_⟩⟩
        have sz := Same.new (o := .tup [V.str (Str.ofString "tally"), V.ref Dt]) hz
        have ez : (upd H11 z (.tup [V.str (Str.ofString "tally"), V.ref Dt])) z = some (.tup [V.str (Str.ofString "tally"), V.ref Dt]) := upd_same
        have s12 := s11.trans sz
        have hDt12 := sz.tup hDt
        generalize upd H11 z (.tup [V.str (Str.ofString "tally"), V.ref Dt]) = H12 at sz ez s12 hDt12
        have eHi12 := s12 _ _ eHi
        have s13 : Same H6 (upd H12 Hi (.lst (es ++ [.ref z]))) := (s9.trans s12).mut hHi
        have eHi13 : (upd H12 Hi (.lst (es ++ [.ref z]))) Hi = some (.lst (es ++ [.ref z])) := upd_same
        have rHi13 : RpA K (upd H12 Hi (.lst (es ++ [.ref z]))) (es ++ [.ref z]) (hD (tsT.take i ++ [ns1])) := by
          unfold hD
          rw [List.map_append]
          exact (RpA.updL eHi12 (hD_noL _) (rHi.mono s12)).append (RpA.updL eHi12 (hD_noL [ns1]) (.cons (.T (SqT.of ez) (.cons (.v _) (.cons (Rp.Ti hDt12) .nil))) .nil))
        have eRw13 : (upd H12 Hi (.lst (es ++ [.ref z]))) Rw = some (.lst xs) := by
          rw [upd_ne RwHi]
          exact s12 _ _ eRw
        have rRw13 := RpA.updL (o := .lst (es ++ [.ref z])) eHi12 (rowD_noL _) (rRw.mono s12)
        have hDt13 := SqT.updL (o := .lst (es ++ [.ref z])) eHi12 hDt12
        generalize upd H12 Hi (.lst (es ++ [.ref z])) = H13 at s13 eHi13 rHi13 eRw13 rRw13 hDt13
        refine ⟨_, rfl, .inl ⟨rfl, _, SqL.of eRw13⟩, _, rfl, Rw, _, _, rfl, rfl, eRw13, by rw [sizeLine_eq]; omega, ?_⟩
        rw [take_snoc gts]
        refine ⟨s13.mut hRw6, _, _, _, _, rfl, ?_, RpA.updL eRw13 (hD_noL _) rHi13, upd_same, ?_, fun ns hn => ?_⟩
        · rw [upd_ne (Ne.symm RwHi)]
          exact eHi13
        · unfold rowD
          rw [List.map_append]
          exact (RpA.updL eRw13 (rowD_noL _) rRw13).append (RpA.updL eRw13 (rowD_noL [ns1]) (.cons (Rp.Ti hDt13) .nil))
        · rcases List.mem_append.mp hn with hn | hn
          · exact pos ns hn
          · rw [List.mem_singleton.mp hn]
            exact pos1
      · obtain ⟨s9, u9, u10, es, xs, rfl, eHi, rHi, eRw, rRw, pos⟩ := pp
        rw [List.length_map, ← lts, List.take_length] at rHi rRw pos
        have tok : TOk (2 + v).toNat tsT := by
          refine ⟨fun ns hn => ⟨?_, pos ns hn⟩, by omega, by omega, by omega, by omega⟩
          rw [← hts] at hn
          obtain ⟨pl, _, rfl⟩ := List.mem_map.mp hn
          exact tlyF_len _ _ _ _
        refine ⟨_, rfl, Hi, es, _, tsT, rfl, SqL.of eHi, rHi, tok, by omega, fun H10 tv Lp s10 plan ch => ?_⟩
        have srv := srv_all tok ch
        have s610 := s9.trans s10
        have eRw10 := s10 _ _ eRw
        have rRw10 := rRw.mono s10
        have ePL10 := s610 _ _ ePL
        have tt10 := LK.monoT s610 tt6
        have pen10 := pen6.mono s610
        have m10 := m36.trans (SameX.of s610)
        clear s9 s10 rHi eHi s68 hHi hRw6 eRw rRw
        refine ⟨_, rfl, tv, _, tsT, Lp, rfl, plan, tok, by omega, ch, srv, fun H11 s11 => ⟨_, _, rfl, rfl, false, rfl, iteF ?_⟩⟩
        refine ⟨_, rfl, PL, _, true, rfl, SqL.of (s11 _ _ ePL10), ?_⟩
        refine for_it (walk_enumA (k := true) (xs := pls.map V.int)) (fun i σ H' => Same H10 H' ∧ ∃ (u9 u12 u13 u14 : Option V), σ = [some (.ref a), some (.ref p), some (.int (2 + v)), some (.ref xt), some (.ref L), some (.ref PL), some (.ref Hi), some (.ref Rw), some (.ref xt), u9, u10, some tv, u12, u13, u14, none, none, none, none, none, none, none, none, none])
          ⟨s11, u9, none, none, none, rfl⟩ (fun i σ H' _ p => SqL.of (p.1 _ _ ePL10)) (fun i y σ H12 H13 hi pp yy => ?_) (fun σ H12 pp => ?_)
        · obtain ⟨s12, u9, u12, u13, u14, rfl⟩ := pp
          obtain ⟨T2, x', y', rfl, hT2, rfl, ex, ey⟩ := yy
          cases ex
          obtain ⟨pl, hpl1, rfl⟩ := ints_at ey
          rw [List.length_map] at hi
          have hp01 := hpl pl (List.mem_of_getElem? hpl1)
          refine g_two (SqT.of upd_same) ?_
          have s13 := s12.trans (Same.new (o := .tup [V.int (i : Nat), V.int pl]) hT2)
          generalize upd H12 T2 (.tup [V.int (i : Nat), V.int pl]) = H13 at s13
          refine ⟨_, rfl, _, rfl, tv, i, _, tsT, Lp, rfl, plan.mono s13, tok, ch, by omega, fun H14 cv pr s14 hpr h1 h2 hc => ?_⟩
          have s14' := s13.trans s14
          refine ⟨_, rfl, _, rfl, xt, pl, 2 + v, R, _, ord, rfl, LK.monoT s14' tt10, ts, by omega, by omega, hp01.1, hp01.2, fun H15 bv R5 root5 ord5 s15 tt5 tx5 sm5 val5 => ?_⟩
          have s15' := s14'.trans s15
          have gts := tsAt i pl hpl1
          have eone := one_item (n := 2 + v) val5
          have hsrv := srv pr hpr i _ h1 h2 gts
          generalize hns1 : tlyF (2 + v) R ord (itemsF R (Str.ofString "DEFGHIJK") ord pl) = ns1 at gts hsrv eone
          obtain ⟨plt, hplt, _⟩ := ch.mem pr hpr
          have ctT : Ct (2 + v).toNat (takenF tsT pr.1).1 := ⟨(taken_tot tok hplt).1, (taken_tot tok hplt).2⟩
          have flS := hgI_fl tok.two ctT
          have bnS := hgI_bnd (ns := (takenF tsT pr.1).1) (by rw [ctT.len]; exact tok.two) ctT.pos
          rw [ctT.len] at bnS
          generalize hgI (takenF tsT pr.1).1 = LS at hc hsrv flS bnS
          have rw1 := tok.row ns1 (List.mem_of_getElem? gts)
          obtain ⟨rv, hrv, hrr⟩ := (rRw10.mono s15').get (rowD_at gts)
          obtain ⟨b, rfl, hb⟩ := hrr.unTi
          have eRw15 := s15' _ _ eRw10
          have lls := flS.len
          have m5 : (2 + v).toNat ≤ 5 := by omega
          have two := tok.two
          have cc : CC K H15 cv b LS ((canonF LS).map SX.S) ns1 := ⟨hc.mono s15, .inr hb, by omega, by omega, by omega, rw1.2, fun l hl => by have := bnS l hl; omega⟩
          obtain ⟨xb, db, ob, drb, dsb, dpb, kvb, rfl, hxb, hob, hdrb, hRb, lkb⟩ := tt5.ex
          refine ⟨_, rfl, _, rfl, _, rfl, Rw, xs, (i : Nat), .ref b, rfl, rfl, SqL.of eRw15, atI_nat hrv, cv, b, LS, _, ns1, rfl, cc, fun H16 s16 => ?_⟩
          refine ⟨_, rfl, _, rfl, Rw, xs, (i : Nat), .ref b, rfl, rfl, SqL.of (s16 _ _ eRw15), atI_nat hrv, b, ns1, rfl, .inr (s16.tup hb), ⟨by omega, by omega⟩, rw1.2, fun H17 s17 => ⟨rfl, false, ?_, iteF ?_⟩⟩
          · rw [hsrv, decide_eq_true rfl]
            rfl
          have s167 := s16.trans s17
          refine ⟨_, rfl, _, rfl, _, rfl, Rw, xs, (i : Nat), .ref b, rfl, rfl, SqL.of (s167 _ _ eRw15), atI_nat hrv, cv, b, LS, _, ns1, rfl, cc.mono s167, fun H18 s18 => ?_⟩
          rw [decide_eq_true hsrv]
          refine ⟨true, rfl, iteF ?_⟩
          have s168 := s167.trans s18
          refine ⟨_, rfl, _, rfl, fun y dy hy hdy hyne => ?_⟩
          have sN : Same H18 (upd (upd H18 dy (.own y)) y (.ins (He.ga K "Coded") dy [])) := (Same.new hdy).mut hy
          refine ⟨y, dy, xb, cv, LS, _, 2 + v, R5, root5, ord5, H18, rfl, upd_same, sN, hy, cc.code.mono s168, LK.monoT s168 tt5, tx5, sm5, by omega, fun H19 dx19 fs m19 hx19 hsz => ⟨rfl, ?_⟩⟩
          have s19 : Same H15 H19 := s168.trans (SameX.same hy sN m19)
          refine ⟨y, _, dx19, _, _, rfl, hx19, t.c_Coded, t.n_Coded_size, hsz, _, rfl, _, rfl, Rw, xs, (i : Nat), .ref b, rfl, rfl, SqL.of (s19 _ _ eRw15), atI_nat hrv, b, ns1, rfl, .inr (s19.tup hb), ⟨by omega, by omega⟩, rw1.2, fun H20 s20 => ⟨rfl, false, ?_, iteF ?_⟩⟩
          · have e1 : valF R5 ord5 (lenV LS) (.inr root5) = lo ns1 := by
              rw [← hsrv, ← eone]
              exact bits_dot tx5 lls
            rw [e1, decide_eq_true rfl]
            rfl
          have s20' := s19.trans s20
          refine ⟨_, rfl, xb, db, _, rfl, s20' _ _ hxb, by rfl, xb, 2 + v, R5, root5, ord5, rfl, LK.monoT s20' tt5, tx5, sm5, fun H21 Dt s21 hDt => ?_⟩
          have s21' := s20'.trans s21
          rw [eone] at hDt
          refine ⟨_, rfl, _, rfl, Rw, xs, (i : Nat), .ref b, rfl, rfl, SqL.of (s21' _ _ eRw15), atI_nat hrv, .tuple (ns1.map PyData.int), .tuple (ns1.map PyData.int), .tup hDt (dp_ints ns1), .tup (s21'.tup hb) (dp_ints ns1), shaped_intsT ns1, shaped_intsT ns1, false, ?_, iteF ⟨s15'.trans s21', _, _, _, _, rfl⟩⟩
          have ee : (PyData.tuple (ns1.map PyData.int)).eqv (.tuple (ns1.map PyData.int)) = true := by
            rw [PyData.eqv]
            exact SeqAt.eqvAll_refl _ (lay_ints ns1)
          rw [ee]
          rfl
        · obtain ⟨s12, u9, u12, u13, u14, rfl⟩ := pp
          have one := common_one tok ch
          obtain ⟨xv, dxv, hv', cv', sv', cvs, rfl, hxv, rvh, rvc, rvs, cvok⟩ := (plan.mono s12).ex
          obtain ⟨ct, cys, rfl, hct, hcys⟩ := rvc.unT
          have lcy : cys.length = Lp.length := by rw [hcys.len, codeD_len cvok.len]
          refine ⟨_, rfl, ?_⟩
          unfold tNil
          dsimp -zeta only
          refine common_use (t := t) (SqL.of (s12 _ _ eRw10)) (rRw10.mono s12) tok (by omega) (by omega) fun H13 xc ty bc s13 hty hkit hbc => ?_
          refine ⟨_, _, _, _, bc, rfl, .own _, hty, hkit, _, rfl, xv, _, dxv, _, .ref ct, rfl, s13 _ _ hxv, t.c_CodePlan, t.n_CodePlan_codes, rfl, ct, cys, rfl, .inr (s13.tup hct), rfl, rfl, false, ?_, iteF ?_⟩
          · have e : bc = decide (V.int (cys.length : Nat) = V.int 1) := by
              by_cases c : Lp.length = 1
              · rw [hbc.mpr (one.mpr c)]
                exact (decide_eq_true (by rw [lcy, c]; rfl)).symm
              · have : bc = false := by
                  cases hb2 : bc with
                  | false => rfl
                  | true => exact absurd (one.mp (hbc.mp hb2)) c
                rw [this]
                refine (decide_eq_false fun e => c ?_).symm
                injection e with e
                omega
            show V.bl (!decide (V.bl bc = V.bl (decide (V.int (cys.length : Nat) = V.int 1)))) = V.bl false
            rw [← e, decide_eq_true rfl]
            rfl
          have s13' := s12.trans s13
          have tt13 := LK.monoT s13' tt10
          have pen13 := pen10.mono s13'
          have m13 := m10.trans (SameX.of s13')
          clear hxv rvh rvs cvok hct hcys s12 s13 hty plan srv eRw10 rRw10 ePL10
          obtain ⟨xt', dt, oo, dr, ds, dp, kvT, ex, ht13, ho13, hdr13, hR13, lk13⟩ := tt13.ex
          injection ex with ex
          subst ex
          have ctN : Ct (2 + v).toNat (tlyF (2 + v) R ord [(.inr (Str.ofString "DEFGHIJK"), 1)]) := ⟨tlyF_len _ _ _ _, tlyF_pos tx fun q hq => by rw [List.mem_singleton.mp hq]; exact Int.le_refl 1⟩
          have m5 : (2 + v).toNat ≤ 5 := by omega
          have two := tok.two
          refine ⟨_, rfl, xt, dt, _, rfl, ht13, by rfl, xt, 2 + v, R, _, ord, rfl, tt13, tx, small, fun H14 Dc s14 hDc => ?_⟩
          generalize hcN : tlyF (2 + v) R ord [(.inr (Str.ofString "DEFGHIJK"), 1)] = cN at ctN hDc
          have lN := ctN.len
          refine ⟨Dc, cN, rfl, .inr hDc, ⟨by omega, by omega⟩, ctN.pos, fun H15 cv s15 hc => ?_⟩
          have flN := hgI_fl two ctN
          have dtN := hgI_dot two ctN
          have smN := small_of (ns := cN) (by omega) (by omega) ctN.pos
          generalize hgI cN = LS at hc flN dtN smN
          generalize canonF LS = WS at hc smN
          have s145 := s14.trans s15
          have tt15 := LK.monoT s145 tt13
          have pen15 := pen13.mono s145
          have m15 := m13.trans (SameX.of s145)
          clear hDc s14 s15 s145 tt13 pen13 m13 ht13 ho13 hdr13 hR13 lk13
          refine ⟨_, rfl, _, rfl, by omega, by omega, fun D2 hD2 => ?_⟩
          have D2p : D2 ≠ p := fun e => by
            obtain ⟨k, h⟩ := pen15.isD
            rw [e, h] at hD2
            cases hD2
          refine lc_it walk_range (fun i H' => SameX p H15 H' ∧ PenOk K H' p C cells (66 + i) ∧ ∃ ns : List Int, H' D2 = some (.lst (ns.map V.int)) ∧ ns.length = i ∧ ∀ x ∈ ns, 0 ≤ x ∧ x ≤ 2) ⟨SameX.of (Same.new hD2), (pen15.mono (Same.new hD2)).le (by decide), [], upd_same, rfl, fun x hx => absurd hx List.not_mem_nil⟩ (fun _ _ _ _ => trivial) (fun i y H16 H17 hi pp yy => ?_) (fun H16 pp => ?_)
          · obtain ⟨m16, pen16, ms, eD, lm, hm⟩ := pp
            obtain ⟨rfl, rfl⟩ := yy
            refine ⟨rfl, tyes ⟨_, rfl, p, C, cells, 3, _, rfl, pen16, by decide, by decide, by omega, fun H18 v2 m18 pen18 v20 v2n => ⟨_, m18 _ _ D2p eD, by rw [List.length_map, sizeLine_eq]; omega, (m16.trans m18).mutN hD2, (pen18.mutN pen15 (m16.trans m18) hD2).le (by omega), ms ++ [v2], by rw [upd_same, List.map_append]; rfl, by rw [List.length_append, lm]; rfl, fun x hx => ?_⟩⟩⟩
            rcases List.mem_append.mp hx with hx | hx
            · exact hm x hx
            · rw [List.mem_singleton.mp hx]
              omega
          · obtain ⟨m16, pen16, st, eD, lst, hst⟩ := pp
            refine ⟨_, _, rfl, ?_⟩
            have tt16 := tt15.sameP pen15 m16 tx
            have hc16 := hc.sameP pen15 m16
            have m160 := m15.trans m16
            have ctS : Ct (2 + v).toNat st := ⟨lst, fun x hx => (hst x hx).1⟩
            clear tt15 hc pen15 m15 m16 hD2
            obtain ⟨xt', dt6, oo6, dr6, ds6, dp6, kvT6, ex, ht16, ho16, hdr16, hR16, lk16⟩ := tt16.ex
            injection ex with ex
            subst ex
            refine ⟨_, rfl, _, rfl, xt, dt6, _, rfl, ht16, by rfl, xt, 2 + v, R, _, ord, rfl, tt16, tx, small, fun H17 D3 s17 hD3 => ⟨_, rfl, ?_⟩⟩
            rw [hcN] at hD3
            dsimp -zeta only
            have bnN : ∀ l ∈ LS, 0 ≤ l ∧ l ≤ 1000 := fun l hl => by
              have := smN.ok.bnd l hl
              omega
            have lls := flN.len
            have ccN : ∀ {H'}, Same H16 H' → ∀ {b ns}, SqA K H' b (ns.map V.int) → Ct (2 + v).toNat ns → CC K H' cv b LS (WS.map SX.S) ns := fun s b ns hb hn => ⟨hc16.mono s, hb, by rw [hn.len, lls], by rw [hn.len]; omega, by rw [hn.len]; omega, hn.pos, bnN⟩
            refine lasts_use two (ccN s17 (.inr hD3) ctN) (.inl (SqL.of (s17 _ _ eD))) ctN ctS flN (fun x hx => by have := (hst x hx).2; omega) dtN fun H18 o s18 lo => ?_
            have s178 := s17.trans s18
            refine times_use (o := o) rfl fun H19 T s19 eT => ?_
            have s179 := s178.trans s19
            refine ⟨T, rfl, ⟨_, SqL.of eT⟩, ?_⟩
            have tmI := times_is two ctN ctS flN dtN lo
            have tm0 : ∀ tm ∈ timesF o, 0 ≤ tm := fun tm ht => by
              rcases times_ok two ctN ctS flN dtN lo tm ht with h | h
              · exact h.1
              · exact h
            refine for_it (walk_list (xs := (timesF o).map V.int)) (fun i σ H' => Same H16 H' ∧ H' T = some (.lst ((timesF o).map V.int)) ∧ ∃ (u17 u18 : Option V), σ = [some (.ref a), some (.ref p), some (.int (2 + v)), some (.ref xt), some (.ref L), some (.ref PL), some (.ref Hi), some (.ref Rw), some (.ref xt), u9, u10, some (.ref xv), u12, some cv, u14, some (.ref D2), some (lastV o), u17, u18, none, none, none, none, none])
              ⟨s179, eT, none, none, rfl⟩ (fun i σ H' _ p => SqL.of p.2.1) (fun i y σ H20 H21 hi pp yy => ?_) (fun σ H20 pp => ?_)
            · obtain ⟨s20, eT, u17, u18, rfl⟩ := pp
              obtain ⟨rfl, hyi⟩ := yy
              obtain ⟨tm, htm, rfl⟩ := ints_at hyi
              have htmm := List.mem_of_getElem? htm
              have tm00 := tm0 tm htmm
              have tmi := tmI tm htmm
              refine ⟨_, rfl, xt, dt6, _, rfl, s20 _ _ ht16, by rfl, xt, 2 + v, R, _, ord, rfl, LK.monoT s20 tt16, tx, small, fun H22 D4 s22 hD4 => ?_⟩
              rw [hcN] at hD4
              have s22' := s20.trans s22
              have lw : (2 + v).toNat = min (cN.map V.int).length (st.map V.int).length := by
                rw [List.length_map, List.length_map, lN, lst, Nat.min_self]
              have hcs : cN.length = st.length := by rw [lN, lst]
              refine ⟨_, rfl, D4, D2, _, _, false, true, rfl, hD4, SqL.of (s22' _ _ eD), fun D5 hD5 => ?_⟩
              refine lc_all (K := K) (walk_zip2A lw) hD5 (by omega) (fun H' s5 => ⟨s5.tup hD4, SqL.of (s5 _ _ (s22' _ _ eD))⟩) (fun i => .v (.int ((stp cN st tm).getD i 0))) (fun i => rfl) (fun i z H5 H6 hi s5 y Qk kq => ?_) (fun H23 ys s23 e r => ?_)
              · obtain ⟨T3, z1, z2, rfl, hT3, rfl, e1, e2⟩ := y
                obtain ⟨c1, hc1, rfl⟩ := ints_at e1
                obtain ⟨c2, hc2, rfl⟩ := ints_at e2
                have hb2 := hst c2 (List.mem_of_getElem? hc2)
                refine g_two (SqT.of upd_same) ⟨rfl, _, rfl, _, rfl, _, rfl, _, _, rfl, rfl, .inr ⟨by omega, by omega⟩, _, _, rfl, rfl, kq _ _ (Same.new hT3) ?_⟩
                have : (stp cN st tm)[i]? = some (c1 + tm * c2) := by
                  unfold stp
                  rw [List.getElem?_zipWith, hc1, hc2]
                rw [getD_at this]
                exact .v _
              have e3 : (List.range (2 + v).toNat).map (fun i => Dat.v (.int ((stp cN st tm).getD i 0))) = iD (stp cN st tm) := by
                unfold iD
                conv => rhs; rw [← range_get (xs := stp cN st tm) (fun i => (stp cN st tm).getD i 0) fun i x hx => getD_at hx]
                rw [List.map_map, stp_len hcs, lN]
                rfl
              rw [e3] at r
              rw [r.unints] at e
              have s23' := s22'.trans s23
              have ctT := ctN.stp ctS tm00
              refine ⟨_, rfl, _, rfl, cv, D5, LS, _, _, rfl, ccN s23' (.inl (SqL.of e)) ctT, fun H24 s24 => ?_⟩
              have fin : Same H16 H24 ∧ H24 T = some (.lst ((timesF o).map V.int)) := ⟨s23'.trans s24, s24 _ _ (s23 _ _ (s22 _ _ eT))⟩
              cases o with
              | none =>
                refine ⟨_, rfl, rfl, true, rfl, iteT ⟨rfl, false, ?_, iteF ⟨fin.1, fin.2, _, _, rfl⟩⟩⟩
                rw [decide_eq_true (tmi.mpr fun k hk => (by cases hk)), decide_eq_true rfl]
                rfl
              | some k =>
                refine ⟨_, rfl, rfl, false, rfl, iteF ⟨_, rfl, _, rfl, _, _, rfl, rfl, rfl, false, ?_, iteF ⟨fin.1, fin.2, _, _, rfl⟩⟩⟩
                have e1 : decide (dot (stp cN st tm) LS = WV.lo (stp cN st tm)) = decide (tm ≤ (k : Int)) := by
                  by_cases c : tm ≤ (k : Int)
                  · rw [decide_eq_true c, decide_eq_true (tmi.mpr fun k' hk => by injection hk with hk; omega)]
                  · rw [decide_eq_false c, decide_eq_false (fun h => c (tmi.mp h k rfl))]
                rw [e1, decide_eq_true rfl]
                rfl
            · obtain ⟨s20, eT, u17, u18, rfl⟩ := pp
              have pen20 := pen16.mono s20
              have tt20 := LK.monoT s20 tt16
              have hc20 := hc16.mono s20
              refine ⟨_, rfl, _, rfl, _, _, rfl, rfl, p, C, cells, 2 + v + 1, _, rfl, pen20, by omega, by omega, by omega, fun H21 rk m21 pen21 rk0 rkn => ?_⟩
              have tt21 := tt20.sameP pen20 m21 tx
              have hc21 := hc20.sameP pen20 m21
              obtain ⟨j, rfl⟩ : ∃ j : Nat, rk = j := ⟨rk.toNat, by omega⟩
              obtain ⟨xt', dt7, oo7, dr7, ds7, dp7, kvT7, ex, ht21, ho21, hdr21, hR21, lk21⟩ := tt21.ex
              injection ex with ex
              subst ex
              have lws : WS.length = LS.length := smN.ok.lenW
              have jW : j ≤ WS.length := by omega
              have lput : ∀ sg, (putW WS sg j).length = WS.length + 1 := fun sg => by
                unfold putW
                rw [List.length_append, List.length_append, List.length_take, List.length_drop, List.length_set, List.length_singleton]
                omega
              have eLS : lensW WS = LS := smN.ok.wok.len
              refine ⟨_, rfl, _, rfl, xt, dt7, _, rfl, ht21, by rfl, xt, 2 + v, R, _, ord, rfl, tt21, tx, small, fun H22 D6 s22 hD6 => ?_⟩
              rw [hcN] at hD6
              refine ⟨_, rfl, cv, D6, j, LS, WS, cN, rfl, ⟨hc21.mono s22, .inr hD6, by omega, by omega, by omega, ctN.pos, bnN⟩, hD6, smN.ok, jW, fun sg h => (smN.put sg j h jW).1, fun H23 pv1 sg s23 hsg hcp => ?_⟩
              obtain ⟨okp, eqp⟩ := smN.put sg j hsg jW
              refine ⟨_, rfl, pv1, j, _, _, rfl, hcp, okp, by rw [lput]; omega, by rw [lput]; omega, by rw [eqp, eLS]; exact smN.ok, fun H24 sv s24 hcs => ?_⟩
              rw [eqp, eLS] at hcs
              have hc24 := hc21.mono (s22.trans (s23.trans s24))
              obtain ⟨a1, dx1, tl1, tw1, mm1, rfl, ha1, htl1, htw1⟩ := hcs.ex
              obtain ⟨a2, dx2, tl2, tw2, mm2, rfl, ha2, htl2, htw2⟩ := hc24.ex
              exact ⟨_, rfl, ⟨a1, a2, dx1, dx2, _, _, rfl, rfl, ha1, ha2, LS, LS, WS, hcs, hc24, smN.ok.wok⟩, fun H' _ => q _⟩
end
end WV
end
set_option maxRecDepth 100000
set_option maxHeartbeats 0
namespace WV
open PySem PySem.Spec PyProof.Rows L2
theorem facts {P : Program} {w : World} {K : PySem.W.Frag} {h : Heap} {mg : Str → Option Value} {f : Addr} (X : K.In h) (G : h.Ns mainGlobals mg) (hfa : mg ("law" : Str) = some (.ref f)) (c : SaysM K) :
    ∃ fd : FuncData, (∀ (s : Shared) (v : Value), BindsTo s fd ⟨[v], []⟩ [("_law_script", v)]) ∧ ∀ base : Heap, K.In base → base.Ns mainGlobals mg → FnOk P w K mg base CX0 10 f fd ["_law_script"] (sp_law K) := by
  have t : T K mg := T.of X G c
  obtain ⟨fd, F⟩ := c.def_ 78 (d := d_law) rfl
  have e := hfa.symm.trans t.g_law
  cases e
  have b := FunD.bindsA (ps := ["_law_script"]) F fun _ _ _ _ _ _ us hl => match us, hl with | [_], _ => rfl
  exact ⟨fd, fun s v => b s [v] rfl, fun base _ _ => ok_law t F⟩
end WV
open PySem PySem.W PySem.Calls PyProof.Rows
theorem PySem.Challenge.cw_wordvault_k89_whole_codes_along_a_text_holds : PySem.Challenge.rw_wordvault_k89_whole_codes_along_a_text.Holds := by
  refine WV.head_left ?_
  refine L2.walk_ofE (l := PySem.Challenge.rw_wordvault_k89_whole_codes_along_a_text) (n := 63) (k := 10) (x := "_law_script") (CX := L2.CX0) rfl (by decide) (by kernel_rfl) ⟨rfl, by decide, by decide⟩ ?F (fun _ _ _ _ z => z)
  intro w mg fa h Y G hmg0
  obtain ⟨K, KX, c⟩ := Y
  have hmg : mg ("law" : PySem.Str) = some (.ref fa) := by
    have e : (HandSHeadRun.topDef (OpenLaw.row PySem.Challenge.rw_wordvault_k89_whole_codes_along_a_text).prog 106).name = ("law" : PySem.Str) := by kernel_rfl
    rw [← e]
    exact hmg0
  obtain ⟨fd, hb, hF⟩ := WV.facts (P := (PySem.Challenge.rw_wordvault_k89_whole_codes_along_a_text).prog) (w := w) KX G hmg c
  exact ⟨K, fd, WV.sp_law K, KX, hb, fun H a ns hl _ hS => ⟨a, ns, rfl, hS, fun _ => rfl⟩, hF⟩
