import PyProof.Rows.All
import Wide.All
import OpenK.AllK
import Wide.FinOn
import KE.KStateDown
import Lean
import HandS.Base
import HandS.Call
import HandS.Words
import HandS.Defaults
import HandS.Codes
import HandS.Property
import HandS.ClsMeth
import HandS.Head0
import HandS.Head1
import HandS.Head2
import HandS.HeadHook1
import HandS.HeadHook2
import HandS.HeadHook4
import HandS.HeadNt
import PySem.Challenge.RW_cabmeters_k88_whole_facts_and_looks
import HandS.ForMost
import HandS.Conv
import HandS.Walk
import HandS.Evl
import HandS.Star
import HandS.Style
import HandS.IsInst
import HandS.MakeKwOnly
import HandS.DictComp
import HandS.TupAny
import HandS.Nested
import HandS.SortInts
import KE.KWithOwn
import OpenK.KOps
import HandS.ListItems
import KE.KDictSum
import KE.KDictCopyH
import PyProof.ListStr
import PyProof.CollectStr
import PyProof.Rows.SortShellAny
import KE.KLam
import HandS.Lambda
import KE.KEqDeep
import HandS.HeadWalk
set_option Elab.async false
set_option linter.all false
set_option maxRecDepth 100000
/-! ## Tx0 -/
set_option maxHeartbeats 0
/-! The places of the defs in the text, and the facts that the head tells of them. -/
namespace Cm
open PySem PySem.Spec PyProof.Rows L2
def top (i : Nat) : Stmt := PySem.Challenge.pw_cabmeters_k88_whole_facts_and_looks.main.body.getD i (.Pass ⟨0, 0, 0, 0⟩)
abbrev s_is_whole : Stmt := top 21
abbrev s_is_between : Stmt := top 22
abbrev s_is_speed : Stmt := top 23
abbrev s_is_trip : Stmt := top 24
abbrev s_check_trip : Stmt := top 25
abbrev s_are_worths : Stmt := top 30
abbrev s_check_numbers : Stmt := top 31
abbrev s_check_number : Stmt := top 41
abbrev s_check_top : Stmt := top 42
abbrev s_are_turns : Stmt := top 43
abbrev s_is_speeds : Stmt := top 52
abbrev s_tell_fact : Stmt := top 56
abbrev s_record_of : Stmt := top 57
abbrev s_lists_of : Stmt := top 58
abbrev s_fewest_clash : Stmt := top 59
abbrev s_needless_facts : Stmt := top 60
abbrev s_others_of : Stmt := top 61
abbrev s_kept_facts : Stmt := top 62
abbrev s_is_look : Stmt := top 63
abbrev s_numbers_of : Stmt := top 64
abbrev s_look_numbers : Stmt := top 65
abbrev s_best_look : Stmt := top 66
abbrev s_law_bag : Stmt := top 68
abbrev s_law_draw : Stmt := top 69
abbrev s_law_pick : Stmt := top 70
abbrev s_law_mixed : Stmt := top 71
abbrev s_law_jumps_at : Stmt := top 72
abbrev s_law_worth : Stmt := top 73
abbrev s_law_counts : Stmt := top 74
abbrev s_law_small_worths : Stmt := top 75
abbrev s_law_meter : Stmt := top 76
abbrev s_law_made_table : Stmt := top 77
abbrev s_law_made : Stmt := top 78
abbrev s_law_digits : Stmt := top 79
abbrev s_law_base_trip : Stmt := top 80
abbrev s_law_true_fact : Stmt := top 81
abbrev s_law_tell : Stmt := top 82
abbrev s_law_look_fact : Stmt := top 83
abbrev s_law_number_behind : Stmt := top 84
abbrev s_law_some_looks_right : Stmt := top 85
abbrev s_law_looks_right : Stmt := top 86
abbrev s_law_kept_right : Stmt := top 87
abbrev s_law_clash_right : Stmt := top 88
abbrev s_law : Stmt := top 89
abbrev s_number_in : Stmt := top 26
abbrev s_Table_init : Stmt := inClass (top 32) 0
abbrev s_Table_either : Stmt := inClass (top 32) 1
abbrev s_Table_both : Stmt := inClass (top 32) 2
abbrev s_Table_changing : Stmt := inClass (top 32) 3
abbrev s_Table_read : Stmt := inClass (top 32) 4
abbrev s_Table_getitem : Stmt := inClass (top 32) 6
abbrev s_Meter_init : Stmt := inClass (top 44) 0
abbrev s_Meter_drop : Stmt := inClass (top 44) 2
abbrev s_Meter_flag : Stmt := inClass (top 44) 3
abbrev s_Meter_each : Stmt := inClass (top 44) 4
abbrev s_Meter_start : Stmt := inClass (top 44) 7
abbrev s_Meter_table_at : Stmt := inClass (top 44) 8
abbrev s_Meter_jumps_at : Stmt := inClass (top 44) 9
abbrev s_Meter_count_on : Stmt := inClass (top 44) 10
abbrev s_Meter_price_at : Stmt := inClass (top 44) 13
abbrev s_Meter_last_turn : Stmt := inClass (top 44) 17
abbrev s_Meter_step_from : Stmt := inClass (top 44) 18
abbrev s_RecordTrial_init : Stmt := inClass (top 53) 0
abbrev s_RecordTrial_enter : Stmt := inClass (top 53) 1
abbrev s_RecordTrial_exit : Stmt := inClass (top 53) 2
abbrev s_Record_init : Stmt := inClass (top 54) 0
abbrev s_Record_len : Stmt := inClass (top 54) 1
abbrev s_Record_meter : Stmt := inClass (top 54) 3
abbrev s_Record_top : Stmt := inClass (top 54) 4
abbrev s_Record_check_tick : Stmt := inClass (top 54) 5
abbrev s_Record_take_in : Stmt := inClass (top 54) 6
abbrev s_Record_getitem : Stmt := inClass (top 54) 7
abbrev s_Record_only : Stmt := inClass (top 54) 9
abbrev s_Record_passed : Stmt := inClass (top 54) 10
abbrev s_Record_showed : Stmt := inClass (top 54) 11
abbrev s_Record_jumped : Stmt := inClass (top 54) 12
abbrev s_Record_facts : Stmt := inClass (top 54) 13
abbrev s_Record_agrees_at : Stmt := inClass (top 54) 14
abbrev s_Record_agrees_in : Stmt := inClass (top 54) 15
abbrev s_Record_steps_from : Stmt := inClass (top 54) 16
abbrev s_Record_begins : Stmt := inClass (top 54) 17
abbrev s_Record_numbers_ahead : Stmt := inClass (top 54) 18
abbrev s_Record_numbers_behind : Stmt := inClass (top 54) 19
abbrev s_Record_fits : Stmt := inClass (top 54) 20
abbrev s_Record_how_many : Stmt := inClass (top 54) 21
abbrev s_Record_trial : Stmt := inClass (top 54) 27
abbrev s_Record_tried : Stmt := inClass (top 54) 28

def d_is_whole : He5.DefA := ⟨fun K => He.ga K "is_whole", "is_whole", "is_whole", defArgs s_is_whole, defBody s_is_whole, defScope s_is_whole, [], []⟩
def d_is_between : He5.DefA := ⟨fun K => He.ga K "is_between", "is_between", "is_between", defArgs s_is_between, defBody s_is_between, defScope s_is_between, [], []⟩
def d_is_speed : He5.DefA := ⟨fun K => He.ga K "is_speed", "is_speed", "is_speed", defArgs s_is_speed, defBody s_is_speed, defScope s_is_speed, [], []⟩
def d_is_trip : He5.DefA := ⟨fun K => He.ga K "is_trip", "is_trip", "is_trip", defArgs s_is_trip, defBody s_is_trip, defScope s_is_trip, [], []⟩
def d_check_trip : He5.DefA := ⟨fun K => He.ga K "check_trip", "check_trip", "check_trip", defArgs s_check_trip, defBody s_check_trip, defScope s_check_trip, [], []⟩
def d_are_worths : He5.DefA := ⟨fun K => He.ga K "are_worths", "are_worths", "are_worths", defArgs s_are_worths, defBody s_are_worths, defScope s_are_worths, [], []⟩
def d_check_numbers : He5.DefA := ⟨fun K => He.ga K "check_numbers", "check_numbers", "check_numbers", defArgs s_check_numbers, defBody s_check_numbers, defScope s_check_numbers, [], []⟩
def d_check_number : He5.DefA := ⟨fun K => He.ga K "check_number", "check_number", "check_number", defArgs s_check_number, defBody s_check_number, defScope s_check_number, [], []⟩
def d_check_top : He5.DefA := ⟨fun K => He.ga K "check_top", "check_top", "check_top", defArgs s_check_top, defBody s_check_top, defScope s_check_top, [], []⟩
def d_are_turns : He5.DefA := ⟨fun K => He.ga K "are_turns", "are_turns", "are_turns", defArgs s_are_turns, defBody s_are_turns, defScope s_are_turns, [], []⟩
def d_is_speeds : He5.DefA := ⟨fun K => He.ga K "is_speeds", "is_speeds", "is_speeds", defArgs s_is_speeds, defBody s_is_speeds, defScope s_is_speeds, [], []⟩
def d_tell_fact : He5.DefA := ⟨fun K => He.ga K "tell_fact", "tell_fact", "tell_fact", defArgs s_tell_fact, defBody s_tell_fact, defScope s_tell_fact, [], []⟩
def d_record_of : He5.DefA := ⟨fun K => He.ga K "record_of", "record_of", "record_of", defArgs s_record_of, defBody s_record_of, defScope s_record_of, [], []⟩
def d_lists_of : He5.DefA := ⟨fun K => He.ga K "lists_of", "lists_of", "lists_of", defArgs s_lists_of, defBody s_lists_of, defScope s_lists_of, [], []⟩
def d_fewest_clash : He5.DefA := ⟨fun K => He.ga K "fewest_clash", "fewest_clash", "fewest_clash", defArgs s_fewest_clash, defBody s_fewest_clash, defScope s_fewest_clash, [], []⟩
def d_needless_facts : He5.DefA := ⟨fun K => He.ga K "needless_facts", "needless_facts", "needless_facts", defArgs s_needless_facts, defBody s_needless_facts, defScope s_needless_facts, [], []⟩
def d_others_of : He5.DefA := ⟨fun K => He.ga K "others_of", "others_of", "others_of", defArgs s_others_of, defBody s_others_of, defScope s_others_of, [], []⟩
def d_kept_facts : He5.DefA := ⟨fun K => He.ga K "kept_facts", "kept_facts", "kept_facts", defArgs s_kept_facts, defBody s_kept_facts, defScope s_kept_facts, [], []⟩
def d_is_look : He5.DefA := ⟨fun K => He.ga K "is_look", "is_look", "is_look", defArgs s_is_look, defBody s_is_look, defScope s_is_look, [], []⟩
def d_numbers_of : He5.DefA := ⟨fun K => He.ga K "numbers_of", "numbers_of", "numbers_of", defArgs s_numbers_of, defBody s_numbers_of, defScope s_numbers_of, [], []⟩
def d_look_numbers : He5.DefA := ⟨fun K => He.ga K "look_numbers", "look_numbers", "look_numbers", defArgs s_look_numbers, defBody s_look_numbers, defScope s_look_numbers, [], []⟩
def d_best_look : He5.DefA := ⟨fun K => He.ga K "best_look", "best_look", "best_look", defArgs s_best_look, defBody s_best_look, defScope s_best_look, [], []⟩
def d_law_bag : He5.DefA := ⟨fun K => He.ga K "_law_bag", "_law_bag", "_law_bag", defArgs s_law_bag, defBody s_law_bag, defScope s_law_bag, [], []⟩
def d_law_draw : He5.DefA := ⟨fun K => He.ga K "_law_draw", "_law_draw", "_law_draw", defArgs s_law_draw, defBody s_law_draw, defScope s_law_draw, [], []⟩
def d_law_pick : He5.DefA := ⟨fun K => He.ga K "_law_pick", "_law_pick", "_law_pick", defArgs s_law_pick, defBody s_law_pick, defScope s_law_pick, [], []⟩
def d_law_mixed : He5.DefA := ⟨fun K => He.ga K "_law_mixed", "_law_mixed", "_law_mixed", defArgs s_law_mixed, defBody s_law_mixed, defScope s_law_mixed, [], []⟩
def d_law_jumps_at : He5.DefA := ⟨fun K => He.ga K "_law_jumps_at", "_law_jumps_at", "_law_jumps_at", defArgs s_law_jumps_at, defBody s_law_jumps_at, defScope s_law_jumps_at, [], []⟩
def d_law_worth : He5.DefA := ⟨fun K => He.ga K "_law_worth", "_law_worth", "_law_worth", defArgs s_law_worth, defBody s_law_worth, defScope s_law_worth, [], []⟩
def d_law_counts : He5.DefA := ⟨fun K => He.ga K "_law_counts", "_law_counts", "_law_counts", defArgs s_law_counts, defBody s_law_counts, defScope s_law_counts, [], []⟩
def d_law_small_worths : He5.DefA := ⟨fun K => He.ga K "_law_small_worths", "_law_small_worths", "_law_small_worths", defArgs s_law_small_worths, defBody s_law_small_worths, defScope s_law_small_worths, [], []⟩
def d_law_meter : He5.DefA := ⟨fun K => He.ga K "_law_meter", "_law_meter", "_law_meter", defArgs s_law_meter, defBody s_law_meter, defScope s_law_meter, [], []⟩
def d_law_made_table : He5.DefA := ⟨fun K => He.ga K "_law_made_table", "_law_made_table", "_law_made_table", defArgs s_law_made_table, defBody s_law_made_table, defScope s_law_made_table, [], []⟩
def d_law_made : He5.DefA := ⟨fun K => He.ga K "_law_made", "_law_made", "_law_made", defArgs s_law_made, defBody s_law_made, defScope s_law_made, [], []⟩
def d_law_digits : He5.DefA := ⟨fun K => He.ga K "_law_digits", "_law_digits", "_law_digits", defArgs s_law_digits, defBody s_law_digits, defScope s_law_digits, [], []⟩
def d_law_base_trip : He5.DefA := ⟨fun K => He.ga K "_law_base_trip", "_law_base_trip", "_law_base_trip", defArgs s_law_base_trip, defBody s_law_base_trip, defScope s_law_base_trip, [], []⟩
def d_law_true_fact : He5.DefA := ⟨fun K => He.ga K "_law_true_fact", "_law_true_fact", "_law_true_fact", defArgs s_law_true_fact, defBody s_law_true_fact, defScope s_law_true_fact, [], []⟩
def d_law_tell : He5.DefA := ⟨fun K => He.ga K "_law_tell", "_law_tell", "_law_tell", defArgs s_law_tell, defBody s_law_tell, defScope s_law_tell, [], []⟩
def d_law_look_fact : He5.DefA := ⟨fun K => He.ga K "_law_look_fact", "_law_look_fact", "_law_look_fact", defArgs s_law_look_fact, defBody s_law_look_fact, defScope s_law_look_fact, [], []⟩
def d_law_number_behind : He5.DefA := ⟨fun K => He.ga K "_law_number_behind", "_law_number_behind", "_law_number_behind", defArgs s_law_number_behind, defBody s_law_number_behind, defScope s_law_number_behind, [], []⟩
def d_law_some_looks_right : He5.DefA := ⟨fun K => He.ga K "_law_some_looks_right", "_law_some_looks_right", "_law_some_looks_right", defArgs s_law_some_looks_right, defBody s_law_some_looks_right, defScope s_law_some_looks_right, [], []⟩
def d_law_looks_right : He5.DefA := ⟨fun K => He.ga K "_law_looks_right", "_law_looks_right", "_law_looks_right", defArgs s_law_looks_right, defBody s_law_looks_right, defScope s_law_looks_right, [], []⟩
def d_law_kept_right : He5.DefA := ⟨fun K => He.ga K "_law_kept_right", "_law_kept_right", "_law_kept_right", defArgs s_law_kept_right, defBody s_law_kept_right, defScope s_law_kept_right, [], []⟩
def d_law_clash_right : He5.DefA := ⟨fun K => He.ga K "_law_clash_right", "_law_clash_right", "_law_clash_right", defArgs s_law_clash_right, defBody s_law_clash_right, defScope s_law_clash_right, [], []⟩
def d_law : He5.DefA := ⟨fun K => He.ga K "law", "law", "law", defArgs s_law, defBody s_law, defScope s_law, [], []⟩
def d_number_in : He5.DefA := ⟨fun K => He.ga K "number_in_trips", "number_in", "number_in", defArgs s_number_in, defBody s_number_in, defScope s_number_in, [], []⟩
def d_Table_init : He5.DefA := ⟨fun K => He.ma K (He.ga K "Table") "__init__", "__init__", "Table.__init__", defArgs s_Table_init, defBody s_Table_init, defScope s_Table_init, [], []⟩
def d_Table_either : He5.DefA := ⟨fun K => He5.wf K (He.ga K "Table") "classmethod" "either", "either", "Table.either", defArgs s_Table_either, defBody s_Table_either, defScope s_Table_either, [], []⟩
def d_Table_both : He5.DefA := ⟨fun K => He5.wf K (He.ga K "Table") "classmethod" "both", "both", "Table.both", defArgs s_Table_both, defBody s_Table_both, defScope s_Table_both, [], []⟩
def d_Table_changing : He5.DefA := ⟨fun K => He5.wf K (He.ga K "Table") "classmethod" "changing", "changing", "Table.changing", defArgs s_Table_changing, defBody s_Table_changing, defScope s_Table_changing, [], []⟩
def d_Table_read : He5.DefA := ⟨fun K => He5.wf K (He.ga K "Table") "classmethod" "read", "read", "Table.read", defArgs s_Table_read, defBody s_Table_read, defScope s_Table_read, [], []⟩
def d_Table_getitem : He5.DefA := ⟨fun K => He.ma K (He.ga K "Table") "__getitem__", "__getitem__", "Table.__getitem__", defArgs s_Table_getitem, defBody s_Table_getitem, defScope s_Table_getitem, [], []⟩
def d_Meter_init : He5.DefA := ⟨fun K => He.ma K (He.ga K "Meter") "__init__", "__init__", "Meter.__init__", defArgs s_Meter_init, defBody s_Meter_init, defScope s_Meter_init, [.adr (fun K => He.dflAt ("Meter", some "__init__") 0 K)], [("flag", .int 0), ("each", .int 1)]⟩
def d_Meter_drop : He5.DefA := ⟨fun K => He5.wf K (He.ga K "Meter") "property" "drop", "drop", "Meter.drop", defArgs s_Meter_drop, defBody s_Meter_drop, defScope s_Meter_drop, [], []⟩
def d_Meter_flag : He5.DefA := ⟨fun K => He5.wf K (He.ga K "Meter") "property" "flag", "flag", "Meter.flag", defArgs s_Meter_flag, defBody s_Meter_flag, defScope s_Meter_flag, [], []⟩
def d_Meter_each : He5.DefA := ⟨fun K => He5.wf K (He.ga K "Meter") "property" "each", "each", "Meter.each", defArgs s_Meter_each, defBody s_Meter_each, defScope s_Meter_each, [], []⟩
def d_Meter_start : He5.DefA := ⟨fun K => He5.wf K (He.ga K "Meter") "property" "start", "start", "Meter.start", defArgs s_Meter_start, defBody s_Meter_start, defScope s_Meter_start, [], []⟩
def d_Meter_table_at : He5.DefA := ⟨fun K => He.ma K (He.ga K "Meter") "table_at", "table_at", "Meter.table_at", defArgs s_Meter_table_at, defBody s_Meter_table_at, defScope s_Meter_table_at, [], []⟩
def d_Meter_jumps_at : He5.DefA := ⟨fun K => He.ma K (He.ga K "Meter") "jumps_at", "jumps_at", "Meter.jumps_at", defArgs s_Meter_jumps_at, defBody s_Meter_jumps_at, defScope s_Meter_jumps_at, [], []⟩
def d_Meter_count_on : He5.DefA := ⟨fun K => He.ma K (He.ga K "Meter") "count_on", "count_on", "Meter.count_on", defArgs s_Meter_count_on, defBody s_Meter_count_on, defScope s_Meter_count_on, [], []⟩
def d_Meter_price_at : He5.DefA := ⟨fun K => He.ma K (He.ga K "Meter") "price_at", "price_at", "Meter.price_at", defArgs s_Meter_price_at, defBody s_Meter_price_at, defScope s_Meter_price_at, [], []⟩
def d_Meter_last_turn : He5.DefA := ⟨fun K => He.ma K (He.ga K "Meter") "last_turn", "last_turn", "Meter.last_turn", defArgs s_Meter_last_turn, defBody s_Meter_last_turn, defScope s_Meter_last_turn, [], []⟩
def d_Meter_step_from : He5.DefA := ⟨fun K => He.ma K (He.ga K "Meter") "step_from", "step_from", "Meter.step_from", defArgs s_Meter_step_from, defBody s_Meter_step_from, defScope s_Meter_step_from, [], []⟩
def d_RecordTrial_init : He5.DefA := ⟨fun K => He.ma K (He.ga K "RecordTrial") "__init__", "__init__", "RecordTrial.__init__", defArgs s_RecordTrial_init, defBody s_RecordTrial_init, defScope s_RecordTrial_init, [], []⟩
def d_RecordTrial_enter : He5.DefA := ⟨fun K => He.ma K (He.ga K "RecordTrial") "__enter__", "__enter__", "RecordTrial.__enter__", defArgs s_RecordTrial_enter, defBody s_RecordTrial_enter, defScope s_RecordTrial_enter, [], []⟩
def d_RecordTrial_exit : He5.DefA := ⟨fun K => He.ma K (He.ga K "RecordTrial") "__exit__", "__exit__", "RecordTrial.__exit__", defArgs s_RecordTrial_exit, defBody s_RecordTrial_exit, defScope s_RecordTrial_exit, [], []⟩
def d_Record_init : He5.DefA := ⟨fun K => He.ma K (He.ga K "Record") "__init__", "__init__", "Record.__init__", defArgs s_Record_init, defBody s_Record_init, defScope s_Record_init, [.int 9], []⟩
def d_Record_len : He5.DefA := ⟨fun K => He.ma K (He.ga K "Record") "__len__", "__len__", "Record.__len__", defArgs s_Record_len, defBody s_Record_len, defScope s_Record_len, [], []⟩
def d_Record_meter : He5.DefA := ⟨fun K => He5.wf K (He.ga K "Record") "property" "meter", "meter", "Record.meter", defArgs s_Record_meter, defBody s_Record_meter, defScope s_Record_meter, [], []⟩
def d_Record_top : He5.DefA := ⟨fun K => He5.wf K (He.ga K "Record") "property" "top", "top", "Record.top", defArgs s_Record_top, defBody s_Record_top, defScope s_Record_top, [], []⟩
def d_Record_check_tick : He5.DefA := ⟨fun K => He.ma K (He.ga K "Record") "check_tick", "check_tick", "Record.check_tick", defArgs s_Record_check_tick, defBody s_Record_check_tick, defScope s_Record_check_tick, [], []⟩
def d_Record_take_in : He5.DefA := ⟨fun K => He.ma K (He.ga K "Record") "take_in", "take_in", "Record.take_in", defArgs s_Record_take_in, defBody s_Record_take_in, defScope s_Record_take_in, [], []⟩
def d_Record_getitem : He5.DefA := ⟨fun K => He.ma K (He.ga K "Record") "__getitem__", "__getitem__", "Record.__getitem__", defArgs s_Record_getitem, defBody s_Record_getitem, defScope s_Record_getitem, [], []⟩
def d_Record_only : He5.DefA := ⟨fun K => He.ma K (He.ga K "Record") "only", "only", "Record.only", defArgs s_Record_only, defBody s_Record_only, defScope s_Record_only, [], []⟩
def d_Record_passed : He5.DefA := ⟨fun K => He.ma K (He.ga K "Record") "passed", "passed", "Record.passed", defArgs s_Record_passed, defBody s_Record_passed, defScope s_Record_passed, [], []⟩
def d_Record_showed : He5.DefA := ⟨fun K => He.ma K (He.ga K "Record") "showed", "showed", "Record.showed", defArgs s_Record_showed, defBody s_Record_showed, defScope s_Record_showed, [], []⟩
def d_Record_jumped : He5.DefA := ⟨fun K => He.ma K (He.ga K "Record") "jumped", "jumped", "Record.jumped", defArgs s_Record_jumped, defBody s_Record_jumped, defScope s_Record_jumped, [], []⟩
def d_Record_facts : He5.DefA := ⟨fun K => He.ma K (He.ga K "Record") "facts", "facts", "Record.facts", defArgs s_Record_facts, defBody s_Record_facts, defScope s_Record_facts, [], []⟩
def d_Record_agrees_at : He5.DefA := ⟨fun K => He.ma K (He.ga K "Record") "agrees_at", "agrees_at", "Record.agrees_at", defArgs s_Record_agrees_at, defBody s_Record_agrees_at, defScope s_Record_agrees_at, [], []⟩
def d_Record_agrees_in : He5.DefA := ⟨fun K => He.ma K (He.ga K "Record") "agrees_in", "agrees_in", "Record.agrees_in", defArgs s_Record_agrees_in, defBody s_Record_agrees_in, defScope s_Record_agrees_in, [], []⟩
def d_Record_steps_from : He5.DefA := ⟨fun K => He.ma K (He.ga K "Record") "steps_from", "steps_from", "Record.steps_from", defArgs s_Record_steps_from, defBody s_Record_steps_from, defScope s_Record_steps_from, [], []⟩
def d_Record_begins : He5.DefA := ⟨fun K => He.ma K (He.ga K "Record") "begins", "begins", "Record.begins", defArgs s_Record_begins, defBody s_Record_begins, defScope s_Record_begins, [], []⟩
def d_Record_numbers_ahead : He5.DefA := ⟨fun K => He.ma K (He.ga K "Record") "numbers_ahead", "numbers_ahead", "Record.numbers_ahead", defArgs s_Record_numbers_ahead, defBody s_Record_numbers_ahead, defScope s_Record_numbers_ahead, [], []⟩
def d_Record_numbers_behind : He5.DefA := ⟨fun K => He.ma K (He.ga K "Record") "numbers_behind", "numbers_behind", "Record.numbers_behind", defArgs s_Record_numbers_behind, defBody s_Record_numbers_behind, defScope s_Record_numbers_behind, [], []⟩
def d_Record_fits : He5.DefA := ⟨fun K => He.ma K (He.ga K "Record") "fits", "fits", "Record.fits", defArgs s_Record_fits, defBody s_Record_fits, defScope s_Record_fits, [], []⟩
def d_Record_how_many : He5.DefA := ⟨fun K => He.ma K (He.ga K "Record") "how_many", "how_many", "Record.how_many", defArgs s_Record_how_many, defBody s_Record_how_many, defScope s_Record_how_many, [], []⟩
def d_Record_trial : He5.DefA := ⟨fun K => He.ma K (He.ga K "Record") "trial", "trial", "Record.trial", defArgs s_Record_trial, defBody s_Record_trial, defScope s_Record_trial, [], []⟩
def d_Record_tried : He5.DefA := ⟨fun K => He.ma K (He.ga K "Record") "tried", "tried", "Record.tried", defArgs s_Record_tried, defBody s_Record_tried, defScope s_Record_tried, [], []⟩

def fn0 : List He5.DefA := [d_is_whole, d_is_between, d_is_speed, d_is_trip, d_check_trip, d_are_worths, d_check_numbers, d_check_number, d_check_top, d_are_turns, d_is_speeds, d_tell_fact, d_record_of, d_lists_of, d_fewest_clash, d_needless_facts, d_others_of, d_kept_facts, d_is_look, d_numbers_of]
def fn1 : List He5.DefA := [d_look_numbers, d_best_look, d_law_bag, d_law_draw, d_law_pick, d_law_mixed, d_law_jumps_at, d_law_worth, d_law_counts, d_law_small_worths, d_law_meter, d_law_made_table, d_law_made, d_law_digits, d_law_base_trip, d_law_true_fact, d_law_tell, d_law_look_fact, d_law_number_behind, d_law_some_looks_right]
def fn2 : List He5.DefA := [d_law_looks_right, d_law_kept_right, d_law_clash_right, d_law, d_number_in, d_Table_init, d_Table_either, d_Table_both, d_Table_changing, d_Table_read, d_Table_getitem, d_Meter_init, d_Meter_drop, d_Meter_flag, d_Meter_each, d_Meter_start, d_Meter_table_at, d_Meter_jumps_at, d_Meter_count_on, d_Meter_price_at]
def fn3 : List He5.DefA := [d_Meter_last_turn, d_Meter_step_from, d_RecordTrial_init, d_RecordTrial_enter, d_RecordTrial_exit, d_Record_init, d_Record_len, d_Record_meter, d_Record_top, d_Record_check_tick, d_Record_take_in, d_Record_getitem, d_Record_only, d_Record_passed, d_Record_showed, d_Record_jumped, d_Record_facts, d_Record_agrees_at, d_Record_agrees_in, d_Record_steps_from]
def fn4 : List He5.DefA := [d_Record_begins, d_Record_numbers_ahead, d_Record_numbers_behind, d_Record_fits, d_Record_how_many, d_Record_trial, d_Record_tried]
def fn : List He5.DefA := fn0 ++ fn1 ++ fn2 ++ fn3 ++ fn4

/-! ### looks of my own -/
def propB (K : PySem.W.Frag) (C : Addr) (f : Str) : Bool :=
  He.eqO (PySem.W.findIn K (.ref C) f) (some (some (.ref (He.ma K C f)))) && (He.eqO (PySem.W.specialIn K (.ref (He.ma K C f)) "__get__") (some (some (.builtin "property.__get__"))) &&
    (decide (PySem.W.takesIn K (.ref (He.ma K C f)) = some true) && (match PySem.W.recIn K (He.ma K C f) "property" with | some (.ref _ :: _) => true | _ => false)))
def creadB (K : PySem.W.Frag) (C : Addr) : Bool := PySem.W.readsIn K C (.type "type") && He.eqO (PySem.W.specialIn K (.ref C) "__getattribute__") (some (some (.builtin "type.__getattribute__")))
def insCB (K : PySem.W.Frag) (C : Addr) : Bool :=
  He.eqO (PySem.W.findIn K (.ref C) "__class__") (some (some (.builtin "object.__class__"))) && (He.eqO (PySem.W.specialIn K (.builtin "object.__class__") "__get__") (some (some (.builtin "getset_descriptor.__get__"))) &&
    (decide (PySem.W.takesIn K (.builtin "object.__class__") = some true) && (decide (PySem.W.mroIn K C (.type "object") = some true) && decide (PySem.W.kitOne K (.ref C) (.ref C) = some true))))
def fa0 : List He.Fa := [.glo "is_whole", .glo "is_between", .glo "is_speed", .glo "is_trip", .glo "check_trip", .glo "are_worths", .glo "check_numbers", .glo "check_number", .glo "check_top", .glo "are_turns", .glo "is_speeds", .glo "tell_fact", .glo "record_of", .glo "lists_of", .glo "fewest_clash", .glo "needless_facts", .glo "others_of", .glo "kept_facts", .glo "is_look", .glo "numbers_of", .glo "look_numbers", .glo "best_look", .glo "_law_bag", .glo "_law_draw", .glo "_law_pick"]
def fa1 : List He.Fa := [.glo "_law_mixed", .glo "_law_jumps_at", .glo "_law_worth", .glo "_law_counts", .glo "_law_small_worths", .glo "_law_meter", .glo "_law_made_table", .glo "_law_made", .glo "_law_digits", .glo "_law_base_trip", .glo "_law_true_fact", .glo "_law_tell", .glo "_law_look_fact", .glo "_law_number_behind", .glo "_law_some_looks_right", .glo "_law_looks_right", .glo "_law_kept_right", .glo "_law_clash_right", .glo "law", .glo "number_in_trips", .glo "Table", .glo "Meter", .glo "RecordTrial", .glo "Record", .free "isinstance"]
def fa2 : List He.Fa := [.free "all", .free "len", .free "tuple", .free "list", .free "range", .free "max", .free "min", .free "sum", .free "str", .free "int", .free "bool", .free "abs", .free "sorted", .int "GREATEST_SPEED" 9, .int "MOST_TICKS" 2000, .int "GREATEST_WORTH" 60, .int "GREATEST_DROP" 60, .int "GREATEST_FLAG" 1000, .int "GREATEST_EACH" 100, .int "GREATEST_TURN" 9, .int "MOST_TABLES" 3, .int "SPEEDS" 10, .int "LONGEST_RECORD" 40, .str "DIGITS" "0123456789", .cls "Table"]
def fa3 : List He.Fa := [.cls "Meter", .cls "RecordTrial", .cls "Record", .noat "Table" "row", .noat "Meter" "own_numbers", .noat "Meter" "own_tables", .noat "Meter" "own_turns", .noat "Meter" "own_steps", .noat "Record" "own_meter", .noat "Record" "own_ticks", .noat "Record" "own_top", .noat "Record" "own_facts", .noat "RecordTrial" "owner", .noat "RecordTrial" "kept_facts", .meth "Table" "__init__", .meth "Table" "__getitem__", .meth "Meter" "__init__", .meth "Meter" "table_at", .meth "Meter" "jumps_at", .meth "Meter" "count_on", .meth "Meter" "price_at", .meth "Meter" "last_turn", .meth "Meter" "step_from", .meth "RecordTrial" "__init__", .meth "RecordTrial" "__enter__"]
def fa4 : List He.Fa := [.meth "RecordTrial" "__exit__", .meth "Record" "__init__", .meth "Record" "__len__", .meth "Record" "check_tick", .meth "Record" "take_in", .meth "Record" "__getitem__", .meth "Record" "only", .meth "Record" "passed", .meth "Record" "showed", .meth "Record" "jumped", .meth "Record" "facts", .meth "Record" "agrees_at", .meth "Record" "agrees_in", .meth "Record" "steps_from", .meth "Record" "begins", .meth "Record" "numbers_ahead", .meth "Record" "numbers_behind", .meth "Record" "fits", .meth "Record" "how_many", .meth "Record" "trial", .meth "Record" "tried", .mkr "Table", .mkr "Meter", .mkr "RecordTrial", .mkr "Record"]
def fa : List He.Fa := fa0 ++ fa1 ++ fa2 ++ fa3 ++ fa4
def ex0 (K : PySem.W.Frag) : Bool := propB K (He.ga K "Meter") "drop"
def ex1 (K : PySem.W.Frag) : Bool := propB K (He.ga K "Meter") "flag"
def ex2 (K : PySem.W.Frag) : Bool := propB K (He.ga K "Meter") "each"
def ex3 (K : PySem.W.Frag) : Bool := propB K (He.ga K "Meter") "start"
def ex4 (K : PySem.W.Frag) : Bool := propB K (He.ga K "Record") "meter"
def ex5 (K : PySem.W.Frag) : Bool := propB K (He.ga K "Record") "top"
def ex6 (K : PySem.W.Frag) : Bool := (He5.wrapB K (He.ga K "Table") "classmethod" "classmethod.__get__" "either" && PySem.W.fnIn K (He5.wf K (He.ga K "Table") "classmethod" "either"))
def ex7 (K : PySem.W.Frag) : Bool := (He5.wrapB K (He.ga K "Table") "classmethod" "classmethod.__get__" "both" && PySem.W.fnIn K (He5.wf K (He.ga K "Table") "classmethod" "both"))
def ex8 (K : PySem.W.Frag) : Bool := (He5.wrapB K (He.ga K "Table") "classmethod" "classmethod.__get__" "changing" && PySem.W.fnIn K (He5.wf K (He.ga K "Table") "classmethod" "changing"))
def ex9 (K : PySem.W.Frag) : Bool := (He5.wrapB K (He.ga K "Table") "classmethod" "classmethod.__get__" "read" && PySem.W.fnIn K (He5.wf K (He.ga K "Table") "classmethod" "read"))
def ex10 (K : PySem.W.Frag) : Bool := creadB K (He.ga K "Table")
def ex11 (K : PySem.W.Frag) : Bool := PySem.W.fnIn K (He.ma K (He.ga K "Table") "__getitem__")
def ex12 (K : PySem.W.Frag) : Bool := PySem.W.fnIn K (He.ma K (He.ga K "Record") "__getitem__")
def ex13 (K : PySem.W.Frag) : Bool := insCB K (He.ga K "Table")
def exs : List (PySem.W.Frag → Bool) := [ex0, ex1, ex2, ex3, ex4, ex5, ex6, ex7, ex8, ex9, ex10, ex11, ex12, ex13]
def tf : List He.Defn := [("_law_number_behind", none)]
/-! ### the written part, layer by layer -/
def refsM (o : Obj) : List Addr := match o.data with
  | .dict es _ => es.toList.flatMap fun e => He.refV e.val
  | .func fd => He.refV fd.code ++ He.refV fd.defaults ++ He.refV fd.kwdefaults
  | .cls cd => [cd.ns]
  | .fields vs => (match o.cls with
    | .type n => if n == "property" || n == "classmethod" then vs.toList.flatMap He.refV else []
    | _ => [])
  | _ => []
def stepM (g : Addr → Option Obj) (l : List Addr) : List Addr := l.flatMap fun a => match g a with
  | some o => refsM o
  | none => []
def layM (g : Addr → Option Obj) : Nat → List Addr → List Addr
  | 0, l => l
  | n + 1, l => l ++ layM g n (stepM g l)
def frC (g : Addr → Option Obj) : PySem.W.Frag := He.frT g (PySem.cStatics :: layM g 5 [mainGlobals])
/-- made plain ahead of the looks -/
def plainO {α : Type} (o : Obj) (k : Obj → α) : α := match o with
  | ⟨c, d, dt, sl⟩ => k ⟨c, d, dt, sl⟩
theorem plainO_eq {α : Type} (o : Obj) (k : Obj → α) : plainO o k = k o := rfl
def plainK {α : Type} : PySem.W.Frag → (PySem.W.Frag → α) → α
  | [], k => k []
  | (a, o) :: r, k => HandSHeadRun.frNat a fun a => plainO o fun o => plainK r fun r => k ((a, o) :: r)
theorem plainK_eq {α : Type} : ∀ (l : PySem.W.Frag) (k : PySem.W.Frag → α), plainK l k = k l
  | [], _ => rfl
  | (a, o) :: r, k => by
    show HandSHeadRun.frNat a (fun a => plainO o fun o => plainK r fun r => k ((a, o) :: r)) = _
    rw [HandSHeadRun.frNat_eq, plainO_eq, plainK_eq]
def lookC (g : Addr → Option Obj) (K : PySem.W.Frag) : He.AlD := (fa.all (fun f => f.ok K) && (fn.all (fun d => d.ok K) && (exs.all (fun e => e K) && He.tabsB g tf K)), fn.map fun d => He5.fnA K (d.at_ K))
def obsC (g : Addr → Option Obj) : He.AlD := plainK (frC g) (lookC g)
end Cm

/-! ## X1 -/
set_option maxHeartbeats 0
/-! The head: its Hook, its run. -/
namespace CmHd
open Cm PySem PySem.W PySem.Calls PyProof.Rows
abbrev Rw : OpenRow := OpenLaw.row PySem.Challenge.rw_cabmeters_k88_whole_facts_and_looks
abbrev qv : Program := view Rw.prog [89]
def names0 : List PySem.Str := ["_wall", "MeterError", "BadTrip", "BadText", "BadSpeed", "BadWorths", "BadNumber", "BadTop", "BadTicks", "BadTick", "BadTables", "BadTurns", "BadWay", "BadPrice", "BadSpeeds", "BadTold", "DIGITS", "MOST_TICKS", "GREATEST_SPEED", "is_whole", "is_between", "is_speed", "is_trip", "check_trip", "number_in", "number_in_trips", "GREATEST_WORTH", "are_worths", "check_numbers", "Table"]
def names1 : List PySem.Str := ["GREATEST_DROP", "GREATEST_FLAG", "GREATEST_EACH", "GREATEST_TURN", "MOST_TABLES", "SPEEDS", "FIGURES", "check_number", "check_top", "are_turns", "Meter", "number_in_meters", "numbers_behind", "table_in", "read_lines", "LONGEST_RECORD", "is_speeds", "RecordTrial", "Record", "tell_fact", "record_of", "lists_of", "fewest_clash", "needless_facts", "others_of", "kept_facts", "is_look", "numbers_of", "look_numbers", "best_look"]
def names2 : List PySem.Str := ["_law_bag", "_law_draw", "_law_pick", "_law_mixed", "_law_jumps_at", "_law_worth", "_law_counts", "_law_small_worths", "_law_meter", "_law_made_table", "_law_made", "_law_digits", "_law_base_trip", "_law_true_fact", "_law_tell", "_law_look_fact", "_law_number_behind", "_law_some_looks_right", "_law_looks_right", "_law_kept_right", "_law_clash_right"]
def names : List PySem.Str := names0 ++ names1 ++ names2
/-- what the head tells -/
structure SaysC (h : Heap) (K : Frag) : Prop where
  fa : ∀ f ∈ Cm.fa, f.ok K = true
  fn : ∀ d ∈ Cm.fn, He5.fnA K (d.at_ K) = d.val ∧ d.ok K = true
  ex : ∀ e ∈ exs, e K = true
  hd : ∀ p ∈ tf, codeHdIn K (He.cT K p).1 (He.cT K p).2 = true
  out : ∀ p ∈ tf, K.lookup (He.cT K p).2 = none
  empty : ∀ p ∈ tf, h.get? (He.cT K p).2 = some { cls := .none, data := .fields #[] }
/-- the looks, in two parts (each a run of its own: the memory's lid) -/
def o1 (g : Addr → Option Obj) : Bool := plainK (frC g) fun K => fa.all (fun f => f.ok K) && (exs.all (fun e => e K) && He.tabsB g tf K)
def o2 (g : Addr → Option Obj) : He.AlD := plainK (frC g) fun K => (fn.all (fun d => d.ok K), fn.map fun d => He5.fnA K (d.at_ K))
theorem saysC_of {h : Heap} (a : o1 h.get? = true) (b : o2 h.get? = (true, fn.map He5.DefA.val)) : SaysC h (frC h.get?) := by
  unfold o1 at a
  unfold o2 at b
  rw [plainK_eq] at a b
  have e2 : (fn.map fun d => He5.fnA (frC h.get?) (d.at_ (frC h.get?))) = fn.map He5.DefA.val := congrArg (fun z : He.AlD => z.2) b
  have h2 : fn.all (fun d => d.ok (frC h.get?)) = true := congrArg (fun z : He.AlD => z.1) b
  obtain ⟨h1, e1⟩ := He.ba a
  obtain ⟨h3, h4⟩ := He.ba e1
  have key : ∀ p ∈ tf, codeHdIn (frC h.get?) (He.cT (frC h.get?) p).1 (He.cT (frC h.get?) p).2 = true ∧ ∃ o, h.get? (He.cT (frC h.get?) p).2 = some o ∧ He.emptyTab o = true := fun p hp => by
    obtain ⟨h5, h6⟩ := He.ba (List.all_eq_true.mp h4 p hp)
    refine ⟨h5, ?_⟩
    cases q : h.get? (He.cT (frC h.get?) p).2 with
    | none => rw [q] at h6; cases h6
    | some o => rw [q] at h6; exact ⟨o, rfl, h6⟩
  exact ⟨fun f hf => List.all_eq_true.mp h1 f hf, fun d hd => ⟨List.map_inj_left.mp e2 d hd, List.all_eq_true.mp h2 d hd⟩, fun e he => List.all_eq_true.mp h3 e he, fun p hp => (key p hp).1, fun p hp => by
    obtain ⟨_, o, q, z⟩ := key p hp
    exact He.frT_none q z, fun p hp => by
    obtain ⟨_, o, q, z⟩ := key p hp
    rw [q, He.emptyTab_eq z]⟩
def hk : Hook where
  α := Bool × He.AlD
  obs := fun s => (o1 s.heap.get?, o2 s.heap.get?)
  val := fun _ => (true, (true, fn.map He5.DefA.val))
  says := fun _ h => ∃ K : Frag, K.In h ∧ SaysC h K
  of := fun _ _ e => ⟨_, He.frT_in, saysC_of (congrArg (fun z : Bool × He.AlD => z.1) e) (congrArg (fun z : Bool × He.AlD => z.2) e)⟩
  keeps := fun _ _ _ ⟨K, hK, c⟩ k => ⟨K, Frag.In.keeps hK k, ⟨c.fa, c.fn, c.ex, c.hd, c.out, fun p hp => k _ _ (c.empty p hp)⟩⟩
def ob (s : SharedT) : Bool × He.AlD := (o1 (HandSHeadRun.getT s), o2 (HandSHeadRun.getT s))
theorem ob_eq (s : SharedT) : ob s = hk.obs s.abs := by
  have e : HandSHeadRun.getT s = s.abs.heap.get? := funext (HandSHeadRun.getT_eq s)
  unfold ob
  rw [e]
  rfl
theorem run0 (w : World) (os : OsState) : (HandSHeadRun.endF (HandSHeadRun.stepQ (HandSHeadRun.denQ HandSHeadRun.tabQ) Rw.prog w) 20000 Rw.prog w os).map (fun s => (HandSHeadRun.looksF Rw.prog (boot_heap w.params) s.abs, HandSHeadRun.seenQ qv names (importedModules Rw.prog.main.body) (fun s => xlAt qv [] s && recOk Rw.toRowW.records s) s.abs)) = some (true, openGood qv names) := by
  kernel_rfl
theorem run1 (w : World) (os : OsState) : (HandSHeadRun.endF (HandSHeadRun.stepQ (HandSHeadRun.denQ HandSHeadRun.tabQ) Rw.prog w) 20000 Rw.prog w os).map (fun s => o1 (HandSHeadRun.getT s)) = some true := by
  kernel_rfl
theorem run2 (w : World) (os : OsState) : (HandSHeadRun.endF (HandSHeadRun.stepQ (HandSHeadRun.denQ HandSHeadRun.tabQ) Rw.prog w) 20000 Rw.prog w os).map (fun s => o2 (HandSHeadRun.getT s)) = some (true, fn.map He5.DefA.val) := by
  kernel_rfl
theorem join3 {σ α β γ δ : Type} {X : Option σ} {f1 : σ → α} {f2 : σ → β} {p : σ → γ} {q : σ → δ} {a : α} {b : β} {c : γ} {d : δ} (h0 : X.map (fun s => (f1 s, f2 s)) = some (a, b)) (h1 : X.map p = some c) (h2 : X.map q = some d) : X.map (fun s => (f1 s, f2 s, (p s, q s))) = some (a, b, (c, d)) := by
  cases X with
  | none => cases h0
  | some s =>
    have h0 := Option.some.inj h0
    have h1 : p s = c := Option.some.inj h1
    have h2 : q s = d := Option.some.inj h2
    have h01 : f1 s = a := congrArg Prod.fst h0
    have h02 : f2 s = b := congrArg Prod.snd h0
    show some (f1 s, f2 s, (p s, q s)) = _
    rw [h01, h02, h1, h2]
theorem run (w : World) : HandSHeadRun.RunEq Rw qv hk ob 20000 names w := fun os =>
  @join3 SharedT _ _ _ _ (HandSHeadRun.endF (HandSHeadRun.stepQ (HandSHeadRun.denQ HandSHeadRun.tabQ) Rw.prog w) 20000 Rw.prog w os)
    (fun s => HandSHeadRun.looksF Rw.prog (boot_heap w.params) s.abs)
    (fun s => HandSHeadRun.seenQ qv names (importedModules Rw.prog.main.body) (fun s => xlAt qv [] s && recOk Rw.toRowW.records s) s.abs)
    (fun s => o1 (HandSHeadRun.getT s)) (fun s => o2 (HandSHeadRun.getT s)) true (openGood qv names) true (true, fn.map He5.DefA.val) (run0 w os) (run1 w os) (run2 w os)
end CmHd

/-! ## C0 -/
set_option maxHeartbeats 4000000
/-! A calculus over the layer: what is known (a stable heap K, local things m that still change), what is true behind a reading. -/
namespace Cm
open PySem PySem.Spec PyProof.Rows L2 Evl

/-! ### heaps -/
theorem _root_.Evl.Ex.free {H H' : Hp} {p : Addr} (e : Ex H H') (h : H' p = none) : H p = none := fresh_back e h
theorem _root_.Evl.Ex.upd {H H' : Hp} {p : Addr} {o : HO} (e : Ex H H') : Ex (upd H p o) (upd H' p o) := fun a u h => by
  by_cases q : a = p
  · rw [q, upd_same] at h ⊢; exact h
  · rw [upd_ne q] at h ⊢; exact e a u h
theorem _root_.Evl.Ex.le {H K : Hp} {p : Addr} {o : HO} (e : Ex K H) (h : H p = some o) : Ex (upd K p o) H := fun a u q => by
  by_cases z : a = p
  · rw [z, upd_same] at q; rw [z, h]; exact q
  · rw [upd_ne z] at q; exact e a u q
theorem upd_id {H : Hp} {a : Addr} {o : HO} (h : H a = some o) : upd H a o = H := by
  funext b
  by_cases q : b = a
  · rw [q, upd_same, h]
  · rw [upd_ne q]
theorem upd_comm {H : Hp} {a b : Addr} {o u : HO} (n : a ≠ b) : upd (upd H a o) b u = upd (upd H b u) a o := by
  funext c
  by_cases q : c = b
  · subst q; rw [upd_same, upd_ne (Ne.symm n), upd_same]
  · by_cases r : c = a
    · subst r; rw [upd_ne q, upd_same, upd_same]
    · rw [upd_ne q, upd_ne r, upd_ne r, upd_ne q]

/-- the bag of draws at b: five cells, the first the list of ints at l -/
def BagI (b l : Addr) (H : Hp) : Prop := ∃ (ns : List Int) (i c m n : Int), H b = some (.lst [.ref l, .int i, .int c, .int m, .int n]) ∧ l ≠ b ∧ H l = some (.lst (ns.map V.int)) ∧ 0 ≤ i ∧ 0 ≤ c
theorem BagI.stay {b l : Addr} {H H' : Hp} (h : BagI b l H) (k1 : H' b = H b) (k2 : H' l = H l) : BagI b l H' := by
  obtain ⟨ns, i, c, m, n, h1, h2, h3, h4⟩ := h
  exact ⟨ns, i, c, m, n, k1.trans h1, h2, k2.trans h3, h4⟩
theorem BagI.b {b l : Addr} {H : Hp} (h : BagI b l H) : H b ≠ none := by
  obtain ⟨ns, i, c, m, n, h1, _⟩ := h
  rw [h1]; exact Option.some_ne_none _
theorem BagI.l {b l : Addr} {H : Hp} (h : BagI b l H) : H l ≠ none := by
  obtain ⟨ns, i, c, m, n, _, _, h1, _⟩ := h
  rw [h1]; exact Option.some_ne_none _
abbrev Bg := Option (Addr × Addr)

/-- no tuple (tuples never change: they may be learned) -/
def NotT (o : HO) : Prop := ∀ xs, o ≠ .tup xs
/-- from knowledge K0 at the heap H0 to knowledge K at H; g: the bag that may change (its list stays) -/
structure At (g : Bg) (K0 H0 K H : Hp) : Prop where
  k0 : Ex K0 H0
  kk : Ex K0 K
  kh : Ex K H
  fr : ∀ a o, (∀ l, g ≠ some (a, l)) → H0 a = some o → H a = some o
  ns : ∀ a, K0 a = none → H0 a ≠ none → K a = none ∨ ∃ xs, K a = some (.tup xs)
  bg : ∀ b l, g = some (b, l) → H0 b ≠ none ∧ H0 l ≠ none ∧ BagI b l H ∧ K b = none
section
variable {g : Bg} {K0 H0 K H K' H' S : Hp} {p : Addr} {o : HO}
theorem At.refl (k : Ex K H) (b : ∀ b l, g = some (b, l) → BagI b l H ∧ K b = none) : At g K H K H :=
  ⟨k, .refl _, k, fun _ _ _ h => h, fun _ h _ => .inl h, fun x l e => ⟨(b x l e).1.b, (b x l e).1.l, b x l e⟩⟩
theorem At.here (a : At g K0 H0 K H) : At g K H K H := .refl a.kh fun b l e => (a.bg b l e).2.2
theorem At.there (a : At g K0 H0 K H) {x : Addr} (h : H0 x ≠ none) : H x ≠ none := by
  by_cases e : ∃ l, g = some (x, l)
  · obtain ⟨l, e⟩ := e
    exact (a.bg x l e).2.2.1.b
  · cases q : H0 x with
    | none => exact absurd q h
    | some u => rw [a.fr x u (fun l z => e ⟨l, z⟩) q]; exact Option.some_ne_none _
theorem At.trans (a : At g K0 H0 K H) (b : At g K H K' H') : At g K0 H0 K' H' :=
  ⟨a.k0, a.kk.trans b.kk, b.kh, fun x u e h => b.fr x u e (a.fr x u e h), fun x h1 h2 => (a.ns x h1 h2).elim (fun z => b.ns x z (a.there h2)) (fun ⟨xs, z⟩ => .inr ⟨xs, b.kk _ _ z⟩), fun x l e => ⟨(a.bg x l e).1, (a.bg x l e).2.1, (b.bg x l e).2.2⟩⟩
/-- knowing less -/
theorem At.weak (a : At g K0 H0 S H) (e0 : Ex K0 K) (e : Ex K S) : At g K0 H0 K H :=
  ⟨a.k0, e0, e.trans a.kh, a.fr, fun x h1 h2 => by
    cases q : K x with
    | none => exact .inl rfl
    | some o =>
      rcases a.ns x h1 h2 with z | ⟨xs, z⟩
      · rw [e _ _ q] at z; cases z
      · rw [e _ _ q] at z; exact .inr ⟨xs, z⟩, fun b l q => ⟨(a.bg b l q).1, (a.bg b l q).2.1, (a.bg b l q).2.2.1, e.free (a.bg b l q).2.2.2⟩⟩
theorem At.newH (a : At g K0 H0 K H) (h : H p = none) : H0 p = none := by
  cases q : H0 p with
  | none => rfl
  | some u => exact absurd h (a.there (by rw [q]; exact Option.some_ne_none _))
/-- a local thing is written -/
theorem At.wrote (a : At g K0 H0 K H) (h0 : H0 p = none) (hk : K p = none) : At g K0 H0 K (upd H p o) := by
  refine ⟨a.k0, a.kk, fun x u q => ?_, fun x u e q => ?_, a.ns, fun b l e => ⟨(a.bg b l e).1, (a.bg b l e).2.1, (a.bg b l e).2.2.1.stay ?_ ?_, (a.bg b l e).2.2.2⟩⟩
  · rw [upd_ne (ne_of_none q hk)]; exact a.kh x u q
  · rw [upd_ne (ne_of_none q h0)]; exact a.fr x u e q
  · exact upd_ne fun z => (a.bg b l e).1 (by rw [z]; exact h0)
  · exact upd_ne fun z => (a.bg b l e).2.1 (by rw [z]; exact h0)
/-- a local thing becomes known -/
theorem At.keep (a : At g K0 H0 K H) (h0 : H0 p = none) (hk : K p = none) (h : H p = some o) : At g K0 H0 (upd K p o) H := by
  refine ⟨a.k0, a.kk.trans (Ex.new hk), fun x u q => ?_, a.fr, fun x h1 h2 => ?_, fun b l e => ⟨(a.bg b l e).1, (a.bg b l e).2.1, (a.bg b l e).2.2.1, ?_⟩⟩
  · by_cases z : x = p
    · rw [z, upd_same] at q; rw [z, h]; exact q
    · rw [upd_ne z] at q; exact a.kh x u q
  · rw [upd_ne (fun z => h2 (by rw [z]; exact h0))]; exact a.ns x h1 h2
  · rw [upd_ne (fun z => (a.bg b l e).1 (by rw [z]; exact h0))]; exact (a.bg b l e).2.2.2
/-- a tuple that stands in the heap is learned -/
theorem At.learn {xs : List V} (a : At g K0 H0 K H) (h : H p = some (.tup xs)) : At g K0 H0 (upd K p (.tup xs)) H := by
  refine ⟨a.k0, fun x u q => ?_, a.kh.le h, a.fr, fun x h1 h2 => ?_, fun b l e => ⟨(a.bg b l e).1, (a.bg b l e).2.1, (a.bg b l e).2.2.1, ?_⟩⟩
  · by_cases z : x = p
    · have := a.kh _ _ (a.kk _ _ q)
      rw [z, h] at this
      rw [z, upd_same, this]
    · rw [upd_ne z]; exact a.kk _ _ q
  · by_cases z : x = p
    · rw [z, upd_same]; exact .inr ⟨xs, rfl⟩
    · rw [upd_ne z]; exact a.ns x h1 h2
  · obtain ⟨ns, i, c, m, n, h1, _⟩ := (a.bg b l e).2.2.1
    rw [upd_ne (fun z => by rw [z, h] at h1; cases h1)]
    exact (a.bg b l e).2.2.2
/-- a new thing, known -/
theorem At.laid (a : At g K0 H0 K H) (h : H p = none) : At g K0 H0 (upd K p o) (upd H p o) :=
  (a.wrote (a.newH h) (a.kh.free h)).keep (a.newH h) (a.kh.free h) upd_same
end

/-! ### what a reading gives, from what is known -/
/-- from knowledge K: f ends, with a value and new knowledge of which R is true -/
def W {α : Type} (g : Bg) (f : Hp → (α → Hp → Prop) → Prop) (K : Hp) (R : α → Hp → Prop) : Prop :=
  ∀ (K1 H : Hp), Ex K K1 → At g K1 H K1 H → ∀ Q : α → Hp → Prop, (∀ v S H', At g K1 H S H' → R v S → Q v H') → f H Q
/-- just this value -/
def Is {α : Type} (x : α) : α → Hp → Prop := fun v _ => v = x
section
variable {α β : Type} {g : Bg} {f : Hp → (α → Hp → Prop) → Prop} {K K1 : Hp} {R R' : α → Hp → Prop} {σ : L2.St}
theorem W.mono (h : W g f K R) (e : Ex K K1) : W g f K1 R := fun K2 H e2 a Q q => h K2 H (e.trans e2) a Q q
theorem W.imp (h : W g f K R) (r : ∀ v S, Ex K S → R v S → R' v S) : W g f K R' := fun K2 H e a Q q => h K2 H e a Q fun v S H' b hr => q v S H' b (r v S (e.trans b.kk) hr)
theorem W.pure {v : α} (h : ∀ S, Ex K S → R v S) : W g (fun H Q => Q v H) K R := fun K2 H e a Q q => q v K2 H a (h K2 e)
theorem W.bind {h : α → Hp → (β → Hp → Prop) → Prop} {R2 : β → Hp → Prop} (hf : W g f K R) (hh : ∀ v S, Ex K S → R v S → W g (h v) S R2) : W g (fun H Q => f H fun v H1 => h v H1 Q) K R2 := fun K2 H e a Q q =>
  hf K2 H e a _ fun v S H' b hr => hh v S (e.trans b.kk) hr S H' (.refl _) b.here Q fun v2 S2 H2 b2 hr2 => q v2 S2 H2 (b.trans b2) hr2
theorem W.bindI {h : α → Hp → (β → Hp → Prop) → Prop} {R2 : β → Hp → Prop} {x : α} (hf : W g f K (Is x)) (hh : W g (h x) K R2) : W g (fun H Q => f H fun v H1 => h v H1 Q) K R2 :=
  hf.bind fun v S e hv => by cases hv; exact hh.mono e
theorem W.is {x y : α} (h : W g f K (Is x)) (e : x = y) : W g f K (Is y) := e ▸ h
end
section
variable {g : Bg} {K : Hp} {Kf : PySem.W.Frag} {σ : L2.St} {ta tb tc te : TE} {t u : TT} {tr : TA} {x y z v : V} {r r' : R2} {R : V → Hp → Prop} {a b c : Bool} {xs : List V}
theorem w_var {i : Nat} (h : σ[i]? = some (some v)) : W g (tVar i σ) K (Is v) := fun K2 H e a Q q => ⟨v, h, q v K2 H a rfl⟩
theorem w_c : W g (tC v σ) K (Is v) := fun K2 H e a Q q => q v K2 H a rfl
theorem w_op (ha : W g (ta σ) K (Is x)) (hb : W g (tb σ) K (Is y)) (hr : W g (r x y) K R) : W g (tOp r ta tb σ) K R :=
  ha.bindI (h := fun x H Q => tb σ H fun y H2 => r x y H2 Q) (hb.bindI (h := fun y H Q => r x y H Q) hr)
theorem w_opR {Ra : V → Hp → Prop} (ha : W g (ta σ) K Ra) (hb : ∀ x S, Ex K S → Ra x S → W g (fun H Q => tb σ H fun y H2 => r x y H2 Q) S R) : W g (tOp r ta tb σ) K R :=
  ha.bind (h := fun x H Q => tb σ H fun y H2 => r x y H2 Q) hb
theorem w_un {rr : V → Hp → VK → Prop} (ha : W g (ta σ) K (Is x)) (hr : W g (rr x) K R) : W g (tUn rr ta σ) K R := ha.bindI (h := fun x H Q => rr x H Q) hr
theorem w_rI0 {f : Int → Int → V} {i j : Int} : W g (rI0 f (.int i) (.int j)) K (Is (f i j)) := fun K2 H e a Q q => ⟨i, j, rfl, rfl, q _ K2 H a rfl⟩
theorem w_rI {C : Int → Int → Prop} {f : Int → Int → V} {i j : Int} (c : C i j) : W g (rI C f (.int i) (.int j)) K (Is (f i j)) := fun K2 H e a Q q => ⟨i, j, rfl, rfl, c, q _ K2 H a rfl⟩
theorem w_rU {f : Int → V} {i : Int} : W g (rU f (.int i)) K (Is (f i)) := fun K2 H e a Q q => ⟨i, rfl, q _ K2 H a rfl⟩
theorem w_rEq (h : scal x y = true) : W g (rEq x y) K (Is (.bl (decide (x = y)))) := fun K2 H e a Q q => ⟨h, q _ K2 H a rfl⟩
theorem w_rNe (h : scal x y = true) : W g (rNe x y) K (Is (.bl (!decide (x = y)))) := fun K2 H e a Q q => ⟨h, q _ K2 H a rfl⟩
theorem w_isN : W g (fun H (Q : VK) => V.non = .non ∧ Q (.bl (decide (x = .non))) H) K (Is (.bl (decide (x = .non)))) := fun K2 H e a Q q => ⟨rfl, q _ K2 H a rfl⟩
theorem w_chain1 (ha : W g (ta σ) K (Is x)) (hb : W g (tb σ) K (Is y)) (hc : W g (tc σ) K (Is z)) {p q : Bool} (h1 : W g (r x y) K (Is (.bl p))) (h2 : W g (r' y z) K (Is (.bl q))) : W g (tChain r r' ta tb tc σ) K (Is (.bl (p && q))) :=
  ha.bindI (h := fun x H Q => tb σ H fun y H2 => r x y H2 fun z H3 => ∃ k, z = .bl k ∧ (if k = true then tc σ H3 fun w' H4 => r' y w' H4 Q else Q (.bl false) H3))
    (hb.bindI (h := fun y H Q => r x y H fun z H3 => ∃ k, z = .bl k ∧ (if k = true then tc σ H3 fun w' H4 => r' y w' H4 Q else Q (.bl false) H3))
      (h1.bindI (h := fun z H Q => ∃ k, z = .bl k ∧ (if k = true then tc σ H fun w' H4 => r' y w' H4 Q else Q (.bl false) H)) fun K2 H e a Q q => ⟨p, rfl, by
        cases p with
        | true => exact iteT ((hc.bindI (h := fun w' H Q => r' y w' H Q) h2) K2 H e a Q fun v S H' b hv => q v S H' b (by rw [hv, Bool.true_and]; rfl))
        | false => exact iteF (q _ K2 H a (by rw [Bool.false_and]; rfl))⟩))
/-! tests -/
theorem w_test (h : W g (te σ) K (Is (.bl b))) : W g (tTest te σ) K (Is b) := fun K2 H e a Q q => h K2 H e a _ fun v S H' d hv => ⟨b, hv, q _ S H' d rfl⟩
theorem w_tB (h : W g (te σ) K (Is (.bl b))) : W g (tB te σ) K (Is b) := fun K2 H e a Q q => h K2 H e a _ fun v S H' d hv => ⟨b, hv, q _ S H' d rfl⟩
theorem w_tru (h : W g (te σ) K (Is x)) (ht : ∀ H, Ex K H → TruV Kf x H b) : W g (fun H Q => te σ H fun x H' => ∃ k, TruV Kf x H' k ∧ Q k H') K (Is b) :=
  fun K2 H e a Q q => h K2 H e a _ fun v S H' d hv => by cases hv; exact ⟨b, ht H' ((e.trans d.kk).trans d.kh), q _ S H' d rfl⟩
theorem w_and (h1 : W g (t σ) K (Is a)) (h2 : a = true → W g (u σ) K (Is b)) : W g (tAnd t u σ) K (Is (a && b)) :=
  fun K2 H e x Q q => h1 K2 H e x _ fun v S H' d hv => by
    cases hv
    cases a with
    | true => exact iteT (h2 rfl S H' (e.trans d.kk) d.here Q fun v S2 H2 d2 hv => q v S2 H2 (d.trans d2) hv)
    | false => exact iteF (q _ S H' d rfl)
theorem w_or (h1 : W g (t σ) K (Is a)) (h2 : a = false → W g (u σ) K (Is b)) : W g (tOr t u σ) K (Is (a || b)) :=
  fun K2 H e x Q q => h1 K2 H e x _ fun v S H' d hv => by
    cases hv
    cases a with
    | true => exact iteT (q _ S H' d rfl)
    | false => exact iteF (h2 rfl S H' (e.trans d.kk) d.here Q fun v S2 H2 d2 hv => q v S2 H2 (d.trans d2) hv)
theorem w_not (h : W g (t σ) K (Is a)) : W g (tNot t σ) K (Is (!a)) := fun K2 H e x Q q => h K2 H e x _ fun v S H' d hv => q _ S H' d (by cases hv; rfl)
theorem w_andV (h1 : W g (ta σ) K (Is (.bl a))) (h2 : a = true → W g (tb σ) K (Is (.bl b))) : W g (tAndV ta tb σ) K (Is (.bl (a && b))) :=
  fun K2 H e x Q q => h1 K2 H e x _ fun v S H' d hv => by
    refine ⟨a, hv, ?_⟩
    cases a with
    | true => exact iteT (h2 rfl S H' (e.trans d.kk) d.here Q fun v S2 H2 d2 hv => q v S2 H2 (d.trans d2) hv)
    | false => exact iteF (q _ S H' d rfl)
theorem w_orV (h1 : W g (ta σ) K (Is (.bl a))) (h2 : a = false → W g (tb σ) K (Is (.bl b))) : W g (tOrV ta tb σ) K (Is (.bl (a || b))) :=
  fun K2 H e x Q q => h1 K2 H e x _ fun v S H' d hv => by
    refine ⟨a, hv, ?_⟩
    cases a with
    | true => exact iteT (q _ S H' d rfl)
    | false => exact iteF (h2 rfl S H' (e.trans d.kk) d.here Q fun v S2 H2 d2 hv => q v S2 H2 (d.trans d2) hv)
theorem w_notV (h : W g (ta σ) K (Is (.bl a))) : W g (tNotV ta σ) K (Is (.bl (!a))) := fun K2 H e x Q q => h K2 H e x _ fun v S H' d hv => ⟨a, hv, q _ S H' d rfl⟩
theorem w_if (h : W g (t σ) K (Is a)) (h1 : a = true → W g (ta σ) K R) (h2 : a = false → W g (tb σ) K R) : W g (tIf t ta tb σ) K R :=
  fun K2 H e x Q q => h K2 H e x _ fun v S H' d hv => by
    cases hv
    cases a with
    | true => exact iteT (h1 rfl S H' (e.trans d.kk) d.here Q fun v S2 H2 d2 hv => q v S2 H2 (d.trans d2) hv)
    | false => exact iteF (h2 rfl S H' (e.trans d.kk) d.here Q fun v S2 H2 d2 hv => q v S2 H2 (d.trans d2) hv)
/-! arguments, displays -/
theorem w_nil : W g (tNil σ) K (Is []) := fun K2 H e a Q q => q _ K2 H a rfl
theorem w_cons (h : W g (ta σ) K (Is x)) (hr : W g (tr σ) K (Is xs)) : W g (tCons ta tr σ) K (Is (x :: xs)) :=
  fun K2 H e a Q q => h K2 H e a _ fun v S H' d hv => hr S H' (e.trans d.kk) d.here _ fun vs S2 H2 d2 hvs => q _ S2 H2 (d.trans d2) (by cases hv; cases hvs; rfl)
theorem w_consR {Ra : V → Hp → Prop} {R : List V → Hp → Prop} (h : W g (ta σ) K Ra) (hr : ∀ x S, Ex K S → Ra x S → W g (tr σ) S fun xs S' => R (x :: xs) S') : W g (tCons ta tr σ) K R :=
  fun K2 H e a Q q => h K2 H e a _ fun v S H' d hv => hr v S (e.trans d.kk) hv S H' (.refl _) d.here _ fun vs S2 H2 d2 hvs => q _ S2 H2 (d.trans d2) hvs
theorem w_nilR {R : List V → Hp → Prop} (h : ∀ S, Ex K S → R [] S) : W g (tNil σ) K R := fun K2 H e a Q q => q _ K2 H a (h K2 e)
/-- a new list | a new tuple of these -/
def NewL (xs : List V) : V → Hp → Prop := fun v S => ∃ p, v = V.ref p ∧ S p = some (.lst xs)
def NewT (xs : List V) : V → Hp → Prop := fun v S => ∃ p, v = V.ref p ∧ S p = some (.tup xs)
theorem w_tup (h : W g (tr σ) K (Is xs)) (hl : xs.length ≤ 1000 := by first | decide | simp) : W g (tTup tr σ) K (NewT xs) :=
  fun K2 H e a Q q => h K2 H e a _ fun v S H' d hv => by
    cases hv
    exact ⟨Nat.le_trans hl (by decide), fun p hp => q _ _ _ (d.laid hp |> fun z => z) ⟨p, rfl, upd_same⟩⟩
theorem w_lst (h : W g (tr σ) K (Is xs)) (hl : xs.length ≤ 1000 := by first | decide | simp) : W g (tLst tr σ) K (NewL xs) :=
  fun K2 H e a Q q => h K2 H e a _ fun v S H' d hv => by
    cases hv
    exact ⟨Nat.le_trans hl (by decide), fun p hp => q _ _ _ (d.laid hp) ⟨p, rfl, upd_same⟩⟩
theorem w_tupR {Ra : List V → Hp → Prop} (h : W g (tr σ) K Ra) (hr : ∀ xs S, Ex K S → Ra xs S → xs.length ≤ 1000 ∧ ∀ p, S p = none → R (.ref p) (upd S p (.tup xs))) : W g (tTup tr σ) K R :=
  fun K2 H e a Q q => h K2 H e a _ fun v S H' d hv => by
    obtain ⟨hl, k⟩ := hr v S (e.trans d.kk) hv
    exact ⟨Nat.le_trans hl (by decide), fun p hp => q _ _ _ (d.laid hp) (k p (d.kh.free hp))⟩
theorem w_lstR {Ra : List V → Hp → Prop} (h : W g (tr σ) K Ra) (hr : ∀ xs S, Ex K S → Ra xs S → xs.length ≤ 1000 ∧ ∀ p, S p = none → R (.ref p) (upd S p (.lst xs))) : W g (tLst tr σ) K R :=
  fun K2 H e a Q q => h K2 H e a _ fun v S H' d hv => by
    obtain ⟨hl, k⟩ := hr v S (e.trans d.kk) hv
    exact ⟨Nat.le_trans hl (by decide), fun p hp => q _ _ _ (d.laid hp) (k p (d.kh.free hp))⟩
/-! calls -/
/-- what a promise gives -/
abbrev SpW (g : Bg) (sp : Sp) (vs : List V) (K : Hp) (R : V → Hp → Prop) : Prop := ∀ E : XK, W g (fun H Q => sp vs H Q E) K R
theorem w_call {sp : Sp} {dvs vs : List V} {E : XK} (h : W g (tr σ) K (Is vs)) (hs : SpW g sp (vs ++ dvs) K R) : W g (tCall sp dvs E tr σ) K R :=
  fun K2 H e a Q q => h K2 H e a _ fun v S H' d hv => by cases hv; exact hs E S H' (e.trans d.kk) d.here Q fun v2 S2 H2 d2 h2 => q v2 S2 H2 (d.trans d2) h2
theorem w_callR {sp : Sp} {dvs : List V} {E : XK} {Ra : List V → Hp → Prop} (h : W g (tr σ) K Ra) (hs : ∀ vs S, Ex K S → Ra vs S → SpW g sp (vs ++ dvs) S R) : W g (tCall sp dvs E tr σ) K R :=
  fun K2 H e a Q q => h K2 H e a _ fun v S H' d hv => hs v S (e.trans d.kk) hv E S H' (.refl _) d.here Q fun v2 S2 H2 d2 h2 => q v2 S2 H2 (d.trans d2) h2
theorem w_cb {rr : List V → Hp → VK → Prop} {vs : List V} (h : W g (tr σ) K (Is vs)) (hs : W g (rr vs) K R) : W g (tCB rr tr σ) K R :=
  fun K2 H e a Q q => h K2 H e a _ fun v S H' d hv => by cases hv; exact hs S H' (e.trans d.kk) d.here Q fun v2 S2 H2 d2 h2 => q v2 S2 H2 (d.trans d2) h2
theorem w_cbR {rr : List V → Hp → VK → Prop} {Ra : List V → Hp → Prop} (h : W g (tr σ) K Ra) (hs : ∀ vs S, Ex K S → Ra vs S → W g (rr vs) S R) : W g (tCB rr tr σ) K R :=
  fun K2 H e a Q q => h K2 H e a _ fun v S H' d hv => hs v S (e.trans d.kk) hv S H' (.refl _) d.here Q fun v2 S2 H2 d2 h2 => q v2 S2 H2 (d.trans d2) h2
/-- o.m(..), o an instance that is known -/
theorem w_meth {C p dx : Addr} {m : Str} {fs : List (Str × V)} {sp : Sp} {dvs vs : List V} {E : XK} (ho : W g (ta σ) K (Is (.ref p))) (hk : K p = some (.ins C dx fs)) (hl : fs.lookup m = none) (h : W g (tr σ) K (Is vs)) (hs : SpW g sp (.ref p :: (vs ++ dvs)) K R) : W g (tMeth C m sp dvs E ta tr σ) K R :=
  fun K2 H e a Q q => ho K2 H e a _ fun v S H' d hv => by
    cases hv
    exact ⟨p, dx, fs, rfl, d.kh _ _ (d.kk _ _ (e _ _ hk)), hl, h S H' (e.trans d.kk) d.here _ fun v2 S2 H2 d2 h2 => by
      cases h2
      exact hs E S2 H2 ((e.trans d.kk).trans d2.kk) d2.here Q fun v3 S3 H3 d3 h3 => q v3 S3 H3 ((d.trans d2).trans d3) h3⟩
theorem w_methR {C p dx : Addr} {m : Str} {fs : List (Str × V)} {sp : Sp} {dvs : List V} {E : XK} {Ra : List V → Hp → Prop} (ho : W g (ta σ) K (Is (.ref p))) (hk : K p = some (.ins C dx fs)) (hl : fs.lookup m = none) (h : W g (tr σ) K Ra) (hs : ∀ vs S, Ex K S → Ra vs S → SpW g sp (.ref p :: (vs ++ dvs)) S R) : W g (tMeth C m sp dvs E ta tr σ) K R :=
  fun K2 H e a Q q => ho K2 H e a _ fun v S H' d hv => by
    cases hv
    exact ⟨p, dx, fs, rfl, d.kh _ _ (d.kk _ _ (e _ _ hk)), hl, h S H' (e.trans d.kk) d.here _ fun v2 S2 H2 d2 h2 =>
      hs v2 S2 ((e.trans d.kk).trans d2.kk) h2 E S2 H2 (.refl _) d2.here Q fun v3 S3 H3 d3 h3 => q v3 S3 H3 ((d.trans d2).trans d3) h3⟩
theorem w_fld {C p dx : Addr} {f : Str} {fs : List (Str × V)} (ho : W g (ta σ) K (Is (.ref p))) (hk : K p = some (.ins C dx fs)) (hc : Cls Kf C) (hn : NoAttr Kf C f) (hl : fs.lookup f = some v) : W g (tFld Kf ta f σ) K (Is v) :=
  fun K2 H e a Q q => ho K2 H e a _ fun x S H' d hv => by
    cases hv
    exact ⟨p, C, dx, fs, v, rfl, d.kh _ _ (d.kk _ _ (e _ _ hk)), hc, hn, hl, q _ S H' d rfl⟩
theorem w_prop {C p dx : Addr} {fs : List (Str × V)} {sp : Sp} {E : XK} (ho : W g (ta σ) K (Is (.ref p))) (hk : K p = some (.ins C dx fs)) (hs : SpW g sp [.ref p] K R) : W g (tProp C sp [] E ta σ) K R :=
  fun K2 H e a Q q => ho K2 H e a _ fun x S H' d hv => by
    cases hv
    exact ⟨p, dx, fs, rfl, d.kh _ _ (d.kk _ _ (e _ _ hk)), hs E S H' (e.trans d.kk) d.here Q fun v3 S3 H3 d3 h3 => q v3 S3 H3 (d.trans d3) h3⟩
end

/-! ### promises -/
/-- called with arg x where pre x is known: post x of the value, of what is known then -/
def Pr {ι : Type} (arg : ι → List V) (pre : Bg → ι → Hp → Prop) (post : ι → Hp → V → Hp → Prop) : Sp := fun vs H Q _ =>
  ∃ (g : Bg) (K : Hp) (x : ι), vs = arg x ∧ At g K H K H ∧ pre g x K ∧ ∀ v S H', At g K H S H' → post x K v S → Q v H'
theorem w_pr {ι : Type} {arg : ι → List V} {pre : Bg → ι → Hp → Prop} {post : ι → Hp → V → Hp → Prop} {g : Bg} {K : Hp} {R : V → Hp → Prop} (x : ι) (hp : ∀ K1, Ex K K1 → pre g x K1) (hr : ∀ K1 v S, Ex K K1 → Ex K1 S → post x K1 v S → R v S) : SpW g (Pr arg pre post) (arg x) K R :=
  fun E K1 H e a Q q => ⟨g, K1, x, rfl, a, hp K1 e, fun v S H' b h => q v S H' b (hr K1 v S e b.kk h)⟩

/-! ### statements -/
/-- where one stands: the bag, what was known at the entry, the heap at the entry -/
structure Ct where
  g : Bg
  K0 : Hp
  H0 : Hp
/-- local things that still change, apart from what is known -/
structure St8 (c : Ct) (m : List (Addr × HO)) (K H : Hp) : Prop where
  a : At c.g c.K0 c.H0 K H
  mu : ∀ q ∈ m, H q.1 = some q.2 ∧ K q.1 = none ∧ c.H0 q.1 = none
  nt : ∀ q ∈ m, NotT q.2
  nd : (m.map (·.1)).Nodup
/-- P holds wherever so much is known -/
def G (c : Ct) (P : L2.St → Hp → Prop) (σ : L2.St) (m : List (Addr × HO)) (K : Hp) : Prop := ∀ H, St8 c m K H → P σ H
def ov : List (Addr × HO) → Hp → Hp
  | [], K => K
  | q :: m, K => upd (ov m K) q.1 q.2
theorem ov_off {m : List (Addr × HO)} {K : Hp} {a : Addr} (h : a ∉ m.map (·.1)) : ov m K a = K a := by
  induction m with
  | nil => rfl
  | cons q m ih =>
    simp only [List.map_cons, List.mem_cons, not_or] at h
    show upd (ov m K) q.1 q.2 a = K a
    rw [upd_ne h.1, ih h.2]
theorem ov_in {m : List (Addr × HO)} {K : Hp} {a : Addr} {o : HO} (h : ov m K a = some o) : (a, o) ∈ m ∨ K a = some o := by
  induction m with
  | nil => exact .inr h
  | cons q m ih =>
    have h' : upd (ov m K) q.1 q.2 a = some o := h
    by_cases e : a = q.1
    · rw [e, upd_same] at h'
      cases h'
      exact .inl (by rw [e]; exact List.mem_cons_self)
    · rw [upd_ne e] at h'
      exact (ih h').imp (List.mem_cons_of_mem _) id
section
variable {c : Ct} {m : List (Addr × HO)} {K S H H' : Hp}
theorem St8.ovH (s : St8 c m K H) : Ex (ov m K) H := fun a o h => (ov_in h).elim (fun z => (s.mu _ z).1) fun z => s.a.kh a o z
theorem St8.ovK (s : St8 c m K H) : Ex K (ov m K) := fun a o h => by
  by_cases q : a ∈ m.map (·.1)
  · obtain ⟨p, hp, e⟩ := List.mem_map.mp q
    have := (s.mu p hp).2.1
    rw [e, h] at this
    cases this
  · rw [ov_off q]; exact h
theorem St8.bagOff (s : St8 c m K H) {b l : Addr} (e : c.g = some (b, l)) : b ∉ m.map (·.1) := fun q => by
  obtain ⟨p, hp, e2⟩ := List.mem_map.mp q
  exact (s.a.bg b l e).1 (by rw [← e2]; exact (s.mu p hp).2.2)
theorem St8.hereM (s : St8 c m K H) : At c.g (ov m K) H (ov m K) H := .refl s.ovH fun b l e => ⟨(s.a.bg b l e).2.2.1, by rw [ov_off (s.bagOff e)]; exact (s.a.bg b l e).2.2.2⟩
/-- behind a reading -/
theorem St8.to (s : St8 c m K H) (b : At c.g K H S H') : St8 c m S H' := by
  refine ⟨s.a.trans b, fun q hq => ?_, s.nt, s.nd⟩
  obtain ⟨h1, h2, h3⟩ := s.mu q hq
  have h4 := b.fr _ _ (fun l e => (s.a.bg q.1 l e).1 h3) h1
  refine ⟨h4, ?_, h3⟩
  rcases b.ns _ h2 (by rw [h1]; exact Option.some_ne_none _) with z | ⟨xs, z⟩
  · exact z
  · have := b.kh _ _ z
    rw [h4] at this
    exact absurd (Option.some.inj this) (s.nt q hq xs)
/-- behind a reading that looked at the local things too: what was known -/
theorem St8.toM (s : St8 c m K H) (b : At c.g (ov m K) H S H') : St8 c m K H' := by
  have e : Ex K S := s.ovK.trans b.kk
  refine ⟨⟨s.a.k0, s.a.kk, e.trans b.kh, fun x u h1 h2 => b.fr x u h1 (s.a.fr x u h1 h2), s.a.ns, fun x l h => ⟨(s.a.bg x l h).1, (s.a.bg x l h).2.1, (b.bg x l h).2.2.1, (s.a.bg x l h).2.2.2⟩⟩, fun q hq => ?_, s.nt, s.nd⟩
  obtain ⟨h1, h2, h3⟩ := s.mu q hq
  exact ⟨b.fr _ _ (fun l e => (s.a.bg q.1 l e).1 h3) h1, h2, h3⟩
theorem St8.weak (s : St8 c m S H) (e0 : Ex c.K0 K) (e : Ex K S) : St8 c m K H := ⟨s.a.weak e0 e, fun q hq => ⟨(s.mu q hq).1, e.free (s.mu q hq).2.1, (s.mu q hq).2.2⟩, s.nt, s.nd⟩
end
section
variable {c : Ct} {m : List (Addr × HO)} {K : Hp} {σ : L2.St} {D : Ends} {t u w : TS} {te : TE} {tt : TT} {R : V → Hp → Prop} {P : L2.St → Hp → Prop} {v : V} {b : Bool} {i : Nat} {Kf : PySem.W.Frag} {gt : TG}
theorem g_seq (h : G c (t { D with nx := u D }) σ m K) : G c (tSeq t u D) σ m K := h
theorem g_use (h : G c P σ m K) {H : Hp} (s : St8 c m K H) : P σ H := h H s
/-- knowing less -/
theorem g_weak {K' : Hp} (e0 : Ex c.K0 K') (e : Ex K' K) (h : G c P σ m K') : G c P σ m K := fun H s => h H (s.weak e0 e)
theorem g_asg (h : W c.g (te σ) K R) (k : ∀ v S, Ex K S → R v S → G c D.nx (σ.set i (some v)) m S) : G c (tAsg te (gName i) D) σ m K :=
  fun H s => h K H (.refl _) s.a.here _ fun v S H' d hv => k v S d.kk hv H' (s.to d)
theorem g_asgI (h : W c.g (te σ) K (Is v)) (k : G c D.nx (σ.set i (some v)) m K) : G c (tAsg te (gName i) D) σ m K :=
  fun H s => h K H (.refl _) s.a.here _ fun v S H' d hv => by cases hv; exact k H' ((s.to d).weak s.a.kk d.kk)
theorem g_asgM (h : Ex K (ov m K) → W c.g (te σ) (ov m K) (Is v)) (k : G c D.nx (σ.set i (some v)) m K) : G c (tAsg te (gName i) D) σ m K :=
  fun H s => h s.ovK _ H (.refl _) s.hereM _ fun v S H' d hv => by cases hv; exact k H' (s.toM d)
theorem g_drop (h : W c.g (te σ) K R) (k : ∀ v S, Ex K S → R v S → G c D.nx σ m S) : G c (tDrop te D) σ m K :=
  fun H s => h K H (.refl _) s.a.here _ fun v S H' d hv => k v S d.kk hv H' (s.to d)
theorem g_ret (h : W c.g (te σ) K R) (k : ∀ v S H', Ex K S → St8 c m S H' → R v S → D.rt v H') : G c (tRet te D) σ m K :=
  fun H s => h K H (.refl _) s.a.here _ fun v S H' d hv => k v S H' d.kk (s.to d) hv
theorem g_retM (h : Ex K (ov m K) → W c.g (te σ) (ov m K) (Is v)) (k : ∀ H', St8 c m K H' → D.rt v H') : G c (tRet te D) σ m K :=
  fun H s => h s.ovK _ H (.refl _) s.hereM _ fun v S H' d hv => by cases hv; exact k H' (s.toM d)
theorem g_retN (k : ∀ H', St8 c m K H' → D.rt .non H') : G c (tRetN D) σ m K := fun H s => k H s
theorem g_if (h : W c.g (tt σ) K (Is b)) (h1 : b = true → G c (t D) σ m K) (h2 : b = false → G c (u D) σ m K) : G c (tIfS tt t u D) σ m K :=
  fun H s => h K H (.refl _) s.a.here _ fun v S H' d hv => by
    cases hv
    have s' := (s.to d).weak s.a.kk d.kk
    cases b with
    | true => exact iteT (h1 rfl H' s')
    | false => exact iteF (h2 rfl H' s')
theorem g_ifM (h : Ex K (ov m K) → W c.g (tt σ) (ov m K) (Is b)) (h1 : b = true → G c (t D) σ m K) (h2 : b = false → G c (u D) σ m K) : G c (tIfS tt t u D) σ m K :=
  fun H s => h s.ovK _ H (.refl _) s.hereM _ fun v S H' d hv => by
    cases hv
    have s' := s.toM d
    cases b with
    | true => exact iteT (h1 rfl H' s')
    | false => exact iteF (h2 rfl H' s')
theorem g_next (h : G c D.nx σ m K) : G c (tNext D) σ m K := h
/-- a test that must be false ahead of what can't be -/
theorem g_never (h : W c.g (tt σ) K (Is false)) (h2 : G c (u D) σ m K) : G c (tIfS tt t u D) σ m K := g_if h (fun z => by cases z) fun _ => h2
/-! a, b = e; a, b, c = e -/
theorem g_tup2 {K2 : Hp} {q : Addr} {x y : V} {j : Nat} {P : L2.St → Hp → Prop} (h : SqT Kf K2 q [x, y]) (e : Ex K2 K) (k : G c P ((σ.set i (some x)).set j (some y)) m K) : G c (fun σ H => gTup Kf 2 (gCons (gName i) (gCons (gName j) gNil)) (.ref q) σ H P) σ m K :=
  fun H s => ⟨q, [x, y], rfl, ex_t (e.trans s.a.kh) h, rfl, x, [y], rfl, y, [], rfl, rfl, k H s⟩
theorem g_tup3 {K2 : Hp} {q : Addr} {x y z : V} {j l : Nat} {P : L2.St → Hp → Prop} (h : SqT Kf K2 q [x, y, z]) (e : Ex K2 K) (k : G c P (((σ.set i (some x)).set j (some y)).set l (some z)) m K) : G c (fun σ H => gTup Kf 3 (gCons (gName i) (gCons (gName j) (gCons (gName l) gNil))) (.ref q) σ H P) σ m K :=
  fun H s => ⟨q, [x, y, z], rfl, ex_t (e.trans s.a.kh) h, rfl, x, [y, z], rfl, y, [z], rfl, z, [], rfl, rfl, k H s⟩
theorem g_asgG (h : W c.g (te σ) K R) (k : ∀ v S, Ex K S → R v S → G c (fun σ H => gt v σ H D.nx) σ m S) : G c (tAsg te gt D) σ m K :=
  fun H s => h K H (.refl _) s.a.here _ fun v S H' d hv => k v S d.kk hv H' (s.to d)
/-! local things -/
theorem St8.wrote {p : Addr} {o o' : HO} {H : Hp} (s : St8 c ((p, o) :: m) K H) (t : NotT o' := by intro _ z; cases z) : St8 c ((p, o') :: m) K (upd H p o') := by
  obtain ⟨h1, h2, h3⟩ := s.mu (p, o) List.mem_cons_self
  have nd := s.nd
  simp only [List.map_cons, List.nodup_cons] at nd
  refine ⟨s.a.wrote h3 h2, fun q hq => ?_, fun q hq => (List.mem_cons.mp hq).elim (fun z => by rw [z]; exact t) fun z => s.nt q (List.mem_cons_of_mem _ z), s.nd⟩
  rcases List.mem_cons.mp hq with e | hq
  · subst e; exact ⟨upd_same, h2, h3⟩
  · obtain ⟨k1, k2, k3⟩ := s.mu q (List.mem_cons_of_mem _ hq)
    exact ⟨by rw [upd_ne (fun e => nd.1 (by rw [← e]; exact List.mem_map_of_mem hq))]; exact k1, k2, k3⟩
theorem St8.made {p : Addr} {o : HO} {H : Hp} (s : St8 c m K H) (h : H p = none) (t : NotT o := by intro _ z; cases z) : St8 c ((p, o) :: m) K (upd H p o) := by
  have off : ∀ q ∈ m, q.1 ≠ p := fun q hq => ne_of_none (s.mu q hq).1 h
  refine ⟨s.a.wrote (s.a.newH h) (s.a.kh.free h), fun q hq => ?_, fun q hq => (List.mem_cons.mp hq).elim (fun z => by rw [z]; exact t) fun z => s.nt q z, List.nodup_cons.mpr ⟨fun z => ?_, s.nd⟩⟩
  · rcases List.mem_cons.mp hq with e | hq
    · subst e; exact ⟨upd_same, s.a.kh.free h, s.a.newH h⟩
    · obtain ⟨k1, k2, k3⟩ := s.mu q hq
      exact ⟨by rw [upd_ne (off q hq)]; exact k1, k2, k3⟩
  · obtain ⟨q, hq, e⟩ := List.mem_map.mp z
    exact off q hq e
/-- from now on it does not change -/
theorem g_keep {p : Addr} {o : HO} (k : K p = none → G c P σ m (upd K p o)) : G c P σ ((p, o) :: m) K := fun H s => by
  obtain ⟨h1, h2, h3⟩ := s.mu (p, o) List.mem_cons_self
  have nd := s.nd
  simp only [List.map_cons, List.nodup_cons] at nd
  refine k h2 H ⟨s.a.keep h3 h2 h1, fun q hq => ?_, fun q hq => s.nt q (List.mem_cons_of_mem _ hq), nd.2⟩
  obtain ⟨k1, k2, k3⟩ := s.mu q (List.mem_cons_of_mem _ hq)
  exact ⟨k1, by rw [upd_ne (fun e => nd.1 (by rw [← e]; exact List.mem_map_of_mem hq))]; exact k2, k3⟩
theorem g_swap {x y : Addr × HO} (k : G c P σ (y :: x :: m) K) : G c P σ (x :: y :: m) K := fun H s =>
  k H ⟨s.a, fun q hq => s.mu q (by simp only [List.mem_cons] at hq ⊢; rcases hq with h | h | h <;> simp [h]), fun q hq => s.nt q (by simp only [List.mem_cons] at hq ⊢; rcases hq with h | h | h <;> simp [h]), by
    have := s.nd
    simp only [List.map_cons, List.nodup_cons, List.mem_cons, not_or] at this ⊢
    exact ⟨⟨fun e => this.1.1 e.symm, this.2.1⟩, this.1.2, this.2.2⟩⟩
/-- x = [..] with the new list a local thing; x = {} -/
theorem g_newL {tr : TA} {xs : List V} (h : W c.g (tr σ) K (Is xs)) (hl : xs.length ≤ 1000) (k : ∀ p, K p = none → c.H0 p = none → G c D.nx (σ.set i (some (.ref p))) ((p, .lst xs) :: m) K) : G c (tAsg (tLst tr) (gName i) D) σ m K :=
  fun H s => h K H (.refl _) s.a.here _ fun v S H' d hv => by
    cases hv
    have s' := (s.to d).weak s.a.kk d.kk
    exact ⟨Nat.le_trans hl (by decide), fun p hp => k p (s'.a.kh.free hp) (s'.a.newH hp) _ (s'.made hp)⟩
theorem g_newK (k : ∀ p, K p = none → c.H0 p = none → G c D.nx (σ.set i (some (.ref p))) ((p, .dK []) :: m) K) : G c (tAsg tDNewK (gName i) D) σ m K :=
  fun H s p hp => k p (s.a.kh.free hp) (s.a.newH hp) _ (s.made hp)
theorem g_newT (k : ∀ p, K p = none → c.H0 p = none → G c D.nx (σ.set i (some (.ref p))) ((p, .dT []) :: m) K) : G c (tAsg tDNewT (gName i) D) σ m K :=
  fun H s p hp => k p (s.a.kh.free hp) (s.a.newH hp) _ (s.made hp)
/-- p.append(e) -/
theorem g_app {p : Addr} {xs : List V} {to : TE} (ho : W c.g (to σ) K (Is (.ref p))) (h : W c.g (te σ) K R) (hz : xs.length < 10000) (k : ∀ v S, Ex K S → R v S → G c D.nx σ ((p, .lst (xs ++ [v])) :: m) S) : G c (tDrop (tBM Kf "list" rAppend to (tCons te tNil)) D) σ ((p, .lst xs) :: m) K :=
  fun H s => ho K H (.refl _) s.a.here _ fun v1 S1 H1 d1 hv1 => by
    cases hv1
    have s1 := (s.to d1).weak s.a.kk d1.kk
    refine ⟨Or.inl ⟨rfl, xs, sq_of (s1.mu _ List.mem_cons_self).1⟩, h K H1 (.refl _) s1.a.here _ fun v S H' d hv => ?_⟩
    have s2 := s1.to d
    exact ⟨p, xs, v, rfl, rfl, (s2.mu _ List.mem_cons_self).1, Nat.lt_of_lt_of_le hz (by decide), k v S d.kk hv _ s2.wrote⟩
/-! loops -/
/-- between two turns -/
def LoopN (c : Ct) (Inv : Nat → L2.St → List (Addr × HO) → Hp → Prop) (i : Nat) : L2.St → Hp → Prop := fun σ H => ∃ m K, St8 c m K H ∧ Inv i σ m K
theorem g_loop {Inv : Nat → L2.St → List (Addr × HO) → Hp → Prop} {j : Nat} (h : Inv j σ m K) : G c (LoopN c Inv j) σ m K := fun H s => ⟨m, K, s, h⟩
/-- the items that a source gives while S is known -/
def Wk (S : Hp) (J : It) (xs : List V) : Prop := Walk J xs.length (fun H => Ex S H) (YAt xs)
theorem Wk.mono {S S' : Hp} {J : It} {xs : List V} (w : Wk S J xs) (e : Ex S S') : Wk S' J xs := Walk.mono w (fun H h => e.trans h) fun _ _ _ _ _ _ y => y
theorem g_for {wi : TI} {tb : TS} {Rs : List V → Hp → Prop} (h : W c.g (wi σ) K fun J S => ∃ xs, Wk S J xs ∧ Rs xs S)
    (k : ∀ xs S, Ex K S → Rs xs S → ∃ Inv : Nat → L2.St → List (Addr × HO) → Hp → Prop, Inv 0 σ m S ∧ (∀ i σ' m' K', Inv i σ' m' K' → Ex S K') ∧
      (∀ i x σ' m' K', xs[i]? = some x → Inv i σ' m' K' → G c (fun σ H => gt x σ H (tb { D with nx := LoopN c Inv (i + 1), ct := LoopN c Inv (i + 1), bk := D.nx })) σ' m' K') ∧
      ∀ σ' m' K', Inv xs.length σ' m' K' → G c D.nx σ' m' K') : G c (tFor wi gt tb D) σ m K :=
  fun H s => h K H (.refl _) s.a.here _ fun J S H' d hJ => by
    obtain ⟨xs, w, hR⟩ := hJ
    obtain ⟨Inv, h0, hk, hs, hd⟩ := k xs S d.kk hR
    refine for_it w (LoopN c Inv) ⟨m, S, s.to d, h0⟩ (fun i σ' H' _ hP => ?_) (fun i x σ' H' H2 hi hP y => ?_) fun σ' H' hP => ?_
    · obtain ⟨m', K', s', hI⟩ := hP
      exact (hk i σ' m' K' hI).trans s'.a.kh
    · obtain ⟨m', K', s', hI⟩ := hP
      obtain ⟨e, hx⟩ := y
      subst e
      exact hs i x σ' m' K' hx hI H2 s'
    · obtain ⟨m', K', s', hI⟩ := hP
      exact hd σ' m' K' hI H' s'
end
end Cm

/-! ## R0 -/
set_option maxHeartbeats 4000000
/-! Rules that the layer lacks: an own __getitem__, an own __len__, with over an own class. -/
namespace Cm
open PySem PySem.Spec PyProof.Rows L2 Evl
section
variable {X : Cx} {k : Nat} {f C : Addr} {fd : FuncData} {ps : List Str} {sp : Sp} {pins : List (Addr × Obj)} {σ : L2.St} {H : Hp} {s : Shared} {Q : VK} {E : XK}
/-- a callee that runs under one unit more -/
theorem run_in1 {us : List Value} {vs : List V} {E' : Value → Shared → Prop} (F : FnOk X.prog X.w X.K X.mg X.base C8.CX0 k f fd ps sp) (hr : Room (k + 1) X.A) (hb : Binds X.K fd ps []) (I : Inv X pins σ H s) (r : Vals vs us) (h : sp vs H Q E) :
    wpAny (model X.prog X.w) X.A.in1 (call (.ref f) us) (EP X pins σ Q) E' s := by
  have hl : (us ++ ([] : List Value)).length = ps.length := by rw [List.append_nil, ← r.length]; exact F.len _ _ _ _ h
  refine wpAny_call (codeAny_mono (F.run X.A.in1 X.stack s H ⟨us, []⟩ us vs Q E hr.in1 I.env0.in1 (by have := hb s us I.kIn hl; rwa [List.append_nil] at this) r h) fun r s' hq => ?_)
  cases r with
  | error e => exact False.elim hq
  | ok fl =>
    cases fl with
    | ret u => exact I.after hq
    | next => exact False.elim hq
    | brk => exact False.elim hq
    | cont => exact False.elim hq
theorem inst_of {a dx : Addr} {fs : List (Str × V)} (I : Inv X pins σ H s) (e : H a = some (.ins C dx fs)) : ∃ od, PySem.W.InstAt s.heap a (PySem.W.instObj C dx) C (some od) := by
  obtain ⟨mA, O, _⟩ := ins_get I.hok e
  obtain ⟨od, J, _⟩ := O.look
  exact ⟨od, J⟩
/-- o[i], o an instance whose class has a __getitem__ -/
def tOwnIx (C : Addr) (sp : Sp) (ta tb : TE) : TE := fun σ H Q => ta σ H fun x H1 => tb σ H1 fun y H2 => ∃ a dx fs, x = .ref a ∧ H2 a = some (.ins C dx fs) ∧ sp [x, y] H2 Q C8.E0
theorem pe_ownIx {a b : Expr} {pos : Pos} {ta tb : TE} (m : C8.Met X.prog X.w X.K X.mg X.base k C "__getitem__" sp []) (hfi : ∀ f, PySem.W.findIn X.K (.ref C) "__getitem__" = some (some (.ref f)) → PySem.W.fnIn X.K f = true) {j : Nat} (hr : Room j X.A) (hk : k + 1 ≤ j) (ha : PE X a ta) (hb : PE X b tb)
    (hsl : ∀ x i, subscripted b true (.ref x) i = runValue (.builtin "lifetime.subscript" ⟨[.ref x, i], []⟩) := by intro _ _; with_unfolding_all rfl) : PE X (.Subscript a b pos) (tOwnIx C sp ta tb) := by
  obtain ⟨f, fd, ps, ds, c, me, F, hbn, hd⟩ := m.ex
  cases hd
  refine ⟨fun pins s σ H Q I h => ?_⟩
  refine Subscript_ (thn (ha.run pins s σ H _ I h) fun v s1 ⟨x, H1, I1, r1, q1⟩ => thn (hb.run pins s1 σ H1 _ I1 q1) fun u s2 ⟨y, H2, I2, r2, a, dx, fs, ex, ea, q2⟩ => ?_)
  subst ex
  cases r1
  obtain ⟨od, J⟩ := inst_of I2 ea
  obtain ⟨m, Fm⟩ := I2.fr
  exact PySem.W.sub_K Fm I2.mod.kin J me.at_ (hfi f me.at_) me.fn (run_in1 (vs := [V.ref a, y]) F (hr.mono hk) hbn I2 (.cons rfl (.cons r2 .nil)) q2) (hsl a u)
/-- len(o), o an instance whose class has a __len__ -/
def rLenOwn (C : Addr) (sp : Sp) : List V → Hp → VK → Prop := fun xs H Q => ∃ a dx fs, xs = [.ref a] ∧ H a = some (.ins C dx fs) ∧ sp [.ref a] H (fun v H' => ∃ n : Int, v = .int n ∧ 0 ≤ n ∧ n < 2 ^ 63 ∧ Q (.int n) H') C8.E0
theorem call_lenOwn (m : C8.Met X.prog X.w X.K X.mg X.base k C "__len__" sp []) {j : Nat} (hr : Room j X.A) (hk : k + 1 ≤ j) : CallR X (.builtin "len") (rLenOwn C sp) := by
  obtain ⟨f, fd, ps, ds, c, me, F, hbn, hd⟩ := m.ex
  cases hd
  intro pins s σ H xs us Q I r h
  obtain ⟨a, dx, fs, rfl, ea, q⟩ := h
  obtain ⟨u, rfl, ru⟩ := vals1 r
  cases ru
  obtain ⟨od, J⟩ := inst_of I ea
  obtain ⟨mm, Fm⟩ := I.fr
  refine PySem.W.len_K Fm I.mod.kin J me.at_ me.fn (wpAny_mono (run_in1 (E' := X.xe) (vs := [V.ref a]) F (hr.mono hk) hbn I (.cons rfl .nil) q) (fun v s' hv => ?_) fun _ _ z => z)
  obtain ⟨x, H', I', rv, n, ex, h0, h1, q'⟩ := hv
  subst ex
  obtain ⟨t, rfl⟩ := rv
  exact ⟨⟨h0, h1⟩, .int n, H', I'.tok _, ⟨_, rfl⟩, q'⟩
/-- with e: body, e an instance with own __enter__ and __exit__; nothing is raised in the body -/
def tWith0 (C : Addr) (spE spX : Sp) (te : TE) (tb : TS) : TS := fun D σ H => te σ H fun x H1 => ∃ a dx fs, x = .ref a ∧ H1 a = some (.ins C dx fs) ∧ spE [.ref a] H1 (fun _ H2 =>
  tb { nx := fun σ' H' => spX [.ref a, .non, .non, .non] H' (fun v H'' => v = .non ∧ D.nx σ' H'') C8.E0, rt := fun _ _ => False } σ H2) C8.E0
theorem ps_with0 {e : Expr} {body : List Stmt} {pos : Pos} {te : TE} {tb : TS} {k2 : Nat} {spX : Sp} (me : C8.Met X.prog X.w X.K X.mg X.base k C "__enter__" sp []) (mx : C8.Met X.prog X.w X.K X.mg X.base k2 C "__exit__" spX []) {j : Nat} (hr : Room j X.A) (hk : k ≤ j) (hk2 : k2 ≤ j)
    (he : PE X e te) (hb : PSs X.nox body tb) : PS X (.With [⟨e, none⟩] body pos) (tWith0 C sp spX te tb) := by
  obtain ⟨fe, fde, pse, dse, ce, mte, Fe, hbe, hde⟩ := me.ex
  cases hde
  obtain ⟨fx, fdx, psx, dsx, cx, mtx, Fx, hbx, hdx⟩ := mx.ex
  cases hdx
  refine ⟨fun pins s σ H D I h => ?_⟩
  refine PySem.W.kw_exec0 (thn (he.run pins s σ H _ I h) fun u s1 ⟨x, H1, I1, rx, a, dx, fs, ex, ea, q⟩ => ?_)
  subst ex
  obtain rfl : u = Value.ref a := rx
  obtain ⟨od, J⟩ := inst_of I1 ea
  obtain ⟨mm, Fm⟩ := I1.fr
  refine PySem.W.kw_in0 Fm I1.mod.kin J mte.at_ mte.fn mtx.at_ mtx.fn ?_
  have en := run_fn (vs := [V.ref a]) Fe (hr.mono hk) hbe .nil C8.pass0 I1 (.cons rfl .nil) (by rw [List.append_nil]; exact q)
  refine thn en fun v2 s2 h2 => ?_
  obtain ⟨y, H2, I2, r2, q2⟩ := h2
  refine wpAny_mono (hb.run pins s2 σ H2 _ (I2.wish _) q2) (fun fl s3 q3 => ?_) fun _ _ z => z
  cases fl with
  | next =>
    obtain ⟨σ3, H3, I3, q3⟩ := q3
    have ex := run_fn (vs := [V.ref a, V.non, V.non, V.non]) Fx (hr.mono hk2) hbx .nil C8.pass0 I3.unwish (.cons rfl (.cons rfl (.cons rfl (.cons rfl .nil)))) (by rw [List.append_nil]; exact q3)
    refine thn ex fun v4 s4 h4 => ?_
    obtain ⟨z, H4, I4, r4, z0, q4⟩ := h4
    subst z0
    exact ⟨σ3, H4, I4, q4⟩
  | ret v => obtain ⟨_, _, _, _, _, z⟩ := q3; exact z.elim
  | brk => obtain ⟨_, _, _, z⟩ := q3; exact z.elim
  | cont => obtain ⟨_, _, _, z⟩ := q3; exact z.elim
end
end Cm

/-! ## B0 -/
set_option maxHeartbeats 4000000
/-! What the top has written, and how a def keeps a promise. -/
namespace Cm
open PySem PySem.Spec PyProof.Rows L2 Evl
/-- what is known of the written part -/
structure Txt (K : PySem.W.Frag) (mg : Str → Option Value) : Prop where
  fa : ∀ f ∈ fa, He.Fa.ok K f = true
  fn : ∀ d ∈ fn, ∃ fd, FunD K d.name d.qual d.params d.body d.scope (d.dvs K) (d.kws K) (d.at_ K) fd
  ex : ∀ e ∈ exs, e K = true
  hp : ∃ h : Heap, K.In h ∧ h.Ns mainGlobals mg
section
variable {P : Program} {w : World} {K : PySem.W.Frag} {mg : Str → Option Value} {base : Heap} (T : Txt K mg)
include T
theorem Txt.glo (i : Nat) {x : Str} (h : Cm.fa[i]? = some (.glo x)) : mg x = some (.ref (He.ga K x)) := by
  obtain ⟨hp, X, G⟩ := T.hp
  exact He.glo_ok X G (T.fa _ (List.mem_of_getElem? h))
theorem Txt.free (i : Nat) {x : Str} (h : Cm.fa[i]? = some (.free x)) : mg x = none := by
  obtain ⟨hp, X, G⟩ := T.hp
  exact He.free_ok X G (T.fa _ (List.mem_of_getElem? h))
theorem Txt.gint (i : Nat) {x : Str} {n : Int} (h : Cm.fa[i]? = some (.int x n)) : ∃ u, mg x = some u ∧ RelV (.int n) u := by
  obtain ⟨hp, X, G⟩ := T.hp
  obtain ⟨t, e⟩ := He.int_ok X G (T.fa _ (List.mem_of_getElem? h))
  exact ⟨_, e, t, rfl⟩
theorem Txt.gstr (i : Nat) {x z : Str} (h : Cm.fa[i]? = some (.str x z)) : ∃ u, mg x = some u ∧ RelV (.str z) u := by
  obtain ⟨hp, X, G⟩ := T.hp
  obtain ⟨t, e⟩ := He.str_ok X G (T.fa _ (List.mem_of_getElem? h))
  exact ⟨_, e, t, rfl⟩
theorem Txt.cls (i : Nat) {x : Str} (h : Cm.fa[i]? = some (.cls x)) : Cls K (He.ga K x) := He.cls_ok (T.fa _ (List.mem_of_getElem? h))
theorem Txt.noat (i : Nat) {x f : Str} (h : Cm.fa[i]? = some (.noat x f)) : NoAttr K (He.ga K x) f := He.noat_ok (T.fa _ (List.mem_of_getElem? h))
theorem Txt.meth (i : Nat) {x m : Str} (h : Cm.fa[i]? = some (.meth x m)) : Meth K (He.ga K x) m (He.ma K (He.ga K x) m) := He.meth_ok (T.fa _ (List.mem_of_getElem? h))
theorem Txt.mkr (i : Nat) {x : Str} (h : Cm.fa[i]? = some (.mkr x)) : Mk K (He.ga K x) (He.ma K (He.ga K x) "__init__") := He.mkr_ok (T.fa _ (List.mem_of_getElem? h))
theorem Txt.exh (i : Nat) {e : PySem.W.Frag → Bool} (h : exs[i]? = some e) : e K = true := T.ex _ (List.mem_of_getElem? h)
theorem Txt.fnd (i : Nat) {d : He5.DefA} (h : Cm.fn[i]? = some d) : ∃ fd, FunD K d.name d.qual d.params d.body d.scope (d.dvs K) (d.kws K) (d.at_ K) fd := T.fn _ (List.mem_of_getElem? h)
end
/-- the frame of a def -/
abbrev cx (P : Program) (w : World) (K : PySem.W.Frag) (mg : Str → Option Value) (base : Heap) (N : List Str) (d : He5.DefA) (cdv : Value) (A : Around) (outer : List Env) (s : Shared) (H : Hp) (E : XK) : Cx :=
  (cxOf C8.CX0 P w K mg base N d.qual d.scope (d.at_ K) cdv A outer s H E).nox
/-- how the def's body is shown to keep its promise -/
abbrev Bd (P : Program) (w : World) (K : PySem.W.Frag) (mg : Str → Option Value) (base : Heap) (N : List Str) (d : He5.DefA) (k : Nat) {ι : Type} (arg : ι → List V) (pre : Bg → ι → Hp → Prop) (post : ι → Hp → V → Hp → Prop) : Prop :=
  ∀ (cdv : Value) (A : Around) (outer : List Env) (s : Shared) (H : Hp) (Q : VK) (E : XK), Room k (A.deeper (envOfC d.qual d.scope s.heap.objs.size (d.at_ K) cdv)) →
    ∃ t, PSs (cx P w K mg base N d cdv A outer s H E) d.body t ∧ ∀ (g : Bg) (K0 : Hp) (x : ι), pre g x K0 → (∀ v S H', At g K0 H S H' → post x K0 v S → Q v H') →
      G ⟨g, K0, H⟩ (t { nx := fun _ H' => Q .non H', rt := Q }) (start N (arg x)) [] K0
/-- .. with a promise of any form -/
abbrev Bs (P : Program) (w : World) (K : PySem.W.Frag) (mg : Str → Option Value) (base : Heap) (N : List Str) (d : He5.DefA) (k : Nat) (sp : Sp) : Prop :=
  ∀ (cdv : Value) (A : Around) (outer : List Env) (s : Shared) (H : Hp) (Q : VK) (E : XK), Room k (A.deeper (envOfC d.qual d.scope s.heap.objs.size (d.at_ K) cdv)) →
    ∃ t, PSs (cx P w K mg base N d cdv A outer s H E) d.body t ∧ ∀ vs, sp vs H Q E → t { nx := fun _ H' => Q .non H', rt := Q } (start N vs) H
section
variable {P : Program} {w : World} {K : PySem.W.Frag} {mg : Str → Option Value} {base : Heap} {N ps : List Str} {d : He5.DefA} {k : Nat} {ι : Type} {arg : ι → List V} {pre : Bg → ι → Hp → Prop} {post : ι → Hp → V → Hp → Prop} {sp : Sp}
theorem Bd.bs (b : Bd P w K mg base N d k arg pre post) : Bs P w K mg base N d k (Pr arg pre post) := fun cdv A outer s H Q E hr => by
  obtain ⟨t, h, q⟩ := b cdv A outer s H Q E hr
  refine ⟨t, h, fun vs ⟨g, K0, x, e, a, hp, hQ⟩ => ?_⟩
  subst e
  exact q g K0 x hp hQ H ⟨a, fun _ z => absurd z List.not_mem_nil, fun _ z => absurd z List.not_mem_nil, List.nodup_nil⟩
theorem pr_len (hl : ∀ x, (arg x).length = ps.length) : ∀ vs H Q E, Pr arg pre post vs H Q E → vs.length = ps.length := fun vs H Q E ⟨g, K0, x, e, _⟩ => by rw [e]; exact hl x
theorem fn_bs {fd : FuncData} (F : FunD K d.name d.qual d.params d.body d.scope (d.dvs K) (d.kws K) (d.at_ K) fd) (S : FnScope N ps d.scope) (len : ∀ vs H Q E, sp vs H Q E → vs.length = ps.length) (b : Bs P w K mg base N d k sp) :
    FnOk P w K mg base C8.CX0 (k + 1) (d.at_ K) fd ps sp := by
  obtain ⟨oc, od, dV, kV, doc, pm, an, cdv, ct, osl, rfl, lk, hcd, _, _⟩ := F.ex
  refine fn_of lk hcd S len fun A outer s H vs Q E hr hsp => ?_
  obtain ⟨t, h, q⟩ := b cdv A outer s H Q E hr
  exact ⟨t, h.nox, q vs hsp⟩
/-- every parameter is written; no defaults -/
abbrev BindN (d : He5.DefA) (ps : List Str) : Prop := ∀ (kV doc pm : Value) (an : Option Addr) (cdv ct : Value) (us : List Value), us.length = ps.length → bindArgs (PySem.W.fnOf d.name d.qual d.params d.body d.scope .none kV doc pm an cdv ct) ⟨us, []⟩ = pure (ps.zip us)
theorem binds_n {fd : FuncData} (F : FunD K d.name d.qual d.params d.body d.scope (d.dvs K) (d.kws K) (d.at_ K) fd) (e : d.dvs K = []) (h : BindN d ps) : Binds K fd ps [] := by
  rw [e] at F
  exact F.bindsN h
/-- a def of the module -/
theorem Txt.cal (T : Txt K mg) (i : Nat) {x : Str} (h : Cm.fn[i]? = some d) (e : d.dvs K = []) (hb : BindN d ps) (hm : mg x = some (.ref (d.at_ K))) (S : FnScope N ps d.scope) (len : ∀ vs H Q E, sp vs H Q E → vs.length = ps.length) (b : Bs P w K mg base N d k sp) :
    C8.Cal P w K mg base (k + 1) x sp [] := by
  obtain ⟨fd, F⟩ := T.fnd i h
  exact ⟨_, fd, ps, [], fn_bs F S len b, hm, F.kp, binds_n F e hb, .nil⟩
/-- a method -/
theorem Txt.met (T : Txt K mg) (i : Nat) {C : Addr} {m : Str} (h : Cm.fn[i]? = some d) (e : d.dvs K = []) (hb : BindN d ps) (hc : Cls K C) (hm : Meth K C m (d.at_ K)) (S : FnScope N ps d.scope) (len : ∀ vs H Q E, sp vs H Q E → vs.length = ps.length)
    (b : Bs P w K mg base N d k sp) : C8.Met P w K mg base (k + 1) C m sp [] := by
  obtain ⟨fd, F⟩ := T.fnd i h
  exact ⟨_, fd, ps, [], hc, hm, fn_bs F S len b, binds_n F e hb, .nil⟩
/-- an __init__ without defaults -/
theorem Txt.mak (T : Txt K mg) (i : Nat) {C : Addr} {x : Str} (h : Cm.fn[i]? = some d) (e : d.dvs K = []) (hb : BindN d ps) (hc : Mk K C (d.at_ K)) (hm : mg x = some (.ref C)) (S : FnScope N ps d.scope) (len : ∀ vs H Q E, sp vs H Q E → vs.length = ps.length)
    (b : Bs P w K mg base N d k sp) : C8.Mak P w K mg base (k + 1) x C sp [] := by
  obtain ⟨fd, F⟩ := T.fnd i h
  exact ⟨_, fd, ps, [], hc, fn_bs F S len b, hm, binds_n F e hb, .nil⟩
/-- any def: at its address -/
theorem Txt.run (T : Txt K mg) (i : Nat) (h : Cm.fn[i]? = some d) (e : d.dvs K = []) (hb : BindN d ps) (S : FnScope N ps d.scope) (len : ∀ vs H Q E, sp vs H Q E → vs.length = ps.length)
    (b : Bs P w K mg base N d k sp) : ∃ fd, FnOk P w K mg base C8.CX0 (k + 1) (d.at_ K) fd ps sp ∧ PySem.W.keepIn K (.ref (d.at_ K)) = true ∧ Binds K fd ps [] := by
  obtain ⟨fd, F⟩ := T.fnd i h
  exact ⟨fd, fn_bs F S len b, F.kp, binds_n F e hb⟩
end
theorem fnR_of {P : Program} {w : World} {K : PySem.W.Frag} {mg : Str → Option Value} {base : Heap} {CX : CXT} {k : Nat} {f : Addr} {fd : FuncData} {ps : List Str} {sp : Sp} (F : FnOk P w K mg base CX k f fd ps sp) (b : Binds K fd ps []) : FnR P w K mg base CX k f sp :=
  (F.raw b .nil).imp fun vs H Q E h => by rw [List.append_nil]; exact h
/-- a property, by its promise -/
structure Prp (P : Program) (w : World) (K : PySem.W.Frag) (mg : Str → Option Value) (base : Heap) (k : Nat) (C : Addr) (f : Str) (sp : Sp) : Prop where
  ex : ∃ (p g : Addr) (fd : FuncData) (ps : List Str), Cls K C ∧ PropOf K C f p g ∧ FnOk P w K mg base C8.CX0 k g fd ps sp ∧ Binds K fd ps []
section
variable {X : Cx} {k j : Nat} {C : Addr} {f : Str} {sp : Sp} {e : Expr} {pos : Pos} {ta : TE}
theorem pe_pr (c : Prp X.prog X.w X.K X.mg X.base k C f sp) (hr : Room j X.A) (hk : k + 1 ≤ j) (he : PE X e ta) (hab : attributeBase e f X.env (eval e X.env) = eval e X.env := by rfl) : PE X (.Attribute e f pos) (tProp C sp [] C8.E0 ta) := by
  obtain ⟨p, g, fd, ps, hc, hp, F, b⟩ := c.ex
  exact pe_prop he hc hp F (hr.mono hk) b .nil C8.pass0 hab
end
theorem propOf_of {K : PySem.W.Frag} {C : Addr} {f : Str} (h : propB K C f = true) : PropOf K C f (He.ma K C f) (He5.wf K C "property" f) := by
  unfold propB at h
  obtain ⟨h1, h⟩ := He.ba h
  obtain ⟨h2, h⟩ := He.ba h
  obtain ⟨h3, h4⟩ := He.ba h
  refine ⟨He.eqO_ok h1, He.eqO_ok h2, of_decide_eq_true h3, ?_⟩
  unfold He5.wf
  split at h4
  · rename_i f r e
    exact ⟨r, by rw [e]⟩
  · cases h4
/-! what comes behind a return -/
section
variable {c : Ct} {m : List (Addr × HO)} {K : Hp} {σ : L2.St} {D : Ends} {te : TE} {R : V → Hp → Prop} {post : V → Hp → Prop} {v : V}
theorem g_retP (h : W c.g (te σ) K R) (hQ : ∀ v S H', At c.g c.K0 c.H0 S H' → post v S → D.rt v H') (k : ∀ v S, Ex K S → R v S → post v S) : G c (tRet te D) σ m K := g_ret h fun v S H' e s r => hQ v S H' s.a (k v S e r)
theorem g_retMP (h : Ex K (ov m K) → W c.g (te σ) (ov m K) (Is v)) (hQ : ∀ v S H', At c.g c.K0 c.H0 S H' → post v S → D.rt v H') (k : post v K) : G c (tRet te D) σ m K := g_retM h fun H' s => hQ v K H' s.a k
theorem g_endP {Qv : VK} (hQ : ∀ v S H', At c.g c.K0 c.H0 S H' → post v S → Qv v H') (k : post .non K) : G c (fun _ H' => Qv .non H') σ m K := fun H s => hQ .non K H s.a k
end
end Cm

/-! ## B1 -/
set_option maxHeartbeats 4000000
/-! Per def: its names, its scope, its binding, its packaging (printed). -/
namespace Cm
open PySem PySem.Spec PyProof.Rows L2 Evl
theorem bt_isinstance : bootBuiltins "isinstance" = some (.builtin "isinstance") := by decide +kernel
theorem bt_all : bootBuiltins "all" = some (.builtin "all") := by decide +kernel
theorem bt_len : bootBuiltins "len" = some (.builtin "len") := by decide +kernel
theorem bt_max : bootBuiltins "max" = some (.builtin "max") := by decide +kernel
theorem bt_min : bootBuiltins "min" = some (.builtin "min") := by decide +kernel
theorem bt_sum : bootBuiltins "sum" = some (.builtin "sum") := by decide +kernel
theorem bt_abs : bootBuiltins "abs" = some (.builtin "abs") := by decide +kernel
theorem bt_sorted : bootBuiltins "sorted" = some (.builtin "sorted") := by decide +kernel
theorem bt_tuple : bootBuiltins "tuple" = some (.type "tuple") := by decide +kernel
theorem bt_list : bootBuiltins "list" = some (.type "list") := by decide +kernel
theorem bt_str : bootBuiltins "str" = some (.type "str") := by decide +kernel
theorem bt_int : bootBuiltins "int" = some (.type "int") := by decide +kernel
theorem bt_bool : bootBuiltins "bool" = some (.type "bool") := by decide +kernel
abbrev CTable (K : PySem.W.Frag) : Addr := He.ga K "Table"
abbrev CMeter (K : PySem.W.Frag) : Addr := He.ga K "Meter"
abbrev CRecordTrial (K : PySem.W.Frag) : Addr := He.ga K "RecordTrial"
abbrev CRecord (K : PySem.W.Frag) : Addr := He.ga K "Record"
section
variable {P : Program} {w : World} {K : PySem.W.Frag} {mg : Str → Option Value} {base : Heap} {k : Nat} {sp : Sp} (T : Txt K mg)
def N_is_whole : List Str := ["value"]
theorem sc_is_whole : FnScope N_is_whole ["value"] d_is_whole.scope := C8.fnScope_by (by decide +kernel)
theorem bn_is_whole : BindN d_is_whole ["value"] := fun _ _ _ _ _ _ us hl => match us, hl with | [_], _ => rfl
def N_is_between : List Str := ["value", "least", "most"]
theorem sc_is_between : FnScope N_is_between ["value", "least", "most"] d_is_between.scope := C8.fnScope_by (by decide +kernel)
theorem bn_is_between : BindN d_is_between ["value", "least", "most"] := fun _ _ _ _ _ _ us hl => match us, hl with | [_, _, _], _ => rfl
def N_is_speed : List Str := ["value"]
theorem sc_is_speed : FnScope N_is_speed ["value"] d_is_speed.scope := C8.fnScope_by (by decide +kernel)
theorem bn_is_speed : BindN d_is_speed ["value"] := fun _ _ _ _ _ _ us hl => match us, hl with | [_], _ => rfl
def N_is_trip : List Str := ["value", "digit"]
theorem sc_is_trip : FnScope N_is_trip ["value"] d_is_trip.scope := C8.fnScope_by (by decide +kernel)
theorem bn_is_trip : BindN d_is_trip ["value"] := fun _ _ _ _ _ _ us hl => match us, hl with | [_], _ => rfl
def N_check_trip : List Str := ["trip"]
theorem sc_check_trip : FnScope N_check_trip ["trip"] d_check_trip.scope := C8.fnScope_by (by decide +kernel)
theorem bn_check_trip : BindN d_check_trip ["trip"] := fun _ _ _ _ _ _ us hl => match us, hl with | [_], _ => rfl
def N_are_worths : List Str := ["value", "item"]
theorem sc_are_worths : FnScope N_are_worths ["value"] d_are_worths.scope := C8.fnScope_by (by decide +kernel)
theorem bn_are_worths : BindN d_are_worths ["value"] := fun _ _ _ _ _ _ us hl => match us, hl with | [_], _ => rfl
def N_check_numbers : List Str := ["time", "way", "number"]
theorem sc_check_numbers : FnScope N_check_numbers ["time", "way"] d_check_numbers.scope := C8.fnScope_by (by decide +kernel)
theorem bn_check_numbers : BindN d_check_numbers ["time", "way"] := fun _ _ _ _ _ _ us hl => match us, hl with | [_, _], _ => rfl
def N_check_number : List Str := ["value", "least", "most"]
theorem sc_check_number : FnScope N_check_number ["value", "least", "most"] d_check_number.scope := C8.fnScope_by (by decide +kernel)
theorem bn_check_number : BindN d_check_number ["value", "least", "most"] := fun _ _ _ _ _ _ us hl => match us, hl with | [_, _, _], _ => rfl
def N_check_top : List Str := ["top"]
theorem sc_check_top : FnScope N_check_top ["top"] d_check_top.scope := C8.fnScope_by (by decide +kernel)
theorem bn_check_top : BindN d_check_top ["top"] := fun _ _ _ _ _ _ us hl => match us, hl with | [_], _ => rfl
def N_are_turns : List Str := ["turns", "many", "place", "turn"]
theorem sc_are_turns : FnScope N_are_turns ["turns", "many"] d_are_turns.scope := C8.fnScope_by (by decide +kernel)
theorem bn_are_turns : BindN d_are_turns ["turns", "many"] := fun _ _ _ _ _ _ us hl => match us, hl with | [_, _], _ => rfl
def N_is_speeds : List Str := ["value", "digit"]
theorem sc_is_speeds : FnScope N_is_speeds ["value"] d_is_speeds.scope := C8.fnScope_by (by decide +kernel)
theorem bn_is_speeds : BindN d_is_speeds ["value"] := fun _ _ _ _ _ _ us hl => match us, hl with | [_], _ => rfl
def N_tell_fact : List Str := ["record", "fact", "kind", "tick", "told"]
theorem sc_tell_fact : FnScope N_tell_fact ["record", "fact"] d_tell_fact.scope := C8.fnScope_by (by decide +kernel)
theorem bn_tell_fact : BindN d_tell_fact ["record", "fact"] := fun _ _ _ _ _ _ us hl => match us, hl with | [_, _], _ => rfl
def N_record_of : List Str := ["record", "numbers", "facts", "number", "found"]
theorem sc_record_of : FnScope N_record_of ["record", "numbers"] d_record_of.scope := C8.fnScope_by (by decide +kernel)
theorem bn_record_of : BindN d_record_of ["record", "numbers"] := fun _ _ _ _ _ _ us hl => match us, hl with | [_, _], _ => rfl
def N_lists_of : List Str := ["many", "size", "found", "place", "numbers", "more"]
theorem sc_lists_of : FnScope N_lists_of ["many", "size"] d_lists_of.scope := C8.fnScope_by (by decide +kernel)
theorem bn_lists_of : BindN d_lists_of ["many", "size"] := fun _ _ _ _ _ _ us hl => match us, hl with | [_, _], _ => rfl
def N_fewest_clash : List Str := ["record", "many", "size", "numbers"]
theorem sc_fewest_clash : FnScope N_fewest_clash ["record"] d_fewest_clash.scope := C8.fnScope_by (by decide +kernel)
theorem bn_fewest_clash : BindN d_fewest_clash ["record"] := fun _ _ _ _ _ _ us hl => match us, hl with | [_], _ => rfl
def N_needless_facts : List Str := ["record", "numbers", "own", "number"]
theorem sc_needless_facts : FnScope N_needless_facts ["record"] d_needless_facts.scope := C8.fnScope_by (by decide +kernel)
theorem bn_needless_facts : BindN d_needless_facts ["record"] := fun _ _ _ _ _ _ us hl => match us, hl with | [_], _ => rfl
def N_others_of : List Str := ["numbers", "number", "other"]
theorem sc_others_of : FnScope N_others_of ["numbers", "number"] d_others_of.scope := C8.fnScope_by (by decide +kernel)
theorem bn_others_of : BindN d_others_of ["numbers", "number"] := fun _ _ _ _ _ _ us hl => match us, hl with | [_, _], _ => rfl
def N_kept_facts : List Str := ["record", "kept", "own", "number"]
theorem sc_kept_facts : FnScope N_kept_facts ["record"] d_kept_facts.scope := C8.fnScope_by (by decide +kernel)
theorem bn_kept_facts : BindN d_kept_facts ["record"] := fun _ _ _ _ _ _ us hl => match us, hl with | [_], _ => rfl
def N_is_look : List Str := ["record", "value", "last"]
theorem sc_is_look : FnScope N_is_look ["record", "value"] d_is_look.scope := C8.fnScope_by (by decide +kernel)
theorem bn_is_look : BindN d_is_look ["record", "value"] := fun _ _ _ _ _ _ us hl => match us, hl with | [_, _], _ => rfl
def N_numbers_of : List Str := ["record", "look", "sides", "kind", "tick", "ahead", "behind", "found", "place", "digit", "goal", "seen", "ends"]
theorem sc_numbers_of : FnScope N_numbers_of ["record", "look", "sides"] d_numbers_of.scope := C8.fnScope_by (by decide +kernel)
theorem bn_numbers_of : BindN d_numbers_of ["record", "look", "sides"] := fun _ _ _ _ _ _ us hl => match us, hl with | [_, _, _], _ => rfl
def N_look_numbers : List Str := ["record", "look"]
theorem sc_look_numbers : FnScope N_look_numbers ["record", "look"] d_look_numbers.scope := C8.fnScope_by (by decide +kernel)
theorem bn_look_numbers : BindN d_look_numbers ["record", "look"] := fun _ _ _ _ _ _ us hl => match us, hl with | [_, _], _ => rfl
def N_best_look : List Str := ["record", "looks", "kind", "sides", "best", "look", "worst", "tick"]
theorem sc_best_look : FnScope N_best_look ["record"] d_best_look.scope := C8.fnScope_by (by decide +kernel)
theorem bn_best_look : BindN d_best_look ["record"] := fun _ _ _ _ _ _ us hl => match us, hl with | [_], _ => rfl
def N_law_bag : List Str := ["_law_script"]
theorem sc_law_bag : FnScope N_law_bag ["_law_script"] d_law_bag.scope := C8.fnScope_by (by decide +kernel)
theorem bn_law_bag : BindN d_law_bag ["_law_script"] := fun _ _ _ _ _ _ us hl => match us, hl with | [_], _ => rfl
def N_law_draw : List Str := ["_law_bag_here", "_law_size", "_law_digit", "_law_mixed_here", "_law_cell"]
theorem sc_law_draw : FnScope N_law_draw ["_law_bag_here", "_law_size"] d_law_draw.scope := C8.fnScope_by (by decide +kernel)
theorem bn_law_draw : BindN d_law_draw ["_law_bag_here", "_law_size"] := fun _ _ _ _ _ _ us hl => match us, hl with | [_, _], _ => rfl
def N_law_pick : List Str := ["_law_bag_here", "_law_items"]
theorem sc_law_pick : FnScope N_law_pick ["_law_bag_here", "_law_items"] d_law_pick.scope := C8.fnScope_by (by decide +kernel)
theorem bn_law_pick : BindN d_law_pick ["_law_bag_here", "_law_items"] := fun _ _ _ _ _ _ us hl => match us, hl with | [_, _], _ => rfl
def N_law_mixed : List Str := ["_law_bag_here", "_law_items", "_law_left", "_law_found", "_law_k"]
theorem sc_law_mixed : FnScope N_law_mixed ["_law_bag_here", "_law_items"] d_law_mixed.scope := C8.fnScope_by (by decide +kernel)
theorem bn_law_mixed : BindN d_law_mixed ["_law_bag_here", "_law_items"] := fun _ _ _ _ _ _ us hl => match us, hl with | [_, _], _ => rfl
def N_law_jumps_at : List Str := ["_law_plain", "_law_count"]
theorem sc_law_jumps_at : FnScope N_law_jumps_at ["_law_plain", "_law_count"] d_law_jumps_at.scope := C8.fnScope_by (by decide +kernel)
theorem bn_law_jumps_at : BindN d_law_jumps_at ["_law_plain", "_law_count"] := fun _ _ _ _ _ _ us hl => match us, hl with | [_, _], _ => rfl
def N_law_worth : List Str := ["_law_plain", "_law_jumps", "_law_speed", "_law_turn"]
theorem sc_law_worth : FnScope N_law_worth ["_law_plain", "_law_jumps", "_law_speed"] d_law_worth.scope := C8.fnScope_by (by decide +kernel)
theorem bn_law_worth : BindN d_law_worth ["_law_plain", "_law_jumps", "_law_speed"] := fun _ _ _ _ _ _ us hl => match us, hl with | [_, _, _], _ => rfl
def N_law_counts : List Str := ["_law_plain", "_law_trip", "_law_found", "_law_digit"]
theorem sc_law_counts : FnScope N_law_counts ["_law_plain", "_law_trip"] d_law_counts.scope := C8.fnScope_by (by decide +kernel)
theorem bn_law_counts : BindN d_law_counts ["_law_plain", "_law_trip"] := fun _ _ _ _ _ _ us hl => match us, hl with | [_, _], _ => rfl
def N_law_small_worths : List Str := ["_law_bag_here", "_law_most", "_law_time", "_law_way", "_law_choice", "_law_change", "_law_speed"]
theorem sc_law_small_worths : FnScope N_law_small_worths ["_law_bag_here", "_law_most"] d_law_small_worths.scope := C8.fnScope_by (by decide +kernel)
theorem bn_law_small_worths : BindN d_law_small_worths ["_law_bag_here", "_law_most"] := fun _ _ _ _ _ _ us hl => match us, hl with | [_, _], _ => rfl
def N_law_meter : List Str := ["_law_bag_here", "_law_drops", "_law_turns", "_law_tables", "_law_floor_price", "_law_jump_price", "_law_first", "_law_k"]
theorem sc_law_meter : FnScope N_law_meter ["_law_bag_here", "_law_drops"] d_law_meter.scope := C8.fnScope_by (by decide +kernel)
theorem bn_law_meter : BindN d_law_meter ["_law_bag_here", "_law_drops"] := fun _ _ _ _ _ _ us hl => match us, hl with | [_, _], _ => rfl
def N_law_made_table : List Str := ["_law_worths", "_law_place", "_law_choice", "_law_way", "_law_speed", "_law_worth_here"]
theorem sc_law_made_table : FnScope N_law_made_table ["_law_worths", "_law_place"] d_law_made_table.scope := C8.fnScope_by (by decide +kernel)
theorem bn_law_made_table : BindN d_law_made_table ["_law_worths", "_law_place"] := fun _ _ _ _ _ _ us hl => match us, hl with | [_, _], _ => rfl
def N_law_made : List Str := ["_law_plain", "_law_tables", "_law_turns", "_law_place"]
theorem sc_law_made : FnScope N_law_made ["_law_plain"] d_law_made.scope := C8.fnScope_by (by decide +kernel)
theorem bn_law_made : BindN d_law_made ["_law_plain"] := fun _ _ _ _ _ _ us hl => match us, hl with | [_], _ => rfl
def N_law_digits : List Str := ["_law_bag_here", "_law_digits_here", "_law_digit"]
theorem sc_law_digits : FnScope N_law_digits ["_law_bag_here"] d_law_digits.scope := C8.fnScope_by (by decide +kernel)
theorem bn_law_digits : BindN d_law_digits ["_law_bag_here"] := fun _ _ _ _ _ _ us hl => match us, hl with | [_], _ => rfl
def N_law_base_trip : List Str := ["_law_bag_here", "_law_ticks", "_law_top", "_law_tick"]
theorem sc_law_base_trip : FnScope N_law_base_trip ["_law_bag_here", "_law_ticks", "_law_top"] d_law_base_trip.scope := C8.fnScope_by (by decide +kernel)
theorem bn_law_base_trip : BindN d_law_base_trip ["_law_bag_here", "_law_ticks", "_law_top"] := fun _ _ _ _ _ _ us hl => match us, hl with | [_, _, _], _ => rfl
def N_law_true_fact : List Str := ["_law_bag_here", "_law_plain", "_law_trip", "_law_ticks", "_law_counts_here", "_law_choice", "_law_mark", "_law_tick", "_law_digits_here", "_law_digit"]
theorem sc_law_true_fact : FnScope N_law_true_fact ["_law_bag_here", "_law_plain", "_law_trip"] d_law_true_fact.scope := C8.fnScope_by (by decide +kernel)
theorem bn_law_true_fact : BindN d_law_true_fact ["_law_bag_here", "_law_plain", "_law_trip"] := fun _ _ _ _ _ _ us hl => match us, hl with | [_, _, _], _ => rfl
def N_law_tell : List Str := ["_law_record", "_law_fact", "_law_kind", "_law_tick", "_law_told"]
theorem sc_law_tell : FnScope N_law_tell ["_law_record", "_law_fact"] d_law_tell.scope := C8.fnScope_by (by decide +kernel)
theorem bn_law_tell : BindN d_law_tell ["_law_record", "_law_fact"] := fun _ _ _ _ _ _ us hl => match us, hl with | [_, _], _ => rfl
def N_law_look_fact : List Str := ["_law_look", "_law_seen", "_law_kind", "_law_tick"]
theorem sc_law_look_fact : FnScope N_law_look_fact ["_law_look", "_law_seen"] d_law_look_fact.scope := C8.fnScope_by (by decide +kernel)
theorem bn_law_look_fact : BindN d_law_look_fact ["_law_look", "_law_seen"] := fun _ _ _ _ _ _ us hl => match us, hl with | [_, _], _ => rfl
def N_law_number_behind : List Str := ["_law_record", "_law_fact"]
theorem sc_law_number_behind : FnScope N_law_number_behind ["_law_record", "_law_fact"] d_law_number_behind.scope := C8.fnScope_by (by decide +kernel)
theorem bn_law_number_behind : BindN d_law_number_behind ["_law_record", "_law_fact"] := fun _ _ _ _ _ _ us hl => match us, hl with | [_, _], _ => rfl
def N_law_some_looks_right : List Str := ["_law_bag_here", "_law_record", "_law_ticks", "_law_every", "_law_best", "_law_turn", "_law_look", "_law_asked", "_law_numbers", "_law_seen", "_law_other"]
theorem sc_law_some_looks_right : FnScope N_law_some_looks_right ["_law_bag_here", "_law_record", "_law_ticks"] d_law_some_looks_right.scope := C8.fnScope_by (by decide +kernel)
theorem bn_law_some_looks_right : BindN d_law_some_looks_right ["_law_bag_here", "_law_record", "_law_ticks"] := fun _ _ _ _ _ _ us hl => match us, hl with | [_, _, _], _ => rfl
def N_law_looks_right : List Str := ["_law_bag_here", "_law_record", "_law_ticks", "_law_many", "_law_every", "_law_best", "_law_looks", "_law_look", "_law_numbers", "_law_seen", "_law_tick"]
theorem sc_law_looks_right : FnScope N_law_looks_right ["_law_bag_here", "_law_record", "_law_ticks", "_law_many"] d_law_looks_right.scope := C8.fnScope_by (by decide +kernel)
theorem bn_law_looks_right : BindN d_law_looks_right ["_law_bag_here", "_law_record", "_law_ticks", "_law_many"] := fun _ _ _ _ _ _ us hl => match us, hl with | [_, _, _, _], _ => rfl
def N_law_kept_right : List Str := ["_law_record", "_law_kept", "_law_own", "_law_number", "_law_others", "_law_other"]
theorem sc_law_kept_right : FnScope N_law_kept_right ["_law_record"] d_law_kept_right.scope := C8.fnScope_by (by decide +kernel)
theorem bn_law_kept_right : BindN d_law_kept_right ["_law_record"] := fun _ _ _ _ _ _ us hl => match us, hl with | [_], _ => rfl
def N_law_clash_right : List Str := ["_law_record", "_law_ticks", "_law_way", "_law_found", "_law_number", "_law_other"]
theorem sc_law_clash_right : FnScope N_law_clash_right ["_law_record", "_law_ticks", "_law_way"] d_law_clash_right.scope := C8.fnScope_by (by decide +kernel)
theorem bn_law_clash_right : BindN d_law_clash_right ["_law_record", "_law_ticks", "_law_way"] := fun _ _ _ _ _ _ us hl => match us, hl with | [_, _, _], _ => rfl
def N_law : List Str := ["_law_script", "_law_bag_here", "_law_plain", "_law_top", "_law_many", "_law_trip", "_law_ticks", "_law_record", "_law_number", "_law_tick", "_law_turn", "_law_way", "_law_digit"]
theorem sc_law : FnScope N_law ["_law_script"] d_law.scope := C8.fnScope_by (by decide +kernel)
theorem bn_law : BindN d_law ["_law_script"] := fun _ _ _ _ _ _ us hl => match us, hl with | [_], _ => rfl
def N_number_in : List Str := ["word", "most", "sign"]
theorem sc_number_in : FnScope N_number_in ["word", "most"] d_number_in.scope := C8.fnScope_by (by decide +kernel)
theorem bn_number_in : BindN d_number_in ["word", "most"] := fun _ _ _ _ _ _ us hl => match us, hl with | [_, _], _ => rfl
def N_Table_init : List Str := ["self", "worths"]
theorem sc_Table_init : FnScope N_Table_init ["self", "worths"] d_Table_init.scope := C8.fnScope_by (by decide +kernel)
theorem bn_Table_init : BindN d_Table_init ["self", "worths"] := fun _ _ _ _ _ _ us hl => match us, hl with | [_, _], _ => rfl
def N_Table_either : List Str := ["cls", "time", "way", "speed"]
theorem sc_Table_either : FnScope N_Table_either ["cls", "time", "way"] d_Table_either.scope := C8.fnScope_by (by decide +kernel)
theorem bn_Table_either : BindN d_Table_either ["cls", "time", "way"] := fun _ _ _ _ _ _ us hl => match us, hl with | [_, _, _], _ => rfl
def N_Table_both : List Str := ["cls", "time", "way", "speed"]
theorem sc_Table_both : FnScope N_Table_both ["cls", "time", "way"] d_Table_both.scope := C8.fnScope_by (by decide +kernel)
theorem bn_Table_both : BindN d_Table_both ["cls", "time", "way"] := fun _ _ _ _ _ _ us hl => match us, hl with | [_, _, _], _ => rfl
def N_Table_changing : List Str := ["cls", "time", "way", "speed", "own"]
theorem sc_Table_changing : FnScope N_Table_changing ["cls", "time", "way", "speed"] d_Table_changing.scope := C8.fnScope_by (by decide +kernel)
theorem bn_Table_changing : BindN d_Table_changing ["cls", "time", "way", "speed"] := fun _ _ _ _ _ _ us hl => match us, hl with | [_, _, _, _], _ => rfl
def N_Table_read : List Str := ["cls", "text", "words", "worths", "word", "worth"]
theorem sc_Table_read : FnScope N_Table_read ["cls", "text"] d_Table_read.scope := C8.fnScope_by (by decide +kernel)
theorem bn_Table_read : BindN d_Table_read ["cls", "text"] := fun _ _ _ _ _ _ us hl => match us, hl with | [_, _], _ => rfl
def N_Table_getitem : List Str := ["self", "speed"]
theorem sc_Table_getitem : FnScope N_Table_getitem ["self", "speed"] d_Table_getitem.scope := C8.fnScope_by (by decide +kernel)
theorem bn_Table_getitem : BindN d_Table_getitem ["self", "speed"] := fun _ _ _ _ _ _ us hl => match us, hl with | [_, _], _ => rfl
def N_Meter_init : List Str := ["self", "first", "drop", "tables", "turns", "flag", "each", "line", "stand", "table", "speed", "goal", "many"]
theorem sc_Meter_init : FnScope N_Meter_init ["self", "first", "drop", "tables", "turns", "flag", "each"] d_Meter_init.scope := C8.fnScope_by (by decide +kernel)
def N_Meter_drop : List Str := ["self"]
theorem sc_Meter_drop : FnScope N_Meter_drop ["self"] d_Meter_drop.scope := C8.fnScope_by (by decide +kernel)
theorem bn_Meter_drop : BindN d_Meter_drop ["self"] := fun _ _ _ _ _ _ us hl => match us, hl with | [_], _ => rfl
def N_Meter_flag : List Str := ["self"]
theorem sc_Meter_flag : FnScope N_Meter_flag ["self"] d_Meter_flag.scope := C8.fnScope_by (by decide +kernel)
theorem bn_Meter_flag : BindN d_Meter_flag ["self"] := fun _ _ _ _ _ _ us hl => match us, hl with | [_], _ => rfl
def N_Meter_each : List Str := ["self"]
theorem sc_Meter_each : FnScope N_Meter_each ["self"] d_Meter_each.scope := C8.fnScope_by (by decide +kernel)
theorem bn_Meter_each : BindN d_Meter_each ["self"] := fun _ _ _ _ _ _ us hl => match us, hl with | [_], _ => rfl
def N_Meter_start : List Str := ["self"]
theorem sc_Meter_start : FnScope N_Meter_start ["self"] d_Meter_start.scope := C8.fnScope_by (by decide +kernel)
theorem bn_Meter_start : BindN d_Meter_start ["self"] := fun _ _ _ _ _ _ us hl => match us, hl with | [_], _ => rfl
def N_Meter_table_at : List Str := ["self", "jumps", "turn"]
theorem sc_Meter_table_at : FnScope N_Meter_table_at ["self", "jumps"] d_Meter_table_at.scope := C8.fnScope_by (by decide +kernel)
theorem bn_Meter_table_at : BindN d_Meter_table_at ["self", "jumps"] := fun _ _ _ _ _ _ us hl => match us, hl with | [_, _], _ => rfl
def N_Meter_jumps_at : List Str := ["self", "count", "first", "drop"]
theorem sc_Meter_jumps_at : FnScope N_Meter_jumps_at ["self", "count"] d_Meter_jumps_at.scope := C8.fnScope_by (by decide +kernel)
theorem bn_Meter_jumps_at : BindN d_Meter_jumps_at ["self", "count"] := fun _ _ _ _ _ _ us hl => match us, hl with | [_, _], _ => rfl
def N_Meter_count_on : List Str := ["self", "count", "speed"]
theorem sc_Meter_count_on : FnScope N_Meter_count_on ["self", "count", "speed"] d_Meter_count_on.scope := C8.fnScope_by (by decide +kernel)
theorem bn_Meter_count_on : BindN d_Meter_count_on ["self", "count", "speed"] := fun _ _ _ _ _ _ us hl => match us, hl with | [_, _, _], _ => rfl
def N_Meter_price_at : List Str := ["self", "count"]
theorem sc_Meter_price_at : FnScope N_Meter_price_at ["self", "count"] d_Meter_price_at.scope := C8.fnScope_by (by decide +kernel)
theorem bn_Meter_price_at : BindN d_Meter_price_at ["self", "count"] := fun _ _ _ _ _ _ us hl => match us, hl with | [_, _], _ => rfl
def N_Meter_last_turn : List Str := ["self"]
theorem sc_Meter_last_turn : FnScope N_Meter_last_turn ["self"] d_Meter_last_turn.scope := C8.fnScope_by (by decide +kernel)
theorem bn_Meter_last_turn : BindN d_Meter_last_turn ["self"] := fun _ _ _ _ _ _ us hl => match us, hl with | [_], _ => rfl
def N_Meter_step_from : List Str := ["self", "stand", "speed", "stage", "left", "worth", "beyond", "many"]
theorem sc_Meter_step_from : FnScope N_Meter_step_from ["self", "stand", "speed"] d_Meter_step_from.scope := C8.fnScope_by (by decide +kernel)
theorem bn_Meter_step_from : BindN d_Meter_step_from ["self", "stand", "speed"] := fun _ _ _ _ _ _ us hl => match us, hl with | [_, _, _], _ => rfl
def N_RecordTrial_init : List Str := ["self", "record"]
theorem sc_RecordTrial_init : FnScope N_RecordTrial_init ["self", "record"] d_RecordTrial_init.scope := C8.fnScope_by (by decide +kernel)
theorem bn_RecordTrial_init : BindN d_RecordTrial_init ["self", "record"] := fun _ _ _ _ _ _ us hl => match us, hl with | [_, _], _ => rfl
def N_RecordTrial_enter : List Str := ["self"]
theorem sc_RecordTrial_enter : FnScope N_RecordTrial_enter ["self"] d_RecordTrial_enter.scope := C8.fnScope_by (by decide +kernel)
theorem bn_RecordTrial_enter : BindN d_RecordTrial_enter ["self"] := fun _ _ _ _ _ _ us hl => match us, hl with | [_], _ => rfl
def N_RecordTrial_exit : List Str := ["self", "kind", "value", "trace"]
theorem sc_RecordTrial_exit : FnScope N_RecordTrial_exit ["self", "kind", "value", "trace"] d_RecordTrial_exit.scope := C8.fnScope_by (by decide +kernel)
theorem bn_RecordTrial_exit : BindN d_RecordTrial_exit ["self", "kind", "value", "trace"] := fun _ _ _ _ _ _ us hl => match us, hl with | [_, _, _, _], _ => rfl
def N_Record_init : List Str := ["self", "meter", "ticks", "top"]
theorem sc_Record_init : FnScope N_Record_init ["self", "meter", "ticks", "top"] d_Record_init.scope := C8.fnScope_by (by decide +kernel)
def N_Record_len : List Str := ["self"]
theorem sc_Record_len : FnScope N_Record_len ["self"] d_Record_len.scope := C8.fnScope_by (by decide +kernel)
theorem bn_Record_len : BindN d_Record_len ["self"] := fun _ _ _ _ _ _ us hl => match us, hl with | [_], _ => rfl
def N_Record_meter : List Str := ["self"]
theorem sc_Record_meter : FnScope N_Record_meter ["self"] d_Record_meter.scope := C8.fnScope_by (by decide +kernel)
theorem bn_Record_meter : BindN d_Record_meter ["self"] := fun _ _ _ _ _ _ us hl => match us, hl with | [_], _ => rfl
def N_Record_top : List Str := ["self"]
theorem sc_Record_top : FnScope N_Record_top ["self"] d_Record_top.scope := C8.fnScope_by (by decide +kernel)
theorem bn_Record_top : BindN d_Record_top ["self"] := fun _ _ _ _ _ _ us hl => match us, hl with | [_], _ => rfl
def N_Record_check_tick : List Str := ["self", "tick", "last"]
theorem sc_Record_check_tick : FnScope N_Record_check_tick ["self", "tick", "last"] d_Record_check_tick.scope := C8.fnScope_by (by decide +kernel)
theorem bn_Record_check_tick : BindN d_Record_check_tick ["self", "tick", "last"] := fun _ _ _ _ _ _ us hl => match us, hl with | [_, _, _], _ => rfl
def N_Record_take_in : List Str := ["self", "fact"]
theorem sc_Record_take_in : FnScope N_Record_take_in ["self", "fact"] d_Record_take_in.scope := C8.fnScope_by (by decide +kernel)
theorem bn_Record_take_in : BindN d_Record_take_in ["self", "fact"] := fun _ _ _ _ _ _ us hl => match us, hl with | [_, _], _ => rfl
def N_Record_getitem : List Str := ["self", "tick", "left", "kind", "at", "told", "digit"]
theorem sc_Record_getitem : FnScope N_Record_getitem ["self", "tick"] d_Record_getitem.scope := C8.fnScope_by (by decide +kernel)
theorem bn_Record_getitem : BindN d_Record_getitem ["self", "tick"] := fun _ _ _ _ _ _ us hl => match us, hl with | [_, _], _ => rfl
def N_Record_only : List Str := ["self", "tick", "speeds"]
theorem sc_Record_only : FnScope N_Record_only ["self", "tick", "speeds"] d_Record_only.scope := C8.fnScope_by (by decide +kernel)
theorem bn_Record_only : BindN d_Record_only ["self", "tick", "speeds"] := fun _ _ _ _ _ _ us hl => match us, hl with | [_, _, _], _ => rfl
def N_Record_passed : List Str := ["self", "tick", "way"]
theorem sc_Record_passed : FnScope N_Record_passed ["self", "tick", "way"] d_Record_passed.scope := C8.fnScope_by (by decide +kernel)
theorem bn_Record_passed : BindN d_Record_passed ["self", "tick", "way"] := fun _ _ _ _ _ _ us hl => match us, hl with | [_, _, _], _ => rfl
def N_Record_showed : List Str := ["self", "tick", "price"]
theorem sc_Record_showed : FnScope N_Record_showed ["self", "tick", "price"] d_Record_showed.scope := C8.fnScope_by (by decide +kernel)
theorem bn_Record_showed : BindN d_Record_showed ["self", "tick", "price"] := fun _ _ _ _ _ _ us hl => match us, hl with | [_, _, _], _ => rfl
def N_Record_jumped : List Str := ["self", "tick", "told"]
theorem sc_Record_jumped : FnScope N_Record_jumped ["self", "tick", "told"] d_Record_jumped.scope := C8.fnScope_by (by decide +kernel)
theorem bn_Record_jumped : BindN d_Record_jumped ["self", "tick", "told"] := fun _ _ _ _ _ _ us hl => match us, hl with | [_, _, _], _ => rfl
def N_Record_facts : List Str := ["self"]
theorem sc_Record_facts : FnScope N_Record_facts ["self"] d_Record_facts.scope := C8.fnScope_by (by decide +kernel)
theorem bn_Record_facts : BindN d_Record_facts ["self"] := fun _ _ _ _ _ _ us hl => match us, hl with | [_], _ => rfl
def N_Record_agrees_at : List Str := ["self", "mark", "place", "kind", "at", "told"]
theorem sc_Record_agrees_at : FnScope N_Record_agrees_at ["self", "mark", "place"] d_Record_agrees_at.scope := C8.fnScope_by (by decide +kernel)
theorem bn_Record_agrees_at : BindN d_Record_agrees_at ["self", "mark", "place"] := fun _ _ _ _ _ _ us hl => match us, hl with | [_, _, _], _ => rfl
def N_Record_agrees_in : List Str := ["self", "tick", "count", "goal", "jumps", "told", "fact", "tell"]
theorem sc_Record_agrees_in : FnScope N_Record_agrees_in ["self", "tick", "count", "goal"] d_Record_agrees_in.scope := C8.fnScope_by (by decide +kernel)
theorem bn_Record_agrees_in : BindN d_Record_agrees_in ["self", "tick", "count", "goal"] := fun _ _ _ _ _ _ us hl => match us, hl with | [_, _, _, _], _ => rfl
def N_Record_steps_from : List Str := ["self", "tick", "place", "found", "digit", "goal"]
theorem sc_Record_steps_from : FnScope N_Record_steps_from ["self", "tick", "place"] d_Record_steps_from.scope := C8.fnScope_by (by decide +kernel)
theorem bn_Record_steps_from : BindN d_Record_steps_from ["self", "tick", "place"] := fun _ _ _ _ _ _ us hl => match us, hl with | [_, _, _], _ => rfl
def N_Record_begins : List Str := ["self"]
theorem sc_Record_begins : FnScope N_Record_begins ["self"] d_Record_begins.scope := C8.fnScope_by (by decide +kernel)
theorem bn_Record_begins : BindN d_Record_begins ["self"] := fun _ _ _ _ _ _ us hl => match us, hl with | [_], _ => rfl
def N_Record_numbers_ahead : List Str := ["self", "found", "tick", "now", "place", "digit", "goal"]
theorem sc_Record_numbers_ahead : FnScope N_Record_numbers_ahead ["self"] d_Record_numbers_ahead.scope := C8.fnScope_by (by decide +kernel)
theorem bn_Record_numbers_ahead : BindN d_Record_numbers_ahead ["self"] := fun _ _ _ _ _ _ us hl => match us, hl with | [_], _ => rfl
def N_Record_numbers_behind : List Str := ["self", "ahead", "found", "tick", "now", "place", "number", "digit", "goal"]
theorem sc_Record_numbers_behind : FnScope N_Record_numbers_behind ["self"] d_Record_numbers_behind.scope := C8.fnScope_by (by decide +kernel)
theorem bn_Record_numbers_behind : BindN d_Record_numbers_behind ["self"] := fun _ _ _ _ _ _ us hl => match us, hl with | [_], _ => rfl
def N_Record_fits : List Str := ["self", "trip", "places", "tick", "place", "digit", "goal"]
theorem sc_Record_fits : FnScope N_Record_fits ["self", "trip"] d_Record_fits.scope := C8.fnScope_by (by decide +kernel)
theorem bn_Record_fits : BindN d_Record_fits ["self", "trip"] := fun _ _ _ _ _ _ us hl => match us, hl with | [_, _], _ => rfl
def N_Record_how_many : List Str := ["self"]
theorem sc_Record_how_many : FnScope N_Record_how_many ["self"] d_Record_how_many.scope := C8.fnScope_by (by decide +kernel)
theorem bn_Record_how_many : BindN d_Record_how_many ["self"] := fun _ _ _ _ _ _ us hl => match us, hl with | [_], _ => rfl
def N_Record_trial : List Str := ["self"]
theorem sc_Record_trial : FnScope N_Record_trial ["self"] d_Record_trial.scope := C8.fnScope_by (by decide +kernel)
theorem bn_Record_trial : BindN d_Record_trial ["self"] := fun _ _ _ _ _ _ us hl => match us, hl with | [_], _ => rfl
def N_Record_tried : List Str := ["self", "deed", "result"]
theorem sc_Record_tried : FnScope N_Record_tried ["self", "deed"] d_Record_tried.scope := C8.fnScope_by (by decide +kernel)
theorem bn_Record_tried : BindN d_Record_tried ["self", "deed"] := fun _ _ _ _ _ _ us hl => match us, hl with | [_, _], _ => rfl
include T in
theorem mk_is_whole (len : ∀ vs H Q E, sp vs H Q E → vs.length = 1) (b : Bs P w K mg base N_is_whole d_is_whole k sp) : C8.Cal P w K mg base (k + 1) "is_whole" sp [] := T.cal 0 rfl rfl bn_is_whole (T.glo 0 rfl) sc_is_whole len b
include T in
theorem mk_is_between (len : ∀ vs H Q E, sp vs H Q E → vs.length = 3) (b : Bs P w K mg base N_is_between d_is_between k sp) : C8.Cal P w K mg base (k + 1) "is_between" sp [] := T.cal 1 rfl rfl bn_is_between (T.glo 1 rfl) sc_is_between len b
include T in
theorem mk_is_speed (len : ∀ vs H Q E, sp vs H Q E → vs.length = 1) (b : Bs P w K mg base N_is_speed d_is_speed k sp) : C8.Cal P w K mg base (k + 1) "is_speed" sp [] := T.cal 2 rfl rfl bn_is_speed (T.glo 2 rfl) sc_is_speed len b
include T in
theorem mk_is_trip (len : ∀ vs H Q E, sp vs H Q E → vs.length = 1) (b : Bs P w K mg base N_is_trip d_is_trip k sp) : C8.Cal P w K mg base (k + 1) "is_trip" sp [] := T.cal 3 rfl rfl bn_is_trip (T.glo 3 rfl) sc_is_trip len b
include T in
theorem mk_check_trip (len : ∀ vs H Q E, sp vs H Q E → vs.length = 1) (b : Bs P w K mg base N_check_trip d_check_trip k sp) : C8.Cal P w K mg base (k + 1) "check_trip" sp [] := T.cal 4 rfl rfl bn_check_trip (T.glo 4 rfl) sc_check_trip len b
include T in
theorem mk_are_worths (len : ∀ vs H Q E, sp vs H Q E → vs.length = 1) (b : Bs P w K mg base N_are_worths d_are_worths k sp) : C8.Cal P w K mg base (k + 1) "are_worths" sp [] := T.cal 5 rfl rfl bn_are_worths (T.glo 5 rfl) sc_are_worths len b
include T in
theorem mk_check_numbers (len : ∀ vs H Q E, sp vs H Q E → vs.length = 2) (b : Bs P w K mg base N_check_numbers d_check_numbers k sp) : C8.Cal P w K mg base (k + 1) "check_numbers" sp [] := T.cal 6 rfl rfl bn_check_numbers (T.glo 6 rfl) sc_check_numbers len b
include T in
theorem mk_check_number (len : ∀ vs H Q E, sp vs H Q E → vs.length = 3) (b : Bs P w K mg base N_check_number d_check_number k sp) : C8.Cal P w K mg base (k + 1) "check_number" sp [] := T.cal 7 rfl rfl bn_check_number (T.glo 7 rfl) sc_check_number len b
include T in
theorem mk_check_top (len : ∀ vs H Q E, sp vs H Q E → vs.length = 1) (b : Bs P w K mg base N_check_top d_check_top k sp) : C8.Cal P w K mg base (k + 1) "check_top" sp [] := T.cal 8 rfl rfl bn_check_top (T.glo 8 rfl) sc_check_top len b
include T in
theorem mk_are_turns (len : ∀ vs H Q E, sp vs H Q E → vs.length = 2) (b : Bs P w K mg base N_are_turns d_are_turns k sp) : C8.Cal P w K mg base (k + 1) "are_turns" sp [] := T.cal 9 rfl rfl bn_are_turns (T.glo 9 rfl) sc_are_turns len b
include T in
theorem mk_is_speeds (len : ∀ vs H Q E, sp vs H Q E → vs.length = 1) (b : Bs P w K mg base N_is_speeds d_is_speeds k sp) : C8.Cal P w K mg base (k + 1) "is_speeds" sp [] := T.cal 10 rfl rfl bn_is_speeds (T.glo 10 rfl) sc_is_speeds len b
include T in
theorem mk_tell_fact (len : ∀ vs H Q E, sp vs H Q E → vs.length = 2) (b : Bs P w K mg base N_tell_fact d_tell_fact k sp) : C8.Cal P w K mg base (k + 1) "tell_fact" sp [] := T.cal 11 rfl rfl bn_tell_fact (T.glo 11 rfl) sc_tell_fact len b
include T in
theorem mk_record_of (len : ∀ vs H Q E, sp vs H Q E → vs.length = 2) (b : Bs P w K mg base N_record_of d_record_of k sp) : C8.Cal P w K mg base (k + 1) "record_of" sp [] := T.cal 12 rfl rfl bn_record_of (T.glo 12 rfl) sc_record_of len b
include T in
theorem mk_lists_of (len : ∀ vs H Q E, sp vs H Q E → vs.length = 2) (b : Bs P w K mg base N_lists_of d_lists_of k sp) : C8.Cal P w K mg base (k + 1) "lists_of" sp [] := T.cal 13 rfl rfl bn_lists_of (T.glo 13 rfl) sc_lists_of len b
include T in
theorem mk_fewest_clash (len : ∀ vs H Q E, sp vs H Q E → vs.length = 1) (b : Bs P w K mg base N_fewest_clash d_fewest_clash k sp) : C8.Cal P w K mg base (k + 1) "fewest_clash" sp [] := T.cal 14 rfl rfl bn_fewest_clash (T.glo 14 rfl) sc_fewest_clash len b
include T in
theorem mk_needless_facts (len : ∀ vs H Q E, sp vs H Q E → vs.length = 1) (b : Bs P w K mg base N_needless_facts d_needless_facts k sp) : C8.Cal P w K mg base (k + 1) "needless_facts" sp [] := T.cal 15 rfl rfl bn_needless_facts (T.glo 15 rfl) sc_needless_facts len b
include T in
theorem mk_others_of (len : ∀ vs H Q E, sp vs H Q E → vs.length = 2) (b : Bs P w K mg base N_others_of d_others_of k sp) : C8.Cal P w K mg base (k + 1) "others_of" sp [] := T.cal 16 rfl rfl bn_others_of (T.glo 16 rfl) sc_others_of len b
include T in
theorem mk_kept_facts (len : ∀ vs H Q E, sp vs H Q E → vs.length = 1) (b : Bs P w K mg base N_kept_facts d_kept_facts k sp) : C8.Cal P w K mg base (k + 1) "kept_facts" sp [] := T.cal 17 rfl rfl bn_kept_facts (T.glo 17 rfl) sc_kept_facts len b
include T in
theorem mk_is_look (len : ∀ vs H Q E, sp vs H Q E → vs.length = 2) (b : Bs P w K mg base N_is_look d_is_look k sp) : C8.Cal P w K mg base (k + 1) "is_look" sp [] := T.cal 18 rfl rfl bn_is_look (T.glo 18 rfl) sc_is_look len b
include T in
theorem mk_numbers_of (len : ∀ vs H Q E, sp vs H Q E → vs.length = 3) (b : Bs P w K mg base N_numbers_of d_numbers_of k sp) : C8.Cal P w K mg base (k + 1) "numbers_of" sp [] := T.cal 19 rfl rfl bn_numbers_of (T.glo 19 rfl) sc_numbers_of len b
include T in
theorem mk_look_numbers (len : ∀ vs H Q E, sp vs H Q E → vs.length = 2) (b : Bs P w K mg base N_look_numbers d_look_numbers k sp) : C8.Cal P w K mg base (k + 1) "look_numbers" sp [] := T.cal 20 rfl rfl bn_look_numbers (T.glo 20 rfl) sc_look_numbers len b
include T in
theorem mk_best_look (len : ∀ vs H Q E, sp vs H Q E → vs.length = 1) (b : Bs P w K mg base N_best_look d_best_look k sp) : C8.Cal P w K mg base (k + 1) "best_look" sp [] := T.cal 21 rfl rfl bn_best_look (T.glo 21 rfl) sc_best_look len b
include T in
theorem mk_law_bag (len : ∀ vs H Q E, sp vs H Q E → vs.length = 1) (b : Bs P w K mg base N_law_bag d_law_bag k sp) : C8.Cal P w K mg base (k + 1) "_law_bag" sp [] := T.cal 22 rfl rfl bn_law_bag (T.glo 22 rfl) sc_law_bag len b
include T in
theorem mk_law_draw (len : ∀ vs H Q E, sp vs H Q E → vs.length = 2) (b : Bs P w K mg base N_law_draw d_law_draw k sp) : C8.Cal P w K mg base (k + 1) "_law_draw" sp [] := T.cal 23 rfl rfl bn_law_draw (T.glo 23 rfl) sc_law_draw len b
include T in
theorem mk_law_pick (len : ∀ vs H Q E, sp vs H Q E → vs.length = 2) (b : Bs P w K mg base N_law_pick d_law_pick k sp) : C8.Cal P w K mg base (k + 1) "_law_pick" sp [] := T.cal 24 rfl rfl bn_law_pick (T.glo 24 rfl) sc_law_pick len b
include T in
theorem mk_law_mixed (len : ∀ vs H Q E, sp vs H Q E → vs.length = 2) (b : Bs P w K mg base N_law_mixed d_law_mixed k sp) : C8.Cal P w K mg base (k + 1) "_law_mixed" sp [] := T.cal 25 rfl rfl bn_law_mixed (T.glo 25 rfl) sc_law_mixed len b
include T in
theorem mk_law_jumps_at (len : ∀ vs H Q E, sp vs H Q E → vs.length = 2) (b : Bs P w K mg base N_law_jumps_at d_law_jumps_at k sp) : C8.Cal P w K mg base (k + 1) "_law_jumps_at" sp [] := T.cal 26 rfl rfl bn_law_jumps_at (T.glo 26 rfl) sc_law_jumps_at len b
include T in
theorem mk_law_worth (len : ∀ vs H Q E, sp vs H Q E → vs.length = 3) (b : Bs P w K mg base N_law_worth d_law_worth k sp) : C8.Cal P w K mg base (k + 1) "_law_worth" sp [] := T.cal 27 rfl rfl bn_law_worth (T.glo 27 rfl) sc_law_worth len b
include T in
theorem mk_law_counts (len : ∀ vs H Q E, sp vs H Q E → vs.length = 2) (b : Bs P w K mg base N_law_counts d_law_counts k sp) : C8.Cal P w K mg base (k + 1) "_law_counts" sp [] := T.cal 28 rfl rfl bn_law_counts (T.glo 28 rfl) sc_law_counts len b
include T in
theorem mk_law_small_worths (len : ∀ vs H Q E, sp vs H Q E → vs.length = 2) (b : Bs P w K mg base N_law_small_worths d_law_small_worths k sp) : C8.Cal P w K mg base (k + 1) "_law_small_worths" sp [] := T.cal 29 rfl rfl bn_law_small_worths (T.glo 29 rfl) sc_law_small_worths len b
include T in
theorem mk_law_meter (len : ∀ vs H Q E, sp vs H Q E → vs.length = 2) (b : Bs P w K mg base N_law_meter d_law_meter k sp) : C8.Cal P w K mg base (k + 1) "_law_meter" sp [] := T.cal 30 rfl rfl bn_law_meter (T.glo 30 rfl) sc_law_meter len b
include T in
theorem mk_law_made_table (len : ∀ vs H Q E, sp vs H Q E → vs.length = 2) (b : Bs P w K mg base N_law_made_table d_law_made_table k sp) : C8.Cal P w K mg base (k + 1) "_law_made_table" sp [] := T.cal 31 rfl rfl bn_law_made_table (T.glo 31 rfl) sc_law_made_table len b
include T in
theorem mk_law_made (len : ∀ vs H Q E, sp vs H Q E → vs.length = 1) (b : Bs P w K mg base N_law_made d_law_made k sp) : C8.Cal P w K mg base (k + 1) "_law_made" sp [] := T.cal 32 rfl rfl bn_law_made (T.glo 32 rfl) sc_law_made len b
include T in
theorem mk_law_digits (len : ∀ vs H Q E, sp vs H Q E → vs.length = 1) (b : Bs P w K mg base N_law_digits d_law_digits k sp) : C8.Cal P w K mg base (k + 1) "_law_digits" sp [] := T.cal 33 rfl rfl bn_law_digits (T.glo 33 rfl) sc_law_digits len b
include T in
theorem mk_law_base_trip (len : ∀ vs H Q E, sp vs H Q E → vs.length = 3) (b : Bs P w K mg base N_law_base_trip d_law_base_trip k sp) : C8.Cal P w K mg base (k + 1) "_law_base_trip" sp [] := T.cal 34 rfl rfl bn_law_base_trip (T.glo 34 rfl) sc_law_base_trip len b
include T in
theorem mk_law_true_fact (len : ∀ vs H Q E, sp vs H Q E → vs.length = 3) (b : Bs P w K mg base N_law_true_fact d_law_true_fact k sp) : C8.Cal P w K mg base (k + 1) "_law_true_fact" sp [] := T.cal 35 rfl rfl bn_law_true_fact (T.glo 35 rfl) sc_law_true_fact len b
include T in
theorem mk_law_tell (len : ∀ vs H Q E, sp vs H Q E → vs.length = 2) (b : Bs P w K mg base N_law_tell d_law_tell k sp) : C8.Cal P w K mg base (k + 1) "_law_tell" sp [] := T.cal 36 rfl rfl bn_law_tell (T.glo 36 rfl) sc_law_tell len b
include T in
theorem mk_law_look_fact (len : ∀ vs H Q E, sp vs H Q E → vs.length = 2) (b : Bs P w K mg base N_law_look_fact d_law_look_fact k sp) : C8.Cal P w K mg base (k + 1) "_law_look_fact" sp [] := T.cal 37 rfl rfl bn_law_look_fact (T.glo 37 rfl) sc_law_look_fact len b
include T in
theorem mk_law_number_behind (len : ∀ vs H Q E, sp vs H Q E → vs.length = 2) (b : Bs P w K mg base N_law_number_behind d_law_number_behind k sp) : C8.Cal P w K mg base (k + 1) "_law_number_behind" sp [] := T.cal 38 rfl rfl bn_law_number_behind (T.glo 38 rfl) sc_law_number_behind len b
include T in
theorem mk_law_some_looks_right (len : ∀ vs H Q E, sp vs H Q E → vs.length = 3) (b : Bs P w K mg base N_law_some_looks_right d_law_some_looks_right k sp) : C8.Cal P w K mg base (k + 1) "_law_some_looks_right" sp [] := T.cal 39 rfl rfl bn_law_some_looks_right (T.glo 39 rfl) sc_law_some_looks_right len b
include T in
theorem mk_law_looks_right (len : ∀ vs H Q E, sp vs H Q E → vs.length = 4) (b : Bs P w K mg base N_law_looks_right d_law_looks_right k sp) : C8.Cal P w K mg base (k + 1) "_law_looks_right" sp [] := T.cal 40 rfl rfl bn_law_looks_right (T.glo 40 rfl) sc_law_looks_right len b
include T in
theorem mk_law_kept_right (len : ∀ vs H Q E, sp vs H Q E → vs.length = 1) (b : Bs P w K mg base N_law_kept_right d_law_kept_right k sp) : C8.Cal P w K mg base (k + 1) "_law_kept_right" sp [] := T.cal 41 rfl rfl bn_law_kept_right (T.glo 41 rfl) sc_law_kept_right len b
include T in
theorem mk_law_clash_right (len : ∀ vs H Q E, sp vs H Q E → vs.length = 3) (b : Bs P w K mg base N_law_clash_right d_law_clash_right k sp) : C8.Cal P w K mg base (k + 1) "_law_clash_right" sp [] := T.cal 42 rfl rfl bn_law_clash_right (T.glo 42 rfl) sc_law_clash_right len b
include T in
theorem mk_law (len : ∀ vs H Q E, sp vs H Q E → vs.length = 1) (b : Bs P w K mg base N_law d_law k sp) : C8.Cal P w K mg base (k + 1) "law" sp [] := T.cal 43 rfl rfl bn_law (T.glo 43 rfl) sc_law len b
include T in
theorem mk_number_in (len : ∀ vs H Q E, sp vs H Q E → vs.length = 2) (b : Bs P w K mg base N_number_in d_number_in k sp) : C8.Cal P w K mg base (k + 1) "number_in_trips" sp [] := T.cal 44 rfl rfl bn_number_in (T.glo 44 rfl) sc_number_in len b
include T in
theorem mk_Table_init (len : ∀ vs H Q E, sp vs H Q E → vs.length = 2) (b : Bs P w K mg base N_Table_init d_Table_init k sp) : C8.Mak P w K mg base (k + 1) "Table" (He.ga K "Table") sp [] := T.mak 45 rfl rfl bn_Table_init (T.mkr 121 rfl) (T.glo 45 rfl) sc_Table_init len b
include T in
theorem cm_Table_either : ClX.CMet K (He.ga K "Table") (.type "type") "either" (He.ma K (He.ga K "Table") "either") (He5.wf K (He.ga K "Table") "classmethod" "either") := by
  obtain ⟨h1, h2⟩ := He.ba (T.exh (e := ex6) 6 rfl)
  exact He5.cmet_of h1 h2
include T in
theorem mk_Table_either (len : ∀ vs H Q E, sp vs H Q E → vs.length = 3) (b : Bs P w K mg base N_Table_either d_Table_either k sp) : FnR P w K mg base C8.CX0 (k + 1) (d_Table_either.at_ K) sp := by
  obtain ⟨fd, F, _, B⟩ := T.run 46 rfl rfl bn_Table_either sc_Table_either len b
  exact fnR_of F B
include T in
theorem cm_Table_both : ClX.CMet K (He.ga K "Table") (.type "type") "both" (He.ma K (He.ga K "Table") "both") (He5.wf K (He.ga K "Table") "classmethod" "both") := by
  obtain ⟨h1, h2⟩ := He.ba (T.exh (e := ex7) 7 rfl)
  exact He5.cmet_of h1 h2
include T in
theorem mk_Table_both (len : ∀ vs H Q E, sp vs H Q E → vs.length = 3) (b : Bs P w K mg base N_Table_both d_Table_both k sp) : FnR P w K mg base C8.CX0 (k + 1) (d_Table_both.at_ K) sp := by
  obtain ⟨fd, F, _, B⟩ := T.run 47 rfl rfl bn_Table_both sc_Table_both len b
  exact fnR_of F B
include T in
theorem cm_Table_changing : ClX.CMet K (He.ga K "Table") (.type "type") "changing" (He.ma K (He.ga K "Table") "changing") (He5.wf K (He.ga K "Table") "classmethod" "changing") := by
  obtain ⟨h1, h2⟩ := He.ba (T.exh (e := ex8) 8 rfl)
  exact He5.cmet_of h1 h2
include T in
theorem mk_Table_changing (len : ∀ vs H Q E, sp vs H Q E → vs.length = 4) (b : Bs P w K mg base N_Table_changing d_Table_changing k sp) : FnR P w K mg base C8.CX0 (k + 1) (d_Table_changing.at_ K) sp := by
  obtain ⟨fd, F, _, B⟩ := T.run 48 rfl rfl bn_Table_changing sc_Table_changing len b
  exact fnR_of F B
include T in
theorem cm_Table_read : ClX.CMet K (He.ga K "Table") (.type "type") "read" (He.ma K (He.ga K "Table") "read") (He5.wf K (He.ga K "Table") "classmethod" "read") := by
  obtain ⟨h1, h2⟩ := He.ba (T.exh (e := ex9) 9 rfl)
  exact He5.cmet_of h1 h2
include T in
theorem mk_Table_read (len : ∀ vs H Q E, sp vs H Q E → vs.length = 2) (b : Bs P w K mg base N_Table_read d_Table_read k sp) : FnR P w K mg base C8.CX0 (k + 1) (d_Table_read.at_ K) sp := by
  obtain ⟨fd, F, _, B⟩ := T.run 49 rfl rfl bn_Table_read sc_Table_read len b
  exact fnR_of F B
include T in
theorem mk_Table_getitem (len : ∀ vs H Q E, sp vs H Q E → vs.length = 2) (b : Bs P w K mg base N_Table_getitem d_Table_getitem k sp) : C8.Met P w K mg base (k + 1) (He.ga K "Table") "__getitem__" sp [] := T.met 50 rfl rfl bn_Table_getitem (T.cls 74 rfl) (T.meth 90 rfl) sc_Table_getitem len b
include T in
theorem mk_Meter_drop (len : ∀ vs H Q E, sp vs H Q E → vs.length = 1) (b : Bs P w K mg base N_Meter_drop d_Meter_drop k sp) : Prp P w K mg base (k + 1) (He.ga K "Meter") "drop" sp := by
  obtain ⟨fd, F, _, B⟩ := T.run 52 rfl rfl bn_Meter_drop sc_Meter_drop len b
  exact ⟨_, _, fd, _, T.cls 75 rfl, propOf_of (T.exh (e := ex0) 0 rfl), F, B⟩
include T in
theorem mk_Meter_flag (len : ∀ vs H Q E, sp vs H Q E → vs.length = 1) (b : Bs P w K mg base N_Meter_flag d_Meter_flag k sp) : Prp P w K mg base (k + 1) (He.ga K "Meter") "flag" sp := by
  obtain ⟨fd, F, _, B⟩ := T.run 53 rfl rfl bn_Meter_flag sc_Meter_flag len b
  exact ⟨_, _, fd, _, T.cls 75 rfl, propOf_of (T.exh (e := ex1) 1 rfl), F, B⟩
include T in
theorem mk_Meter_each (len : ∀ vs H Q E, sp vs H Q E → vs.length = 1) (b : Bs P w K mg base N_Meter_each d_Meter_each k sp) : Prp P w K mg base (k + 1) (He.ga K "Meter") "each" sp := by
  obtain ⟨fd, F, _, B⟩ := T.run 54 rfl rfl bn_Meter_each sc_Meter_each len b
  exact ⟨_, _, fd, _, T.cls 75 rfl, propOf_of (T.exh (e := ex2) 2 rfl), F, B⟩
include T in
theorem mk_Meter_start (len : ∀ vs H Q E, sp vs H Q E → vs.length = 1) (b : Bs P w K mg base N_Meter_start d_Meter_start k sp) : Prp P w K mg base (k + 1) (He.ga K "Meter") "start" sp := by
  obtain ⟨fd, F, _, B⟩ := T.run 55 rfl rfl bn_Meter_start sc_Meter_start len b
  exact ⟨_, _, fd, _, T.cls 75 rfl, propOf_of (T.exh (e := ex3) 3 rfl), F, B⟩
include T in
theorem mk_Meter_table_at (len : ∀ vs H Q E, sp vs H Q E → vs.length = 2) (b : Bs P w K mg base N_Meter_table_at d_Meter_table_at k sp) : C8.Met P w K mg base (k + 1) (He.ga K "Meter") "table_at" sp [] := T.met 56 rfl rfl bn_Meter_table_at (T.cls 75 rfl) (T.meth 92 rfl) sc_Meter_table_at len b
include T in
theorem mk_Meter_jumps_at (len : ∀ vs H Q E, sp vs H Q E → vs.length = 2) (b : Bs P w K mg base N_Meter_jumps_at d_Meter_jumps_at k sp) : C8.Met P w K mg base (k + 1) (He.ga K "Meter") "jumps_at" sp [] := T.met 57 rfl rfl bn_Meter_jumps_at (T.cls 75 rfl) (T.meth 93 rfl) sc_Meter_jumps_at len b
include T in
theorem mk_Meter_count_on (len : ∀ vs H Q E, sp vs H Q E → vs.length = 3) (b : Bs P w K mg base N_Meter_count_on d_Meter_count_on k sp) : C8.Met P w K mg base (k + 1) (He.ga K "Meter") "count_on" sp [] := T.met 58 rfl rfl bn_Meter_count_on (T.cls 75 rfl) (T.meth 94 rfl) sc_Meter_count_on len b
include T in
theorem mk_Meter_price_at (len : ∀ vs H Q E, sp vs H Q E → vs.length = 2) (b : Bs P w K mg base N_Meter_price_at d_Meter_price_at k sp) : C8.Met P w K mg base (k + 1) (He.ga K "Meter") "price_at" sp [] := T.met 59 rfl rfl bn_Meter_price_at (T.cls 75 rfl) (T.meth 95 rfl) sc_Meter_price_at len b
include T in
theorem mk_Meter_last_turn (len : ∀ vs H Q E, sp vs H Q E → vs.length = 1) (b : Bs P w K mg base N_Meter_last_turn d_Meter_last_turn k sp) : C8.Met P w K mg base (k + 1) (He.ga K "Meter") "last_turn" sp [] := T.met 60 rfl rfl bn_Meter_last_turn (T.cls 75 rfl) (T.meth 96 rfl) sc_Meter_last_turn len b
include T in
theorem mk_Meter_step_from (len : ∀ vs H Q E, sp vs H Q E → vs.length = 3) (b : Bs P w K mg base N_Meter_step_from d_Meter_step_from k sp) : C8.Met P w K mg base (k + 1) (He.ga K "Meter") "step_from" sp [] := T.met 61 rfl rfl bn_Meter_step_from (T.cls 75 rfl) (T.meth 97 rfl) sc_Meter_step_from len b
include T in
theorem mk_RecordTrial_init (len : ∀ vs H Q E, sp vs H Q E → vs.length = 2) (b : Bs P w K mg base N_RecordTrial_init d_RecordTrial_init k sp) : C8.Mak P w K mg base (k + 1) "RecordTrial" (He.ga K "RecordTrial") sp [] := T.mak 62 rfl rfl bn_RecordTrial_init (T.mkr 123 rfl) (T.glo 47 rfl) sc_RecordTrial_init len b
include T in
theorem mk_RecordTrial_enter (len : ∀ vs H Q E, sp vs H Q E → vs.length = 1) (b : Bs P w K mg base N_RecordTrial_enter d_RecordTrial_enter k sp) : C8.Met P w K mg base (k + 1) (He.ga K "RecordTrial") "__enter__" sp [] := T.met 63 rfl rfl bn_RecordTrial_enter (T.cls 76 rfl) (T.meth 99 rfl) sc_RecordTrial_enter len b
include T in
theorem mk_RecordTrial_exit (len : ∀ vs H Q E, sp vs H Q E → vs.length = 4) (b : Bs P w K mg base N_RecordTrial_exit d_RecordTrial_exit k sp) : C8.Met P w K mg base (k + 1) (He.ga K "RecordTrial") "__exit__" sp [] := T.met 64 rfl rfl bn_RecordTrial_exit (T.cls 76 rfl) (T.meth 100 rfl) sc_RecordTrial_exit len b
include T in
theorem mk_Record_len (len : ∀ vs H Q E, sp vs H Q E → vs.length = 1) (b : Bs P w K mg base N_Record_len d_Record_len k sp) : C8.Met P w K mg base (k + 1) (He.ga K "Record") "__len__" sp [] := T.met 66 rfl rfl bn_Record_len (T.cls 77 rfl) (T.meth 102 rfl) sc_Record_len len b
include T in
theorem mk_Record_meter (len : ∀ vs H Q E, sp vs H Q E → vs.length = 1) (b : Bs P w K mg base N_Record_meter d_Record_meter k sp) : Prp P w K mg base (k + 1) (He.ga K "Record") "meter" sp := by
  obtain ⟨fd, F, _, B⟩ := T.run 67 rfl rfl bn_Record_meter sc_Record_meter len b
  exact ⟨_, _, fd, _, T.cls 77 rfl, propOf_of (T.exh (e := ex4) 4 rfl), F, B⟩
include T in
theorem mk_Record_top (len : ∀ vs H Q E, sp vs H Q E → vs.length = 1) (b : Bs P w K mg base N_Record_top d_Record_top k sp) : Prp P w K mg base (k + 1) (He.ga K "Record") "top" sp := by
  obtain ⟨fd, F, _, B⟩ := T.run 68 rfl rfl bn_Record_top sc_Record_top len b
  exact ⟨_, _, fd, _, T.cls 77 rfl, propOf_of (T.exh (e := ex5) 5 rfl), F, B⟩
include T in
theorem mk_Record_check_tick (len : ∀ vs H Q E, sp vs H Q E → vs.length = 3) (b : Bs P w K mg base N_Record_check_tick d_Record_check_tick k sp) : C8.Met P w K mg base (k + 1) (He.ga K "Record") "check_tick" sp [] := T.met 69 rfl rfl bn_Record_check_tick (T.cls 77 rfl) (T.meth 103 rfl) sc_Record_check_tick len b
include T in
theorem mk_Record_take_in (len : ∀ vs H Q E, sp vs H Q E → vs.length = 2) (b : Bs P w K mg base N_Record_take_in d_Record_take_in k sp) : C8.Met P w K mg base (k + 1) (He.ga K "Record") "take_in" sp [] := T.met 70 rfl rfl bn_Record_take_in (T.cls 77 rfl) (T.meth 104 rfl) sc_Record_take_in len b
include T in
theorem mk_Record_getitem (len : ∀ vs H Q E, sp vs H Q E → vs.length = 2) (b : Bs P w K mg base N_Record_getitem d_Record_getitem k sp) : C8.Met P w K mg base (k + 1) (He.ga K "Record") "__getitem__" sp [] := T.met 71 rfl rfl bn_Record_getitem (T.cls 77 rfl) (T.meth 105 rfl) sc_Record_getitem len b
include T in
theorem mk_Record_only (len : ∀ vs H Q E, sp vs H Q E → vs.length = 3) (b : Bs P w K mg base N_Record_only d_Record_only k sp) : C8.Met P w K mg base (k + 1) (He.ga K "Record") "only" sp [] := T.met 72 rfl rfl bn_Record_only (T.cls 77 rfl) (T.meth 106 rfl) sc_Record_only len b
include T in
theorem mk_Record_passed (len : ∀ vs H Q E, sp vs H Q E → vs.length = 3) (b : Bs P w K mg base N_Record_passed d_Record_passed k sp) : C8.Met P w K mg base (k + 1) (He.ga K "Record") "passed" sp [] := T.met 73 rfl rfl bn_Record_passed (T.cls 77 rfl) (T.meth 107 rfl) sc_Record_passed len b
include T in
theorem mk_Record_showed (len : ∀ vs H Q E, sp vs H Q E → vs.length = 3) (b : Bs P w K mg base N_Record_showed d_Record_showed k sp) : C8.Met P w K mg base (k + 1) (He.ga K "Record") "showed" sp [] := T.met 74 rfl rfl bn_Record_showed (T.cls 77 rfl) (T.meth 108 rfl) sc_Record_showed len b
include T in
theorem mk_Record_jumped (len : ∀ vs H Q E, sp vs H Q E → vs.length = 3) (b : Bs P w K mg base N_Record_jumped d_Record_jumped k sp) : C8.Met P w K mg base (k + 1) (He.ga K "Record") "jumped" sp [] := T.met 75 rfl rfl bn_Record_jumped (T.cls 77 rfl) (T.meth 109 rfl) sc_Record_jumped len b
include T in
theorem mk_Record_facts (len : ∀ vs H Q E, sp vs H Q E → vs.length = 1) (b : Bs P w K mg base N_Record_facts d_Record_facts k sp) : C8.Met P w K mg base (k + 1) (He.ga K "Record") "facts" sp [] := T.met 76 rfl rfl bn_Record_facts (T.cls 77 rfl) (T.meth 110 rfl) sc_Record_facts len b
include T in
theorem mk_Record_agrees_at (len : ∀ vs H Q E, sp vs H Q E → vs.length = 3) (b : Bs P w K mg base N_Record_agrees_at d_Record_agrees_at k sp) : C8.Met P w K mg base (k + 1) (He.ga K "Record") "agrees_at" sp [] := T.met 77 rfl rfl bn_Record_agrees_at (T.cls 77 rfl) (T.meth 111 rfl) sc_Record_agrees_at len b
include T in
theorem mk_Record_agrees_in (len : ∀ vs H Q E, sp vs H Q E → vs.length = 4) (b : Bs P w K mg base N_Record_agrees_in d_Record_agrees_in k sp) : C8.Met P w K mg base (k + 1) (He.ga K "Record") "agrees_in" sp [] := T.met 78 rfl rfl bn_Record_agrees_in (T.cls 77 rfl) (T.meth 112 rfl) sc_Record_agrees_in len b
include T in
theorem mk_Record_steps_from (len : ∀ vs H Q E, sp vs H Q E → vs.length = 3) (b : Bs P w K mg base N_Record_steps_from d_Record_steps_from k sp) : C8.Met P w K mg base (k + 1) (He.ga K "Record") "steps_from" sp [] := T.met 79 rfl rfl bn_Record_steps_from (T.cls 77 rfl) (T.meth 113 rfl) sc_Record_steps_from len b
include T in
theorem mk_Record_begins (len : ∀ vs H Q E, sp vs H Q E → vs.length = 1) (b : Bs P w K mg base N_Record_begins d_Record_begins k sp) : C8.Met P w K mg base (k + 1) (He.ga K "Record") "begins" sp [] := T.met 80 rfl rfl bn_Record_begins (T.cls 77 rfl) (T.meth 114 rfl) sc_Record_begins len b
include T in
theorem mk_Record_numbers_ahead (len : ∀ vs H Q E, sp vs H Q E → vs.length = 1) (b : Bs P w K mg base N_Record_numbers_ahead d_Record_numbers_ahead k sp) : C8.Met P w K mg base (k + 1) (He.ga K "Record") "numbers_ahead" sp [] := T.met 81 rfl rfl bn_Record_numbers_ahead (T.cls 77 rfl) (T.meth 115 rfl) sc_Record_numbers_ahead len b
include T in
theorem mk_Record_numbers_behind (len : ∀ vs H Q E, sp vs H Q E → vs.length = 1) (b : Bs P w K mg base N_Record_numbers_behind d_Record_numbers_behind k sp) : C8.Met P w K mg base (k + 1) (He.ga K "Record") "numbers_behind" sp [] := T.met 82 rfl rfl bn_Record_numbers_behind (T.cls 77 rfl) (T.meth 116 rfl) sc_Record_numbers_behind len b
include T in
theorem mk_Record_fits (len : ∀ vs H Q E, sp vs H Q E → vs.length = 2) (b : Bs P w K mg base N_Record_fits d_Record_fits k sp) : C8.Met P w K mg base (k + 1) (He.ga K "Record") "fits" sp [] := T.met 83 rfl rfl bn_Record_fits (T.cls 77 rfl) (T.meth 117 rfl) sc_Record_fits len b
include T in
theorem mk_Record_how_many (len : ∀ vs H Q E, sp vs H Q E → vs.length = 1) (b : Bs P w K mg base N_Record_how_many d_Record_how_many k sp) : C8.Met P w K mg base (k + 1) (He.ga K "Record") "how_many" sp [] := T.met 84 rfl rfl bn_Record_how_many (T.cls 77 rfl) (T.meth 118 rfl) sc_Record_how_many len b
include T in
theorem mk_Record_trial (len : ∀ vs H Q E, sp vs H Q E → vs.length = 1) (b : Bs P w K mg base N_Record_trial d_Record_trial k sp) : C8.Met P w K mg base (k + 1) (He.ga K "Record") "trial" sp [] := T.met 85 rfl rfl bn_Record_trial (T.cls 77 rfl) (T.meth 119 rfl) sc_Record_trial len b
include T in
theorem mk_Record_tried (len : ∀ vs H Q E, sp vs H Q E → vs.length = 2) (b : Bs P w K mg base N_Record_tried d_Record_tried k sp) : C8.Met P w K mg base (k + 1) (He.ga K "Record") "tried" sp [] := T.met 86 rfl rfl bn_Record_tried (T.cls 77 rfl) (T.meth 120 rfl) sc_Record_tried len b
include T in
theorem cr_Table : ClX.CRead K (He.ga K "Table") (.type "type") := by
  obtain ⟨h1, h2⟩ := He.ba (T.exh (e := ex10) 10 rfl)
  exact ⟨h1, He.eqO_ok h2⟩
include T in
theorem ix_Table : ∀ f, PySem.W.findIn K (.ref (He.ga K "Table")) "__getitem__" = some (some (.ref f)) → PySem.W.fnIn K f = true := fun f h => by
  have h2 := (T.meth 90 (x := "Table") (m := "__getitem__") rfl).at_
  rw [h] at h2
  cases h2
  exact T.exh (e := ex11) 11 rfl
include T in
theorem ix_Record : ∀ f, PySem.W.findIn K (.ref (He.ga K "Record")) "__getitem__" = some (some (.ref f)) → PySem.W.fnIn K f = true := fun f h => by
  have h2 := (T.meth 105 (x := "Record") (m := "__getitem__") rfl).at_
  rw [h] at h2
  cases h2
  exact T.exh (e := ex12) 12 rfl
include T in
theorem insC_Table : C8.InsC K (He.ga K "Table") := by
  obtain ⟨h1, h⟩ := He.ba (T.exh (e := ex13) 13 rfl)
  obtain ⟨h2, h⟩ := He.ba h
  obtain ⟨h3, h⟩ := He.ba h
  obtain ⟨h4, h5⟩ := He.ba h
  exact ⟨T.cls 74 rfl, He.eqO_ok h1, He.eqO_ok h2, of_decide_eq_true h3, of_decide_eq_true h4, of_decide_eq_true h5⟩
include T in
theorem na_Table_row : NoAttr K (He.ga K "Table") "row" := T.noat 78 rfl
include T in
theorem cl_Table : Cls K (He.ga K "Table") := T.cls 74 rfl
include T in
theorem na_Meter_own_numbers : NoAttr K (He.ga K "Meter") "own_numbers" := T.noat 79 rfl
include T in
theorem na_Meter_own_tables : NoAttr K (He.ga K "Meter") "own_tables" := T.noat 80 rfl
include T in
theorem na_Meter_own_turns : NoAttr K (He.ga K "Meter") "own_turns" := T.noat 81 rfl
include T in
theorem na_Meter_own_steps : NoAttr K (He.ga K "Meter") "own_steps" := T.noat 82 rfl
include T in
theorem cl_Meter : Cls K (He.ga K "Meter") := T.cls 75 rfl
include T in
theorem na_RecordTrial_owner : NoAttr K (He.ga K "RecordTrial") "owner" := T.noat 87 rfl
include T in
theorem na_RecordTrial_kept_facts : NoAttr K (He.ga K "RecordTrial") "kept_facts" := T.noat 88 rfl
include T in
theorem cl_RecordTrial : Cls K (He.ga K "RecordTrial") := T.cls 76 rfl
include T in
theorem na_Record_own_meter : NoAttr K (He.ga K "Record") "own_meter" := T.noat 83 rfl
include T in
theorem na_Record_own_ticks : NoAttr K (He.ga K "Record") "own_ticks" := T.noat 84 rfl
include T in
theorem na_Record_own_top : NoAttr K (He.ga K "Record") "own_top" := T.noat 85 rfl
include T in
theorem na_Record_own_facts : NoAttr K (He.ga K "Record") "own_facts" := T.noat 86 rfl
include T in
theorem cl_Record : Cls K (He.ga K "Record") := T.cls 77 rfl
end
end Cm

/-! ## R1 -/
set_option maxHeartbeats 4000000
/-! Rules that the layer lacks: a walk over a list or a tuple, list and sorted of texts and dicts, a tuple backwards, a dict comprehension with tuple keys, cls(..), Meter(..). -/
namespace Cm
open PySem PySem.Spec PyProof.Rows L2 Evl
section
variable {X : Cx} {tg e : Expr} {te : TE}
/-! ### for x in s, a list or a tuple -/
def iSeq (K : PySem.W.Frag) (tl : TE) : TI := fun σ H R => tl σ H fun x H1 => ∃ a, x = .ref a ∧ (((∃ xs, SqL K H1 a xs) ∧ R (Itl K a) H1) ∨ ((∃ xs, SqT K H1 a xs) ∧ R (Itt K a) H1))
theorem pi_seq (hl : PE X e te) : PI X tg e (iSeq X.K te) := by
  refine ⟨fun pins s σ H R I h => ?_⟩
  refine thn (hl.run pins s σ H _ I h) fun v z ⟨x, H1, J, rx, a, ex, q⟩ => ?_
  subst ex
  cases rx
  have new : ∀ b ∈ [z.heap.objs.size], FpOk X pins H1 b := fun b hb => by
    rw [List.mem_singleton.mp hb]
    exact J.fpOk (Nat.le_refl _) (J.hok.fresh (Nat.le_refl _))
  rcases q with ⟨⟨xs, hx⟩, q⟩ | ⟨⟨xs, hx⟩, q⟩
  · obtain ⟨its, rv, p, hz⟩ := J.list hx
    exact wpAny_pyIter_list p.isList ⟨z.heap.objs.size, [z.heap.objs.size], _, _, H1, rfl, J.kept (t' := z.toks) fun b o g => Heap.get?_push_of_some _ g, turn_list a _, ⟨_, Heap.get?_push_size _ rfl, rfl, rfl⟩, new, q⟩
  · obtain ⟨its, rv, p, hz⟩ := J.tuple hx
    exact wpAny_pyIter_tuple (show z.heap.IsTuple a its.toArray from p) ⟨z.heap.objs.size, [z.heap.objs.size], _, _, H1, rfl, J.kept (t' := z.toks) fun b o g => Heap.get?_push_of_some _ g, turn_tuple a _, ⟨_, Heap.get?_push_size _ rfl, rfl, rfl⟩, new, q⟩
end
/-! ### texts -/
theorem vals_signs {x : Str} {acc : Array Value} (h : ItemsOf (SignAt x) acc x.cps.size) : Vals (x.cps.toList.map fun c => V.str ⟨#[c]⟩) acc.toList := by
  refine vals_of_at (by rw [List.length_map, Array.length_toList, Array.length_toList, h.1]) fun j y u h1 h2 => ?_
  obtain ⟨c, t, h3, h4⟩ := h.2 j u (by rw [← Array.getElem?_toList]; exact h2)
  rw [List.getElem?_map, Array.getElem?_toList, h3] at h1
  cases h1
  exact ⟨t, h4⟩
def rListTxt : List V → Hp → VK → Prop := fun xs H Q => ∃ z : Str, xs = [.str z] ∧ z.length ≤ sizeLine ∧ ∀ p, H p = none → Q (.ref p) (upd H p (.lst (z.cps.toList.map fun c => V.str ⟨#[c]⟩)))
section
variable {X : Cx}
theorem call_listTxt (hc : X.calm = true) : CallR X (.type "list") rListTxt := by
  intro pins s σ H xs us Q I r ⟨z, ex, hz, q⟩
  subst ex
  obtain ⟨u, eu, t, et⟩ := vals1 r
  subst eu et
  refine PySem.call_list_str (I.ok.hd hc) z t (fun h' tk acc c hk hS ha => ?_) (hn := hz)
  have rv := vals_signs ha
  refine ⟨.ref s.heap.objs.size, _, I.laid (o := .lst (z.cps.toList.map fun c => V.str ⟨#[c]⟩)) hk (Nat.le_refl _) ⟨?_, acc.toList, c, rv, by rw [Array.toArray_toList]; exact hS⟩, rfl, q _ (I.hok.fresh (Nat.le_refl _))⟩
  rw [List.length_map, Array.length_toList]
  exact hz
/-- sorted(text): its signs -/
def rSortedTxt : List V → Hp → VK → Prop := fun xs H Q => ∃ z : Str, xs = [.str z] ∧ z.length ≤ sizeLine ∧ ∀ (ss : List Str) (p : Addr), ss.Perm (z.cps.toList.map fun c => ⟨#[c]⟩) → sortedS ss = true → H p = none → Q (.ref p) (upd H p (.lst (ss.map V.str)))
/-- the tail of sorted: the collected values, put into a new list, sorted there -/
theorem sorted_tail {pins : List (Addr × Obj)} {σ : L2.St} {H : Hp} {s : Shared} {A : Around} {E : Value → Shared → Prop} {vs : List Value} (I : Inv X pins σ H s) (hz : vs.length ≤ sizeLine) {R : List V → Prop} {Q : PySem.Fin → Shared → Prop}
    (hs : ∀ (s1 : Shared) (a : Addr) (P : PySem.Fin → Shared → Prop), s1.heap.get? a = some (seqObj "list" vs.toArray 0) →
      (∀ (o : Array Value) (ys : List V), Vals ys o.toList → ys.length = vs.length → R ys → P (.done (.ret .none)) { s1 with heap := PyProof.Rows.sortedHeap s1.heap a vs o }) → wpAny (model X.prog X.w) A.in1 (Builtin.«list.sort» ⟨[.ref a], []⟩) P E s1)
    (hq : ∀ ys p, R ys → H p = none → ∀ s', Inv X pins σ (upd H p (.lst ys)) s' → Q (.done (.ret (.ref p))) s') :
    wpAny (model X.prog X.w) A (newList vs >>= fun l => holding [l] (call (.builtin "list.sort") [l] []) >>= fun _ => ret l) Q E s := by
  refine wpAny_bind (wpAny_newList ?_ hz)
  have ho : (s.heap.push (seqObj "list" vs.toArray 0)).get? s.heap.objs.size = some (seqObj "list" vs.toArray 0) := Heap.get?_push_size _ rfl
  show wpAny _ _ _ _ _ { s with heap := s.heap.push (seqObj "list" vs.toArray 0) }
  refine wpAny_bind (wpAny_holding (wpAny_call_entry PyProof.Rows.slot_list_sort ⟨_, ho, rfl⟩ PyProof.Rows.entry_list_sort
    (hs { s with heap := s.heap.push (seqObj "list" vs.toArray 0) } s.heap.objs.size _ ho fun o ys rv hl hR => ⟨_, rfl, ?_⟩) (PyProof.Rows.args_list_sort _)))
  obtain ⟨ep, he⟩ := PyProof.Rows.sortedHeap_at (vs := vs) (out := o) ho
  refine wpAny_pure (hq ys s.heap.objs.size hR (I.hok.fresh (Nat.le_refl _)) _ (I.laid (t' := s.toks) (o := .lst ys) (fun b u g => ?_) (Nat.le_refl _) ⟨by rw [hl]; exact hz, o.toList, ep, rv, by rw [Array.toArray_toList]; exact he⟩))
  have hb : b < s.heap.objs.size := Heap.lt_size g
  rw [PyProof.Rows.sortedHeap_old (Nat.ne_of_lt hb) (by rw [size_push']; exact Nat.lt_succ_of_lt hb)]
  exact Heap.get?_push_of_some _ g
theorem call_sortedTxt (hc : X.calm = true) : CallR X (.builtin "sorted") rSortedTxt := by
  intro pins s σ H xs us Q I r ⟨z, ex, hz, q⟩
  subst ex
  obtain ⟨u, eu, t, et⟩ := vals1 r
  subst eu et
  refine Calls.call_function_entry PyProof.Rows.kind_sorted PyProof.Rows.plain_sorted PyProof.Rows.entry_sorted (PyProof.Rows.args_sorted1 _) ?_
  unfold Builtin.«sorted»
  refine wpAny_bind (m := checkCount "sorted" 1 1 _) (wpAny_pure ?_)
  refine wpAny_bind (wpAny_collect_str (A := X.A.in1) (I.ok.hd hc) z t (fun s1 acc hk hg hd ho ha => ?_) (hn := hz))
  have rv := vals_signs ha
  have e1 : s1 = { s with heap := s1.heap, toks := s1.toks } := by
    cases s1
    cases s
    simp only at hg hd ho
    subst hg hd ho
    rfl
  have I1 : Inv X pins σ H s1 := by rw [e1]; exact I.kept hk
  have hl : acc.toList.length = z.length := by rw [Array.length_toList]; exact ha.1
  have hS : StrsAre acc.toList (z.cps.toList.map fun c => (⟨#[c]⟩ : Str)) := Vals.strs (by rw [List.map_map]; exact rv)
  refine sorted_tail (A := X.A.in1) I1 (by rw [hl]; exact hz) (R := fun ys => ∃ ss : List Str, ys = ss.map V.str ∧ ss.Perm (z.cps.toList.map fun c => ⟨#[c]⟩) ∧ sortedS ss = true) (fun s2 a P g k => ?_) fun ys p ⟨ss, ey, h1, h2⟩ hp s2 I2 => ?_
  · refine PyProof.Rows.list_sort_treeKAny PyProof.Rows.strKind_oneLt g hS.keysOf (fun v₁ v₂ rest e => PyProof.Rows.keyKind_strs (by rw [← e]; exact hS)) (by rw [hl]; exact hz) fun st' hp hs => ?_
    obtain ⟨ss, h1, h2, h3⟩ := PyProof.Rows.sorted_out_str hS hp hs
    exact k _ (ss.map V.str) (vals_of_strs h1) (by rw [List.length_map, h2.length_eq, List.length_map, Array.length_toList]; exact hl.symm) ⟨ss, rfl, h2, h3⟩
  · subst ey
    exact ⟨_, rfl, .ref p, _, I2, rfl, q ss p h1 h2 hp⟩
/-- sorted(d), the keys ints -/
def rSortedDK : List V → Hp → VK → Prop := fun xs H Q => ∃ (a : Addr) (kvs : List (Key × V)) (ks : List Int), xs = [.ref a] ∧ Rd H a (.dK kvs) ∧ kvs.map (·.1) = ks.map Sum.inl ∧
  ∀ (ys : List Int) (p : Addr), ys.Perm ks → ys.Pairwise (· ≤ ·) → H p = none → Q (.ref p) (upd H p (.lst (ys.map V.int)))
theorem call_sortedDK (hc : X.calm = true) : CallR X (.builtin "sorted") rSortedDK := by
  intro pins s σ H xs us Q I r ⟨a, kvs, ks, ex, hd, hks, q⟩
  subst ex
  obtain ⟨u, eu, ru⟩ := vals1 r
  subst eu
  cases ru
  obtain ⟨z, lo, vs, rel, dd⟩ := dk_rd I.hok hd
  obtain ⟨ep, hat⟩ := dd.dictAt
  have hk2 : vs.map (·.1) = ks.map Sum.inl := rel.keys.symm.trans hks
  have hl : vs.length = ks.length := by
    have := congrArg List.length hk2
    rwa [List.length_map, List.length_map] at this
  have hz : vs.length ≤ sizeLine := by rw [← Paired.length rel]; exact z
  refine Calls.call_function_entry PyProof.Rows.kind_sorted PyProof.Rows.plain_sorted PyProof.Rows.entry_sorted (PyProof.Rows.args_sorted1 _) ?_
  unfold Builtin.«sorted»
  refine wpAny_bind (m := checkCount "sorted" 1 1 _) (wpAny_pure ?_)
  refine wpAny_bind (PySem.W.kdu_collect (A := X.A.in1) (PySem.W.kdl_dict (knd := mixKind X.prog X.w) (kvs := vs) (ep := ep) lo) (I.ok.hd hc) hat hz fun h2 tk acc hk ha => ?_)
  have hn : acc.toList.length = ks.length := by rw [Array.length_toList, ha.1, hl]
  have hI : IntsAre acc.toList ks := ints_each hn fun j v e => by
    obtain ⟨k, x, e1, e2⟩ := ha.2 j v (by rw [← Array.getElem?_toList]; exact e)
    have e3 : (vs.map (·.1))[j]? = some k := by rw [List.getElem?_map, e1] <;> rfl
    rw [hk2, List.getElem?_map] at e3
    obtain ⟨y, e4, e5⟩ := Option.map_eq_some_iff.mp e3
    subst e5
    rcases keyIs_shape (show keyIs (Sum.inl y) v = true from e2) with ⟨i, t, ek, ev⟩ | ⟨z, t, ek, ev⟩
    · cases ek
      exact ⟨y, t, e4, ev⟩
    · cases ek
  refine sorted_tail (A := X.A.in1) (I.kept (t' := tk) hk) (by rw [hn, ← hl]; exact hz) (R := fun ys => ∃ ns : List Int, ys = ns.map V.int ∧ ns.Perm ks ∧ ns.Pairwise (· ≤ ·)) (fun s2 a P g k => ?_) fun ys p ⟨ns, ey, h1, h2⟩ hp s2 I2 => ?_
  · refine PyProof.Rows.list_sort_treeAny g hI (by rw [hn, ← hl]; exact hz) fun out ns h1 h2 h3 => ?_
    exact k _ (ns.map V.int) (vals_of_ints h1) (by rw [List.length_map, h2.length_eq]; exact hn.symm) ⟨ns, rfl, h2, h3⟩
  · subst ey
    exact ⟨_, rfl, .ref p, _, I2, rfl, q ns p h1 h2 hp⟩
/-! ### list(d.values()) -/
def DVals (H : Hp) (a : Addr) (xs : List V) : Prop := (∃ kvs, Rd H a (.dK kvs) ∧ xs = kvs.map (·.2)) ∨ ∃ kvs, Rd H a (.dT kvs) ∧ xs = kvs.map (·.2)
def tListVals (te : TE) : TE := fun σ H Q => te σ H fun x H1 => ∃ a xs, x = .ref a ∧ DVals H1 a xs ∧ ∀ p, H1 p = none → Q (.ref p) (upd H1 p (.lst xs))
theorem dvals_raw {pins : List (Addr × Obj)} {σ : L2.St} {H : Hp} {s : Shared} {a : Addr} {xs : List V} (I : Inv X pins σ H s) (h : DVals H a xs) : (a == sysModules) = false ∧ xs.length ≤ sizeLine ∧
    ∃ es ep, s.heap.DictRaw a es ep ∧ es.size = xs.length ∧ ∀ i (hi : i < es.size) x, xs[i]? = some x → RelV x es[i].val := by
  rcases h with ⟨kvs, hd, ex⟩ | ⟨kvs, hd, ex⟩
  · obtain ⟨z, lo, vs, rel, dd⟩ := dk_rd I.hok hd
    obtain ⟨es, ep, h1, h2, h3⟩ := dd.raw
    refine ⟨lo, by rw [ex, List.length_map]; exact z, es, ep, h1, ?_, fun i hi x hx => ?_⟩
    · rw [h2, ex, List.length_map, Paired.length rel]
    · rw [ex, List.getElem?_map] at hx
      obtain ⟨p, e1, e2⟩ := Option.map_eq_some_iff.mp hx
      obtain ⟨q, e3, e4, e5⟩ := LiI.paired_get rel e1
      rw [(h3 i hi q.1 q.2 e3).2, ← e2]
      exact e5
  · obtain ⟨z, lo, vs, rel, dd⟩ := dt_rd I.hok hd
    obtain ⟨es, ep, h1, h2, h3⟩ := dd.raw
    refine ⟨lo, by rw [ex, List.length_map]; exact z, es, ep, h1, ?_, fun i hi x hx => ?_⟩
    · rw [h2, ex, List.length_map, Paired.length rel]
    · rw [ex, List.getElem?_map] at hx
      obtain ⟨p, e1, e2⟩ := Option.map_eq_some_iff.mp hx
      obtain ⟨q, e3, e4, _, e5⟩ := LiI.paired_get rel e1
      obtain ⟨y, f1, _, f3, _⟩ := h3 i hi
      rw [e3] at f1
      cases f1
      rw [f3, ← e2]
      exact e5
theorem pe_listVals {e : Expr} {te : TE} {p apos cpos pos : Pos} (hc : X.calm = true) (hg : Gl X "list") (hm : X.mg "list" = none) (he : PE X e te) (hb : attributeBase e "values" X.env (eval e X.env) = eval e X.env := by rfl) (hline : (apos.endLine == cpos.line) = true := by rfl)
    (hs : starEach [.Call (.Attribute e "values" apos) [] [] cpos] X.env = (false, eval (.Call (.Attribute e "values" apos) [] [] cpos) X.env) :: starEach [] X.env := by rfl) :
    PE X (.Call (.Name "list" p) [.Call (.Attribute e "values" apos) [] [] cpos] [] pos) (tListVals te) := by
  refine ⟨fun pins s σ H Q I hq => ?_⟩
  refine wpAny_Call_Name_kw (ld_blt I hg hm boot_list ?_)
  refine PyProof.Rows.callWith_type1 ?_ hs rfl
  rw [hs]
  show wpAny _ _ (spliced ((false, eval (.Call (.Attribute e "values" apos) [] [] cpos) X.env) :: backTo pos (starEach [] X.env))) _ _ s
  refine Calls.spliced_cons ?_
  refine wpAny_Call_method (T := "dict") (id := "dict.values") hb rfl hline PySem.F.plainAttrs_dict PySem.F.slot_dict_values PySem.F.type_dict_values (thn (he.run pins s σ H _ I hq) fun u s1 ⟨x, H1, I1, rx, d, xs, ex, hd, q⟩ => ?_)
  subst ex
  obtain rfl : u = Value.ref d := rx
  obtain ⟨lo, hz, es, ep, h1, h2, h3⟩ := dvals_raw I1 hd
  refine ⟨h1.typeIs, fun b e => ?_, ?_⟩
  · cases e
    obtain ⟨o, g1, g2, _⟩ := h1
    exact ⟨o, g1, g2.2.1⟩
  have I2 : Inv X pins σ H1 { s1 with heap := s1.heap.push { cls := .type "dict_values", data := .fields #[.ref d] } } := I1.kept (t' := s1.toks) fun b ob g => Heap.get?_push_of_some _ g
  show wpAny _ _ (callWith cpos (.builtin "dict.values") [.ref d] [] []) _ X.xe s1
  refine method_meetsIn PySem.F.slot_dict_values PySem.F.entry_dict_values rfl (PySem.evalArgs_none ⟨rfl, h1.typeIs, PySem.F.args_dict_values_1 _, _, meets_dict_values_raw d lo, ⟨es, ep, h1⟩, ?_⟩)
  refine Calls.spliced_nil ?_
  refine PySem.W.kdl_call (PySem.KdlSrc.rawValues (r := s1.heap.objs.size) (d := d) (es := es) (ep := ep)) (I1.ok.hd hc) ⟨⟨_, Heap.get?_push_size _ rfl, rfl, rfl⟩, h1.push _⟩ (by rw [h2]; exact hz) fun h' tk acc c hk hS ha => ?_
  have rv : Vals xs acc.toList := by
    refine vals_of_at (by have := ha.1; rw [← h2, ← this]; simp) fun j x u e1 e2 => ?_
    obtain ⟨hi, e3⟩ := ha.2 j u (by rw [← Array.getElem?_toList]; exact e2)
    rw [e3]
    exact h3 j hi x e1
  exact ⟨.ref _, _, I2.laid (o := .lst xs) hk (Nat.le_refl _) ⟨hz, acc.toList, c, rv, by rw [Array.toArray_toList]; exact hS⟩, rfl, q _ (I2.hok.fresh (Nat.le_refl _))⟩
end
/-! ### t[::-1] of a tuple -/
def tRevT (K : PySem.W.Frag) (te : TE) : TE := fun σ H Q => te σ H fun x H1 => ∃ a xs, x = .ref a ∧ SqT K H1 a xs ∧ ∀ p, H1 p = none → Q (.ref p) (upd H1 p (.tup xs.reverse))
section
variable {prog : Program} {w : World} {A : Around} {E : Value → Shared → Prop} {s : Shared}
theorem part_m1 {v : Value} {o : Option Int} {Q : Option Int → Shared → Prop} (p : IsPart v o) (h : Q o s) : wpAny (model prog w) A (Builtin.Slice.slicePartIndex v) Q E s := HT.slicePart_ p h
theorem rev_places (n : Nat) : Builtin.Slice.slicePlaces ((n : Int) - 1) (-1) (-1) = n := by
  unfold Builtin.Slice.slicePlaces
  rw [if_neg (by omega)]
  by_cases h : (n : Int) - 1 > -1
  · rw [if_pos h]
    have e : ((n : Int) - 1 - -1 - 1) / - -1 + 1 = n := by
      rw [show (- -1 : Int) = 1 by omega, Int.ediv_one]
      omega
    rw [e]
    omega
  · rw [if_neg h]
    omega
theorem rev_take (l : List Value) : ∀ n, n ≤ l.length → (List.range n).filterMap (fun k => l[l.length - 1 - k]?) = l.reverse.take n
  | 0, _ => rfl
  | n + 1, h => by
    rw [List.range_succ, List.filterMap_append, rev_take l n (by omega), List.take_add_one, List.getElem?_reverse (by omega)]
    rw [List.filterMap_cons]
    cases l[l.length - 1 - n]? <;> rfl
theorem rev_pick (xs : Array Value) : ((List.range xs.size).filterMap fun (k : Nat) => xs[((xs.size : Int) - 1 + (k : Int) * -1).toNat]?).toArray = xs.toList.reverse.toArray := by
  congr 1
  have h := rev_take xs.toList xs.size (by simp)
  rw [List.take_of_length_le (by simp)] at h
  rw [← h]
  have f : ∀ (ls : List Nat), (∀ k ∈ ls, k < xs.size) → ls.filterMap (fun (k : Nat) => xs[((xs.size : Int) - 1 + (k : Int) * -1).toNat]?) = ls.filterMap fun k => xs.toList[xs.toList.length - 1 - k]? := by
    intro ls
    induction ls with
    | nil => intro _; rfl
    | cons k ls ih =>
      intro hk
      have hk0 := hk k List.mem_cons_self
      have e2 : xs[((xs.size : Int) - 1 + (k : Int) * -1).toNat]? = xs.toList[xs.toList.length - 1 - k]? := by
        rw [Array.getElem?_toList, Array.length_toList]
        congr 1
        omega
      rw [List.filterMap_cons, List.filterMap_cons, e2, ih fun j hj => hk j (List.mem_cons_of_mem _ hj)]
  exact f _ fun k hk => List.mem_range.mp hk
theorem getItem_tup_rev {t sl : Addr} {items : Array Value} {vl vu vs : Value} {Q : Value → Shared → Prop} (ht : IsTup s.heap t items) (hs : s.heap.IsSliceOf sl vl vu vs) (pl : IsPart vl none) (pu : IsPart vu none) (ps : IsPart vs (some (-1))) (hz : items.size ≤ sizeLine)
    (h : Q (.ref s.heap.objs.size) { s with heap := s.heap.push { cls := .type "tuple", data := .seq items.toList.reverse.toArray } }) : wpAny (model prog w) A (getItem (.ref t) (.ref sl)) Q E s := by
  obtain ⟨os, hos, hcs, hds⟩ := id hs
  have hT : s.TypeIs (.ref sl) "slice" := ⟨os, hos, hcs⟩
  have fits : sizeOk (.seq items.toList.reverse.toArray) := by
    show items.toList.reverse.toArray.size ≤ sizeLine
    rw [List.size_toArray, List.length_reverse, Array.length_toList]
    exact hz
  unfold getItem
  try with_reducible refine wpAny_holding ?_
  first | refine wpAny_bind (wpAny_pure ?_) | skip
  refine wpAny_bind (wpAny_sequenceKey ht.typeIs (by decide) ?_)
  refine wpAny_bind (wpAny_callSpecial?_slot (name := Str.ofString "__getitem__") ht.typeIs PyProof.Rows.slot_tuple_getitem
    (wpAny_call_entry PyProof.Rows.slot_tuple_getitem ht.typeIs entry_tuple_getitem ?_ (args_tuple_getitem _ _)))
  show wpAny _ _ (Builtin.Tuple.tupleItemsOf (.ref t) >>= _) _ _ s
  refine wpAny_bind (tupleItemsOf_ ht (wpAny_bind (wpAny_typeOf hT ?_)))
  rw [if_pos (by decide)]
  unfold Builtin.Slice.sliceApplied Builtin.Slice.sliceFields
  refine wpAny_bind (wpAny_bind (wpAny_bind (wpAny_field hos hds (x := vl) rfl (wpAny_bind (wpAny_field hos hds (x := vu) rfl (wpAny_bind (wpAny_field hos hds (x := vs) rfl (wpAny_pure ?_))))))))
  refine wpAny_bind (part_m1 ps ?_)
  show wpAny _ _ (if ((-1 : Int) == 0) = true then _ else _) _ _ s
  rw [if_neg (by decide)]
  refine wpAny_bind (part_m1 pl (wpAny_bind (part_m1 pu (wpAny_bind (wpAny_pure ?_)))))
  show wpAny _ _ (pure ((items.size : Int) - 1, (-1 : Int), Builtin.Slice.slicePlaces ((items.size : Int) - 1) (-1) (-1))) _ _ s
  rw [rev_places]
  refine wpAny_pure ?_
  have no : ¬ (((items.size : Int) - 1 == 0 && (-1 : Int) == 1 && items.size == items.size) = true) := by
    rw [show ((-1 : Int) == 1) = false by decide, Bool.and_false, Bool.false_and]
    exact Bool.false_ne_true
  show wpAny _ _ (if ((items.size : Int) - 1 == 0 && (-1 : Int) == 1 && items.size == items.size) = true then _ else _) _ _ s
  rw [if_neg no, rev_pick]
  first
    | exact wpAny_bind (m := Builtin.Tuple.tupleExact _) (wpAny_newObj_type (wpAny_pure ⟨_, rfl, wpAny_pure h⟩) fits)
    | exact wpAny_bind (m := Builtin.Tuple.tupleExact _) (wpAny_newObj_type (wpAny_bind (wpAny_pure (wpAny_pure ⟨_, rfl, wpAny_pure h⟩))) fits)
    | exact wpAny_bind (wpAny_bind (m := Builtin.Tuple.tupleExact _) (wpAny_newObj_type (wpAny_pure (wpAny_pure ⟨_, rfl, wpAny_pure h⟩)) fits))
    | exact wpAny_bind (wpAny_bind (m := Builtin.Tuple.tupleExact _) (wpAny_newObj_type (wpAny_pure ⟨_, rfl, wpAny_pure h⟩) fits))
end
theorem pe_revT {X : Cx} {e : Expr} {te : TE} {k : Nat} {p1 p2 p3 pos : Pos} (he : PE X e te) : PE X (.Subscript e (.Slice none none (some (.UnaryOp .USub (.Constant (.int 1) k p1) p2)) p3) pos) (tRevT X.K te) := by
  refine ⟨fun pins s σ H Q I h => ?_⟩
  refine Subscript_ (thn (he.run pins s σ H _ I h) fun v z1 ⟨x, H1, I1, r1, a, xs, ex, hx, q⟩ => ?_)
  subst ex
  cases r1
  have hst : PO X (some (.UnaryOp .USub (.Constant (.int 1) k p1) p2)) (tPart (tUn (rU fun i => .int (-i)) (tC (.int 1)))) := po_some (pe_un un_neg pe_int)
  refine wpAny_Slice (thn (po_none.run pins z1 σ H1 (fun o H2 => o = none ∧ H2 = H1) I1 ⟨rfl, rfl⟩) fun vl z2 ⟨l, H2, I2, pl, el, e2⟩ => ?_)
  subst el e2
  refine thn (po_none.run pins z2 σ H2 (fun o H3 => o = none ∧ H3 = H2) I2 ⟨rfl, rfl⟩) fun vu z3 ⟨u, H3, I3, pu, eu, e3⟩ => ?_
  subst eu e3
  refine thn (hst.run pins z3 σ H3 (fun o H4 => o = some (-1) ∧ H4 = H3) I3 ⟨1, rfl, -1, rfl, rfl, rfl⟩) fun vs z4 ⟨o, H4, I4, ps, eo, e4⟩ => ?_
  subst eo e4
  have I5 : Inv X pins σ H4 { z4 with heap := z4.heap.push { cls := .type "slice", data := .fields #[vl, vu, vs] } } := I4.kept (t' := z4.toks) fun b ob q => Heap.get?_push_of_some _ q
  obtain ⟨its, r, ht, hz⟩ := I5.tuple hx
  have hlen := r.length
  show wpAny (model X.prog X.w) X.A (subscriptTail e (.Slice none none (some (.UnaryOp .USub (.Constant (.int 1) k p1) p2)) p3) (.ref a) (.ref z4.heap.objs.size)) (EP X pins σ Q) X.xe { z4 with heap := z4.heap.push { cls := .type "slice", data := .fields #[vl, vu, vs] } }
  refine tail_any (ops := [.ref a, .ref z4.heap.objs.size]) ht.typeIs PyProof.Rows.slot_tuple_getitem.lookup ?_ (by with_unfolding_all rfl)
  refine getItem_tup_rev ht (Heap.IsSliceOf.new _ vl vu vs) pl pu ps (by rw [List.size_toArray]; omega) ?_
  refine ⟨.ref _, _, I5.laid (t' := z4.toks) (o := .tup xs.reverse) (fun b ob q => Heap.get?_push_of_some _ q) (Nat.le_refl _) ?_, rfl, q _ (I5.hok.fresh (Nat.le_refl _))⟩
  exact ⟨by rw [List.length_reverse]; exact hz, _, r.reverse, ⟨_, Heap.get?_push_size _ rfl, rfl, _, rfl⟩⟩
/-! ### {k: v for ..}, the keys tuples -/
theorem d_dictSetT {X : Cx} {pins : List (Addr × Obj)} {σ : L2.St} {H : Hp} {s : Shared} {E : Value → Shared → Prop} {D b : Addr} {kvs : List (List Key × V)} {k : List Key} {v : V} {u r : Value} {Q : Unit → Shared → Prop} (hu : X.A.units < cLine) (I : Inv X pins σ H s) (hD : H D = some (.dT kvs)) (hb : H b = some (.tup (k.map kV))) (hz : kvs.length < sizeLine)
    (ry : RelV (.ref b) u) (rv : RelV v r) (h : ∀ s', Inv X pins σ (upd H D (.dT (putK kvs k v))) s' → Q () s') : wpAny (model X.prog X.w) X.A (dictSet D u r) Q E s := by
  cases (show u = Value.ref b from ry)
  obtain ⟨z, hd, xs, rel, dd⟩ := dt_of I.hok hD
  have hzx : xs.length ≤ sizeLine := by rw [← Paired.length rel]; exact z
  have hl : (putK kvs k v).length ≤ sizeLine := by have := length_putK kvs k v; omega
  refine wpAny_dictSet_heap (hsz := hzx) (show (tupleKind (mixKind X.prog X.w)).room X.A from hu) (key_of I.hok hb) dd fun h' dd' hs => h _ ?_
  obtain ⟨q, es, ep, hq, h2, h3, h4, _, h5⟩ := dd'
  refine d_write I (by rw [hD]; exact True.intro) hs ⟨q, hq⟩ ⟨hl, hd, _, (rel.put k hb rv).keeps fun c ys ec => ?_, q, es, ep, hq, h2, h3, h4, h5⟩
  rw [upd_ne (ne_of ec hD (fun z => nomatch z))]
  exact ec
section
variable {X : Cx}
def tDcT (wi : TI) (g : TG) (tt : TT) (tk tv : TE) (vs : List Nat) : TE := fun σ H Q => wi σ H fun J H1 => ∀ D, H1 D = none → ∃ W : Nat → Nat → Hp → Prop, (∃ m, W 0 m (upd H1 D (.dT []))) ∧ ∀ i m H, W i m H →
  (J.stop i H ∧ Q (.ref D) H) ∨ (J.go i H ∧ ∃ Nx : Hp → Prop, (∀ H', Nx H' → ∃ m', m' < m ∧ W (i + 1) m' H') ∧ ∀ x H', J.yld i H x H' → g x (wipe σ vs) H' fun σ2 H2 => wipe σ2 vs = wipe σ vs ∧ tt σ2 H2 fun b H3 =>
    if b = true then tk σ2 H3 fun y H4 => tv σ2 H4 fun z H5 => ∃ kvs k q, y = .ref q ∧ H5 q = some (.tup (k.map kV)) ∧ H5 D = some (.dT kvs) ∧ kvs.length < sizeLine ∧ Nx (upd H5 D (.dT (putK kvs k z))) else Nx H3)
theorem dct_core {pins : List (Addr × Obj)} {s : Shared} {σ : L2.St} {H : Hp} {Q : VK} {kx vx tg iter : Expr} {ifs : List Expr} {scope : Scope} {own : List (Str × Nat)} {pos pos' : Pos} {wi : TI} {g : TG} {tt : TT} {tk tv : TE} {use : Option (Value → Sem Unit)} {Qf : Value → Shared → Prop}
    (hu : X.A.units < cLine) (hc : X.calm = true) (hN : X.N.Nodup) (I : Inv X pins σ H s) (hi : PI X tg iter wi) (ok : BlkOk X.N X.env.scope scope own)
    (hg : ∀ (s : Shared) (H : Hp) (C : Addr) (cl : List (Str × Addr)) (fp : List Addr), PG (X.blk s H scope (compEnvC scope cl C X.env) fp) tg g) (ht : ∀ (s : Shared) (H : Hp) (C : Addr) (cl : List (Str × Addr)) (fp : List Addr), PTs (X.blk s H scope (compEnvC scope cl C X.env) fp) ifs tt)
    (hk : ∀ (s : Shared) (H : Hp) (C : Addr) (cl : List (Str × Addr)) (fp : List Addr), PE (X.blk s H scope (compEnvC scope cl C X.env) fp) kx tk)
    (he : ∀ (s : Shared) (H : Hp) (C : Addr) (cl : List (Str × Addr)) (fp : List Addr), PE (X.blk s H scope (compEnvC scope cl C X.env) fp) vx tv) (hs : ∀ x, foldedSetIterable iter X.env x = pure x)
    (h : tDcT wi g tt tk tv (own.map (·.2)) σ H Q)
    (hRR : ∀ D C s' m H', Inv X pins σ H' s' → Q (.ref D) H' → s'.heap.Ns C m → FpOk X pins H' C → compPost (model X.prog X.w) X.A X.xe use Qf (.ref D) C (.ok .next) s') :
    wpAny (model X.prog X.w) X.A (comprehension (.DictComp kx vx [⟨tg, iter, ifs, 0⟩] scope pos) scope X.env pos' newDict false (eval iter X.env) use) Qf X.xe s := by
  have hfree : ∀ y ∈ scope.names, y.2 = .free → ∃ c, X.env.cells.lookup y.1 = some c := fun y hy e => by
    rcases ok.free y hy e with k | k
    · exact I.ok.has _ (.inl k)
    · exact I.ok.has _ (.inr k)
  refine wpAny_comprehension_free (use := use) rfl hs (closure_ok hfree) ok.kind (fun y hy e => by rw [ok.uniq y hy, e])
    (thn (hi.run pins s σ H _ I h) fun xv z1 hx => thn hx fun itv z2 h2 => ?_)
  obtain ⟨it, fp, tn, J, H2, e, I2, T, st2, f2, q⟩ := h2
  subst e
  refine wpAny_newObj_type (newEnv_comp ?_)
  generalize hD : z2.heap.objs.size = D
  have hDn : H2 D = none := I2.hok.fresh (Nat.le_of_eq hD)
  obtain ⟨W, ⟨m0, w0⟩, turn⟩ := q D hDn
  -- the new list
  generalize hs3 : ({ z2 with heap := z2.heap.push { cls := .type "dict", data := .dict #[] } } : Shared) = z3
  have I3 : Inv X pins σ (upd H2 D (.dT [])) z3 := by
    rw [← hs3]
    refine I2.laid (t' := z2.toks) (fun b o e => Heap.get?_push_of_some _ e) (Nat.le_of_eq hD) ?_
    rw [← hD]
    exact dt_empty z2.heap I2.big
  have h3 : z3.heap = z2.heap.push { cls := .type "dict", data := .dict #[] } := by rw [← hs3]
  have szz : ∀ b ∈ fp, b < z2.heap.objs.size := fun b hb => by
    obtain ⟨o, e, _⟩ := T.obj _ _ st2 b hb
    exact Heap.lt_size e
  have f3 : ∀ b ∈ fp, FpOk X pins (upd H2 D (.dT [])) b ∧ b < z3.heap.objs.size := fun b hb => by
    have hlt := szz b hb
    refine ⟨⟨?_, (f2 b hb).2⟩, by rw [h3, Heap.size_push]; exact Nat.lt_succ_of_lt hlt⟩
    rw [upd_ne (by rw [← hD]; exact Nat.ne_of_lt hlt)]
    exact (f2 b hb).1
  have st3 : tn 0 z3.heap := T.keep _ _ _ st2 fun b _ o e => by rw [h3]; exact Heap.get?_push_of_some _ e
  have I4 := block_start I3 ok hN f3
  have pg := hg z3 (upd H2 D (.dT [])) z3.heap.objs.size (cellsFrom (z3.heap.objs.size + 1) scope.names (cloFrom X.env.cells scope.names [])) fp
  have pt := ht z3 (upd H2 D (.dT [])) z3.heap.objs.size (cellsFrom (z3.heap.objs.size + 1) scope.names (cloFrom X.env.cells scope.names [])) fp
  have pk := hk z3 (upd H2 D (.dT [])) z3.heap.objs.size (cellsFrom (z3.heap.objs.size + 1) scope.names (cloFrom X.env.cells scope.names [])) fp
  have pe := he z3 (upd H2 D (.dT [])) z3.heap.objs.size (cellsFrom (z3.heap.objs.size + 1) scope.names (cloFrom X.env.cells scope.names [])) fp
  show codeAny _ _ (.compStart (.DictComp kx vx [⟨tg, iter, ifs, 0⟩] scope pos) 0 (.ref it) (.ref D) (compEnvC scope (cellsFrom (z3.heap.objs.size + 1) scope.names (cloFrom X.env.cells scope.names [])) z3.heap.objs.size X.env)) (compPost (model X.prog X.w) X.A X.xe use Qf (.ref D) z3.heap.objs.size) { z3 with heap := pushCells (z3.heap.push { cls := .type "dict", data := .dict #[] }) scope.names }
  have nofp : ∀ b ∈ fp, (upd H2 D (.dT [])) b = none := fun b hb => (f3 b hb).1.1
  generalize hce : compEnvC scope (cellsFrom (z3.heap.objs.size + 1) scope.names (cloFrom X.env.cells scope.names [])) z3.heap.objs.size X.env = ce at I4 pg pt pk pe ⊢
  have cL : ce.locals = z3.heap.objs.size := by subst hce; rfl
  generalize hH3 : upd H2 D (.dT []) = H3 at I3 I4 pg pt pk pe w0 nofp f3
  generalize hs4 : ({ z3 with heap := pushCells (z3.heap.push { cls := .type "dict", data := .dict #[] }) scope.names } : Shared) = z4 at I4 ⊢
  have st4 : tn 0 z4.heap := T.keep _ _ _ st3 fun b _ o e => by rw [← hs4]; exact pushCells_keeps _ _ _ _ (Heap.get?_push_of_some _ e)
  have stay8 : ∀ {σ' : L2.St} {H' : Hp} {s' : Shared}, Inv (X.blk z3 H3 scope ce fp) [] σ' H' s' → (∀ b ∈ fp, H' b = none) → ∀ b ∈ fp, FpOk (X.blk z3 H3 scope ce fp) [] H' b := fun {σ' H' s'} I' hn b hb =>
    ⟨hn b hb, (I'.ok.exf b hb).1, I'.ok.exfs b hb, .inl hb, fun x c e => (I'.ok.exf b hb).2 x c e, fun p hp => absurd (show p ∈ ([] : List (Addr × Obj)) ++ [] from hp) (by simp)⟩
  have lp : codeAny (model X.prog X.w) X.A (.compLoop (.DictComp kx vx [⟨tg, iter, ifs, 0⟩] scope pos) 0 (.ref it) (.ref D) ce) (compPost (model X.prog X.w) X.A X.xe use Qf (.ref D) z3.heap.objs.size) z4 := by
    refine compLoop_anyD (fun n s' => ∃ i H', Inv (X.blk z3 H3 scope ce fp) [] (wipe σ (own.map (·.2))) H' s' ∧ tn i s'.heap ∧ (∀ b ∈ fp, H' b = none) ∧ W i n H') ?_ m0 ⟨0, H3, I4, st4, nofp, w0⟩
    rintro n z5 ⟨i, H5, I5, st5, n5, w5⟩
    rcases turn i n H5 w5 with ⟨stop, qq⟩ | ⟨go, Nx, hNx, step⟩
    · have td := T.done (X.blk z3 H3 scope ce fp) rfl rfl rfl hc i [] z5 _ H5 (fun _ _ => False) I5 (stay8 I5 n5) st5 stop
      refine thnF td fun r z6 ⟨hr, I6⟩ => ?_
      subst hr
      -- back in the def's context
      have I7 : Inv X pins σ H5 z6 := I3.call' (ch := fp) I6.os I6.base I6.hok I6.bare fun b hb => ⟨(f3 b hb).1.2.2.2.1, (f3 b hb).1.2.1, (f3 b hb).1.2.2.2.2.1, (f3 b hb).1.2.2.2.2.2⟩
      have nC : H5 z3.heap.objs.size = none := by
        have z : H5 ce.locals = none := I6.free
        rw [cL] at z
        exact z
      obtain ⟨m, hn, _⟩ := I6.loc
      have hn : z6.heap.Ns ce.locals m := hn
      rw [cL] at hn
      exact hRR D z3.heap.objs.size z6 m H5 I7 qq hn (I3.fpOk (Nat.le_refl _) nC)
    · have ti := T.item (X.blk z3 H3 scope ce fp) rfl rfl rfl hc i [] z5 _ H5 (fun _ _ => False) I5 (stay8 I5 n5) st5 go
      refine thnF ti fun r z6 ⟨u, hr, h6⟩ => ?_
      subst hr
      refine thnF h6 fun _ z7 ⟨x, H7, I7, r7, y7, st7, n7⟩ => ?_
      have I7' := I7.pinned (stay8 I7 n7) (T.obj _ _ st7)
      refine thnF (pg.run _ z7 _ H7 x u _ I7' r7 (step x H7 y7)) fun _ z8 ⟨σ8, H8, I8, hw8, q8⟩ => ?_
      refine thnF (pt.run _ z8 σ8 H8 _ I8 q8) fun b z9 ⟨H9, I9, q9⟩ => ?_
      -- the turn's end
      have endT : ∀ {s' : Shared} {H' : Hp}, Inv (X.blk z3 H3 scope ce fp) ([] ++ pinsAt fp z7.heap) σ8 H' s' → Nx H' → ∃ m, m < n ∧ ∃ i H', Inv (X.blk z3 H3 scope ce fp) [] (wipe σ (own.map (·.2))) H' s' ∧ tn i s'.heap ∧ (∀ b ∈ fp, H' b = none) ∧ W i m H' := fun {s' H'} I' nx => by
        obtain ⟨m', hm, w'⟩ := hNx H' nx
        have pin' : ∀ b ∈ fp, ∀ o, z7.heap.get? b = some o → s'.heap.get? b = some o ∧ H' b = none := fun b hb o e =>
          let z := I'.pin (b, o) (List.mem_append_right _ (List.mem_append_right _ (mem_pinsAt hb e)))
          ⟨z.1, z.2.1⟩
        have hl : (wipe σ (own.map (·.2))).length = σ8.length := by rw [← hw8, wipe_length]
        refine ⟨m', hm, i + 1, H', (I'.unpinned (pins := [])).weak hl (fun j v e => ?_), T.keep _ _ _ st7 fun b hb o e => (pin' b hb o e).1, fun b hb => ?_, w'⟩
        · rw [← hw8] at e
          exact (wipe_some e).1
        · obtain ⟨o, e, _⟩ := T.obj _ _ st7 b hb
          exact (pin' b hb o e).2
      cases b with
      | false =>
        simp only [Bool.false_eq_true, if_false] at q9 ⊢
        exact endT I9 q9
      | true =>
        simp only [if_true] at q9 ⊢
        refine thnF (pk.run _ z9 σ8 H9 _ I9 q9) fun z z10 ⟨yk, H10, I10, r10, q10⟩ => ?_
        refine thnF (pe.run _ z10 σ8 H10 _ I10 q10) fun zz z11 ⟨yv, H11, I11, r11, kvs, k, qa, ek, hqa, hD11, hz11, nx⟩ => ?_
        subst ek
        exact d_dictSetT (X := X.blk z3 H3 scope ce fp) hu I11 hD11 hqa hz11 r10 r11 fun z12 I12 => endT I12 nx
  exact codeAny_compStart_dict lp (T.self X.A 0 _ _ _ st4 lp)
theorem pe_dcT {kx vx tg iter : Expr} {scope : Scope} {own : List (Str × Nat)} {pos : Pos} {wi : TI} {g : TG} {tk tv : TE} (hc : X.calm = true) (hN : X.N.Nodup) (hu : X.A.units + 1 < cLine) (hi : PI X tg iter wi) (ok : BlkOk X.N X.env.scope scope own)
    (hg : ∀ (s : Shared) (H : Hp) (C : Addr) (cl : List (Str × Addr)) (fp : List Addr), PG (X.blk s H scope (compEnvC scope cl C X.env) fp) tg g)
    (hk : ∀ (s : Shared) (H : Hp) (C : Addr) (cl : List (Str × Addr)) (fp : List Addr), PE (X.blk s H scope (compEnvC scope cl C X.env) fp) kx tk)
    (he : ∀ (s : Shared) (H : Hp) (C : Addr) (cl : List (Str × Addr)) (fp : List Addr), PE (X.blk s H scope (compEnvC scope cl C X.env) fp) vx tv) (hs : ∀ x, foldedSetIterable iter X.env x = pure x := by intro _; rfl) :
    PE X (.DictComp kx vx [⟨tg, iter, [], 0⟩] scope pos) (tDcT wi g tYes tk tv (own.map (·.2))) := by
  refine ⟨fun pins s σ H Q I h => ?_⟩
  rw [arm_eval_DictComp]
  refine dct_core (by omega) hc hN I hi ok hg (fun _ _ _ _ _ => pts_nil) hk he hs h fun D C s' m H' I' q hn ⟨f0, f1, f2, f3, f4, f5⟩ => ⟨m, hn, fun h2 sb => ?_⟩
  exact ⟨.ref D, H', I'.turned (t' := s'.toks) (fun b o hb e => (sb.2 b hb).trans e) f0 f1 f3 f4 f5, rfl, q⟩
end
/-! ### a class in a slot, called -/
def tMakeL (i : Nat) (C : Addr) (sp : Sp) (dvs : List V) (t : TA) : TE := fun σ H Q => σ[i]? = some (some (.ref C)) ∧ tMake C sp dvs C8.E0 t σ H Q
theorem pe_clsL {X : Cx} {k j i : Nat} {C : Addr} {x nm : Str} {sp : Sp} {dvs : List V} {p pos : Pos} {e : Expr} {es : List Expr} {t : TA} (c : C8.Mak X.prog X.w X.K X.mg X.base k nm C sp dvs) (hr : Room j X.A) (hk : k + 1 ≤ j) (hN : X.N[i]? = some x) (ha : PA X (e :: es) t)
    (hv : Vis X.env.scope x := by first | exact Or.inl rfl | exact Or.inr (Or.inl rfl) | exact Or.inr (Or.inr rfl)) (hdb : (x == ("__debug__" : Str)) = false := by decide) (hcd : (x == ("__classdict__" : Str)) = false := by decide)
    (he : starEach (e :: es) X.env = (false, eval e X.env) :: starEach es X.env := by rfl) (hpl : (backTo pos (starEach es X.env)).any (·.1) = false := by rfl) : PE X (.Call (.Name x p) (e :: es) [] pos) (tMakeL i C sp dvs t) := by
  obtain ⟨f, fd, ps, ds, M, F, hm, b, d⟩ := c.ex
  refine ⟨fun pins s σ H Q I ⟨hs, h⟩ => ?_⟩
  refine wpAny_Call_Name_kw (thn ((pe_var (pos := p) hN hv hdb hcd).run pins s σ H (fun v H1 => v = .ref C ∧ H1 = H) I ⟨.ref C, hs, rfl, rfl⟩) fun u z ⟨v, H1, J, rv, e1, e2⟩ => ?_)
  subst e1 e2
  cases rv
  refine PySem.W.callWith_K (h₀ := X.base) J.ok.mod.kin M.kp (thn (ha.run pos pins z σ _ _ J h) fun us z2 ⟨vs, H2, J2, r, q⟩ => ⟨J2.kIn, ?_⟩) he hpl
  exact run_make M F (hr.mono hk) b d C8.pass0 J2 r q
/-! ### Meter(a, b, c, d, flag = .., each = ..) -/
structure MakM (P : Program) (w : World) (K : PySem.W.Frag) (mg : Str → Option Value) (base : Heap) (k : Nat) (x : Str) (C : Addr) (sp : Sp) : Prop where
  ex : ∃ (f : Addr) (fd : FuncData) (ps : List Str) (g : List Value → List Value → List Value), Mk K C f ∧ FnOk P w K mg base C8.CX0 k f fd ps sp ∧ mg x = some (.ref C) ∧ KBn K fd ps 5 ["flag", "each"] g (fun vs zs => vs ++ zs)
theorem pe_mkM {X : Cx} {k j : Nat} {C : Addr} {x : Str} {sp : Sp} {p pos : Pos} {e : Expr} {es : List Expr} {kws : List Keyword} {t tk : TA} (c : MakM X.prog X.w X.K X.mg X.base k x C sp) (hr : Room j X.A) (hk : k + 1 ≤ j) (hg : Gl X x) (ha : PA X (e :: es) t) (hkw : PK X kws tk)
    (hall : (backToKw pos (keywordEach kws X.env)).all (·.1.isSome) = true := by rfl) (hks : (backToKw pos (keywordEach kws X.env)).filterMap (·.1) = (["flag", "each"] : List Str) := by rfl) (hdb : (x == ("__debug__" : Str)) = false := by decide)
    (he : starEach (e :: es) X.env = (false, eval e X.env) :: starEach es X.env := by rfl) (hpl : ((backTo pos (starEach (e :: es) X.env)).any (·.1) || (backToKw pos (keywordEach kws X.env)).any (·.1.isNone)) = false := by rfl) :
    PE X (.Call (.Name x p) (e :: es) kws pos) (tMakeK C 4 2 sp (fun vs zs => vs ++ zs) C8.E0 t tk) := by
  obtain ⟨f, fd, ps, g, M, F, hm, b⟩ := c.ex
  exact pe_makeK (n := 4) M F (hr.mono hk) hg hm b C8.pass0 ha hkw hall hks hdb he hpl
end Cm

/-! ## R2 -/
set_option maxHeartbeats 4000000
/-! The layer's rules with the written part named (so that they stand within a comprehension too). -/
namespace Cm
open PySem PySem.Spec PyProof.Rows L2 Evl
section
variable {X : Cx} {K : PySem.W.Frag} (w : X.K = K)
include w
theorem ixL : IxR X (rIxL K) := w ▸ ix_list
theorem ixT : IxR X (rIxT K) := w ▸ ix_tup
theorem ixQ : IxR X (rIx K) := w ▸ ix_seq
theorem cbLen : CallR X (.builtin "len") (rLenS K) := w ▸ call_len_seq
theorem cbList : CallR X (.type "list") (rListS K) := w ▸ call_list_of
theorem cbTuple : CallR X (.type "tuple") (fun xs H Q => ∃ p ys, xs = [.ref p] ∧ ((SqL K H p ys ∧ ∀ l, H l = none → Q (.ref l) (upd H l (.tup ys))) ∨ (SqT K H p ys ∧ Q (.ref p) H))) := w ▸ call_tuple_of
theorem cbSum (hc : X.calm = true) : CallR X (.builtin "sum") (rSum K) := w ▸ cr_sum hc
theorem cbMax (hc : X.calm = true) : CallR X (.builtin "max") (rMax K) := w ▸ cr_max hc
theorem cbAll (hc : X.calm = true) : CallR X (.builtin "all") (rAll K) := w ▸ cr_all hc
theorem cbIsi : CallR X (.builtin "isinstance") (rIsi K) := w ▸ call_isi
theorem cbIsiT : CallR X (.builtin "isinstance") (rIsiT K) := w ▸ call_isiT
theorem opEqD (hu : X.A.units + 64 < cLine) : OpR X (compareOp .Eq) (rEqD K) := w ▸ op_eqD hu
theorem opNeD (hu : X.A.units + 64 < cLine) : OpR X (compareOp .NotEq) (rNeD K) := w ▸ op_neD hu
theorem opInQ : OpR X (compareOp .In) (rIn K false) := w ▸ op_in_seq
theorem slL : SlR X (rSlL K) := w ▸ sl_list
theorem slT : SlR X (rSlA K) := w ▸ sl_tupA
theorem peFld {e : Expr} {f : Str} {pos : Pos} {ta : TE} (he : PE X e ta) (hb : attributeBase e f X.env (eval e X.env) = eval e X.env) : PE X (.Attribute e f pos) (tFld K ta f) := w ▸ pe_fld he hb
theorem paStar {e : Expr} {es : List Expr} {p : Pos} {te : TE} {t : TA} (he : PE X e te) (hr : PA X es t) (hs : starEach (.Starred e p :: es) X.env = (true, eval e X.env) :: starEach es X.env := by rfl) : PA X (.Starred e p :: es) (StX.tStar K te t) := w ▸ StX.pa_star he hr hs
theorem piL {tg e : Expr} {te : TE} (he : PE X e te) : PI X tg e (iList K te) := w ▸ pi_list he
theorem piT {tg e : Expr} {te : TE} (he : PE X e te) : PI X tg e (iTup K te) := w ▸ pi_tup he
theorem piQ {tg e : Expr} {te : TE} (he : PE X e te) : PI X tg e (iSeq K te) := w ▸ pi_seq he
theorem pgTup {es : List Expr} {k n : Nat} {pos : Pos} {t : TGs} (hc : X.calm = true) (h : PGs X es t) (hl : (assignEach es X.env).length = n := by rfl) (hst : (assignEach es X.env).findIdx? (·.1) = none := by rfl) : PG X (.Tuple es k pos) (gTup K n t) := w ▸ pg_tup hc h hl hst
theorem peRevL {e : Expr} {te : TE} {k : Nat} {p1 p2 p3 pos : Pos} (he : PE X e te) : PE X (.Subscript e (.Slice none none (some (.UnaryOp .USub (.Constant (.int 1) k p1) p2)) p3) pos) (tRevL K te) := w ▸ pe_revL he
theorem peRevT {e : Expr} {te : TE} {k : Nat} {p1 p2 p3 pos : Pos} (he : PE X e te) : PE X (.Subscript e (.Slice none none (some (.UnaryOp .USub (.Constant (.int 1) k p1) p2)) p3) pos) (tRevT K te) := w ▸ pe_revT he
theorem ptTruth {a : Expr} {ta : TE} (ha : PE X a ta) (he : ∀ whole, isTrue a X.env whole = (do let v ← whole; standAt a.pos; holding [v] (truthy v))) : PT X a (fun σ H Q => ta σ H fun x H' => ∃ k, TruV K x H' k ∧ Q k H') := w ▸ pt_truth ha he
theorem peJoin {o e : Expr} {to te : TE} {apos pos : Pos} (ho : PE X o to) (he : PE X e te) (hs : starEach [e] X.env = [(false, eval e X.env)] := by rfl) (hbase : attributeBase o "join" X.env (eval o X.env) = eval o X.env := by rfl) (hline : (apos.endLine == pos.line) = true := by rfl) :
    PE X (.Call (.Attribute o "join" apos) [e] [] pos) (tM1 (fun x xs H Q => ∃ (a : Str) (p : Addr) (ys : List Str), x = .str a ∧ xs = [.ref p] ∧ (SqL K H p (ys.map V.str) ∨ SqT K H p (ys.map V.str)) ∧
      (ys.map (·.length)).sum + ys.length * a.length ≤ 16777216 ∧ Q (.str (Txt.join a ys)) H) to te) := w ▸ pe_join ho he hs hbase hline
theorem peBm {o e : Expr} {es : List Expr} {T : String} {name : Str} {id : String} {r : V → List V → Hp → VK → Prop} {to : TE} {t : TA} {apos cpos : Pos} (pa : PlainAttrs T) (slot : Slot T name id) (hty : typeOf (.builtin id) = pure (.type "method_descriptor")) (hm : MtR X id r) (ho : PE X o to) (ha : PA X (e :: es) t)
    (hbase : attributeBase o name X.env (eval o X.env) = eval o X.env := by rfl)
    (hfew : ((backTo cpos (starEach (e :: es) X.env)).all (fun x => !x.1) && (backToKw cpos (keywordEach [] X.env)).all (fun x => x.1.isSome)
      && decide ((e :: es).length + ([] : List Keyword).length + (if ([] : List Keyword).isEmpty then 0 else 1) < 30)) = true := by rfl)
    (hline : (apos.endLine == cpos.line) = true := by rfl) (hs : starEach (e :: es) X.env = (false, eval e X.env) :: starEach es X.env := by rfl) (hplain : (backTo cpos (starEach es X.env)).any (·.1) = false := by rfl) :
    PE X (.Call (.Attribute o name apos) (e :: es) [] cpos) (tBM K T r to t) := w ▸ pe_bm pa slot hty hm ho ha hbase hfew hline hs hplain
theorem peBm0 {o : Expr} {T : String} {name : Str} {id : String} {r : V → List V → Hp → VK → Prop} {to : TE} {apos cpos : Pos} (pa : PlainAttrs T) (slot : Slot T name id) (hty : typeOf (.builtin id) = pure (.type "method_descriptor")) (hm : MtR X id r) (ho : PE X o to)
    (hbase : attributeBase o name X.env (eval o X.env) = eval o X.env := by rfl) (hline : (apos.endLine == cpos.line) = true := by rfl) : PE X (.Call (.Attribute o name apos) [] [] cpos) (tBM0 K T r to) := w ▸ pe_bm0 pa slot hty hm ho hbase hline
end
end Cm

/-! ## R3 -/
set_option maxHeartbeats 4000000
/-! Rules that the layer lacks: a lambda with a parameter, handed to a method, called there. -/
namespace Cm
open PySem PySem.Spec PyProof.Rows L2 Evl LamX NdefX
/-- the object at f is the lambda with the words F and the body b -/
def LamO (f : Addr) (F : NF) (b : Expr) : HO := .ext fun h => ∃ (od : Option Addr) (sl : Array (Option Value)) (pm ctv : Value), h.get? f = some (⟨.type "function", od, .func (PySem.W.kla_fn F.name F.qual F.params b F.scope F.cl pm (.ref F.c) ctv), sl⟩ : Obj)
theorem lamO_at {P : Program} {w : World} {H : Hp} {h : Heap} {f : Addr} {F : NF} {b : Expr} (hok : HOk P w H h) (e : H f = some (LamO f F b)) : ∃ (od : Option Addr) (sl : Array (Option Value)) (pm ctv : Value), h.get? f = some (⟨.type "function", od, .func (PySem.W.kla_fn F.name F.qual F.params b F.scope F.cl pm (.ref F.c) ctv), sl⟩ : Obj) := by
  obtain ⟨z, _, _⟩ := hok f _ e
  exact z
/-- what the table's words tell, and what is known of them -/
def TabK (ps : Array Value) (q : Str) (H : Hp) : Prop := TriplesOk ps.toList ∧ ∀ (pos : Pos) (cv : Value), codeAmong pos ps.toList = some cv → ∃ c, cv = .ref c ∧ H c = some (CodeO c q)
theorem TabK.mono {ps : Array Value} {q : Str} {H H' : Hp} (e : Ex H H') (t : TabK ps q H) : TabK ps q H' := ⟨t.1, fun pos cv h => by
  obtain ⟨c, e1, e2⟩ := t.2 pos cv h
  exact ⟨c, e1, e _ _ e2⟩⟩
theorem TabK.nil {q : Str} {H : Hp} : TabK #[] q H := ⟨True.intro, fun pos cv h => by
  have z : codeAmong pos [] = some cv := h
  simp [codeAmong] at z⟩
/-- the heap behind the making of a lambda -/
def LamMade (P : Addr) (q : Str) (F : Addr → NF) (b : Expr) (ps : Array Value) (H : Hp) (f c' : Addr) (H1 : Hp) : Prop :=
  (∃ ps' : Array Value, H c' = none ∧ c' ≠ f ∧ H f = none ∧ TriplesOk ps'.toList ∧ (∀ (pos : Pos) (cv : Value), codeAmong pos ps'.toList = some cv → codeAmong pos ps.toList = some cv ∨ cv = .ref c') ∧ H1 = upd (upd (upd H P (.tbl ps')) c' (CodeO c' q)) f (LamO f (F c') b)) ∨
  ((∃ pos, codeAmong pos ps.toList = some (.ref c')) ∧ H f = none ∧ H1 = upd H f (LamO f (F c') b))
def tLamE (P : Addr) (q : Str) (F : Addr → NF) (b : Expr) : TE := fun _ H Q => ∃ ps, H P = some (.tbl ps) ∧ TabK ps q H ∧ ∀ f c' H1, LamMade P q F b ps H f c' H1 → Q (.ref f) H1
/-- the lambda's words, made in X -/
abbrev lamF (X : Cx) (params : Arguments) (scope : Scope) (c' : Addr) : NF := ⟨"<lambda>", X.env.qual ++ "<lambda>", params, [], scope, cloFrom X.env.cells scope.names [], c'⟩
section
variable {X : Cx} {pins : List (Addr × Obj)} {σ : L2.St} {H : Hp} {s : Shared}
theorem inv_lam {F : NF} {b : Expr} {o : Obj} {t' : Nat} {pm ctv : Value} (I : Inv X pins σ H s) (ho : o = { cls := .type "function", data := .func (PySem.W.kla_fn F.name F.qual F.params b F.scope F.cl pm (.ref F.c) ctv) }) :
    Inv X pins σ (upd H s.heap.objs.size (LamO s.heap.objs.size F b)) { s with heap := s.heap.push o, toks := t' } := by
  subst ho
  refine I.laid (a := s.heap.objs.size) (fun b u e => Heap.get?_push_of_some _ e) (Nat.le_refl _) ?_
  have e : (s.heap.push ({ cls := .type "function", data := .func (PySem.W.kla_fn F.name F.qual F.params b F.scope F.cl pm (.ref F.c) ctv) } : Obj)).get? s.heap.objs.size = some ({ cls := .type "function", data := .func (PySem.W.kla_fn F.name F.qual F.params b F.scope F.cl pm (.ref F.c) ctv) } : Obj) := Heap.get?_push_size _ rfl
  exact ⟨⟨_, _, pm, ctv, e⟩, ⟨_, e⟩, fun h1 h2 ⟨od, sl, p, t, z⟩ st => ⟨od, sl, p, t, st _ z⟩⟩
/-- lambda x: b -/
theorem pe_lamE {c P : Addr} {params : Arguments} {b : Expr} {scope : Scope} {pos : Pos} (TB : TabB X.base X.mg c P) (hcode : X.env.code = .ref c) (hdef : defaultsOf params X.env = ([], []))
    (hfree : ∀ y ∈ scope.names, y.2 = .free → X.env.scope.names.lookup y.1 = some .cell ∨ X.env.scope.names.lookup y.1 = some .free) : PE X (.Lambda params b scope pos) (tLamE P (X.env.qual ++ "<lambda>") (lamF X params scope) b) := by
  refine ⟨fun pins s σ H Q I h => ?_⟩
  obtain ⟨ps, hP, ⟨ht, ha⟩, k⟩ := h
  refine PySem.W.kla_eval hdef ?_
  have hfr : ∀ y ∈ scope.names, y.2 = .free → ∃ c, X.env.cells.lookup y.1 = some c := fun y hy e => (hfree y hy e).elim (fun z => I.ok.has _ (.inl z)) fun z => I.ok.has _ (.inr z)
  have bP : s.heap.BuiltinsAt X.mg P := TB.bm.keeps I.bk
  have hP' : s.heap.get? P = some { cls := .none, data := .fields ps } := I.hok P _ hP
  cases hc : codeAmong pos ps.toList with
  | none =>
    refine PySem.W.kla_makeFunction (mg := X.mg) (c := c) (P := P) (ps := ps) (closure_ok hfr) I.ok.glob (I.mod.glob.keeps I.bk) hcode (TB.code.keeps I.bk) hP' ht hc TB.gP bP fun c' ctv h' tk hx hge hlt hrec htb => ?_
    obtain ⟨c2, oc, vs, t, e2, hoc, hd, hv⟩ := hrec
    cases e2
    have nC : H c' = none := I.hok.fresh hge
    have I1 := inv_table (t' := tk) (more := #[rawInt pos.line, rawInt pos.col, .ref c']) (h' := h') I hP (fun b o hb e => hx b o hb e) htb hge ⟨oc, vs, t, hoc, hd, hv⟩
    have I2 := inv_lam (F := lamF X params scope c') (b := b) (t' := tk) (pm := (X.mg "__name__").getD .none) (ctv := ctv) I1 rfl
    have eL : (ps ++ #[rawInt pos.line, rawInt pos.col, .ref c']).toList = ps.toList ++ [rawInt pos.line, rawInt pos.col, .ref c'] := by simp
    refine ⟨.ref h'.objs.size, _, I2, rfl, k h'.objs.size c' _ (.inl ⟨_, nC, Nat.ne_of_lt hlt, I.hok.fresh (Nat.le_trans hge (Nat.le_of_lt hlt)), by rw [eL]; exact PySem.TriplesOk_snoc _ _ _ _ ht, fun p' cv hcv => ?_, rfl⟩)⟩
    rw [eL] at hcv
    exact among_app _ ht hcv
  | some cv =>
    obtain ⟨c', e, hco⟩ := ha pos cv hc
    subst e
    refine PySem.W.kla_makeFunctionHit (mg := X.mg) (c := c) (P := P) (ps := ps) (closure_ok hfr) I.ok.glob (I.mod.glob.keeps I.bk) hcode (TB.code.keeps I.bk) hP' ht hc bP fun ctv h' tk hx hsz => ?_
    have I1 : Inv X pins σ H { s with heap := h', toks := tk } := I.kept hx
    have I2 := inv_lam (F := lamF X params scope c') (b := b) (t' := tk) (pm := (X.mg "__name__").getD .none) (ctv := ctv) I1 rfl
    exact ⟨.ref h'.objs.size, _, I2, rfl, k h'.objs.size c' _ (.inr ⟨⟨_, hc⟩, I1.hok.fresh (Nat.le_refl _), rfl⟩)⟩
/-- what the cells held when the frame began they hold still -/
theorem cells_later {cl : List (Str × Addr)} {fr : List Str} {ws : List (Option V)} (C : CellsAt cl fr ws X.s_0.heap X.H_0) (hx : ∀ b, b ∉ X.ex) (I : Inv X pins σ H s) : CellsAt cl fr ws s.heap H := by
  have kp : ∀ y c, cl.lookup y = some c → ∀ v, X.s_0.heap.IsCell c v → s.heap.IsCell c v := fun y c e v ⟨o, ho, hd⟩ => by
    obtain ⟨sl, q⟩ := I.base.any ho (C.all y c e).1 (hx c)
    exact ⟨_, q, hd⟩
  refine ⟨C.len, fun y c e => ?_, C.inj, fun i y e => ?_⟩
  · obtain ⟨n, v, z⟩ := C.all y c e
    refine ⟨?_, v, kp y c e v z⟩
    obtain ⟨o, ho, _⟩ := z
    exact I.base.free c o ho n (hx c)
  · obtain ⟨c, hc, hv⟩ := C.has i y e
    refine ⟨c, hc, fun v ev => ?_⟩
    obtain ⟨u, r, z⟩ := hv v ev
    exact ⟨u, r, kp y c hc _ z⟩
end
/-- a lambda is run -/
theorem run_lam {P : Program} {w : World} {K : PySem.W.Frag} {mg : Str → Option Value} {base : Heap} {k : Nat} {f : Addr} {F : NF} {b : Expr} {N ps fr : List Str} {tb : TE} (S : NScope N ps fr F.scope)
    (hb : ∀ (pm ctv : Value) (us : List Value), us.length = ps.length → bindArgs (PySem.W.kla_fn F.name F.qual F.params b F.scope F.cl pm (.ref F.c) ctv) ⟨us, []⟩ = pure (ps.zip us))
    (hbody : ∀ (A : Around) (outer : List Env) (s : Shared) (H : Hp), Room k (A.deeper (envF F f s.heap.objs.size)) → PE (ncx C8.CX0 P w K mg base N F f A outer s H C8.E0) b tb)
    {A : Around} {outer : List Env} {s : Shared} {H : Hp} {us : List Value} {vs : List V} {ws : List (Option V)} {Q : VK} (hr : Room (k + 1) A) (e0 : Env0 P w K mg base A outer s H) (hf : H f = some (LamO f F b)) (hc : H F.c = some (CodeO F.c F.qual))
    (C : CellsAt F.cl fr ws s.heap H) (r : Vals vs us) (hl : vs.length = ps.length) (q : tb (startF N vs ws) H Q) : codeAny (model P w) A (.call (.ref f) ⟨us, []⟩) (CR C8.CX0 outer P w H s Q C8.E0) s := by
  have lim : s.heap.NoLimit := e0.mod.nolimit.keeps fun b o e => (e0.bs b o e).1
  obtain ⟨od, sl, pm, ctv, ho⟩ := lamO_at e0.hok hf
  refine PySem.W.kla_callFunE hr.depth ho rfl S.co S.gen rfl (codeO_at e0.hok hc) ?_
  rw [hb pm ctv us (by rw [← r.length]; exact hl)]
  refine wpAny_pure (wpAny_newFunctionEnv S.nocell (fun ⟨n, _⟩ hy => S.par n (List.of_mem_zip hy).1) (fun h₁ hns hsb => ⟨lim.fresh _ hsb, ?_⟩) S.kind)
  show codeAny _ _ (.expr b (envF F f s.heap.objs.size)) _ _
  have kp : ∀ b o, s.heap.get? b = some o → h₁.get? b = some o := fun b o e => hsb.extBut b o (Nat.ne_of_lt (Heap.lt_size e)) (Heap.get?_push_of_some _ e)
  have I : Inv (ncx C8.CX0 P w K mg base N F f A outer s H C8.E0) [] (startF N vs ws) H { s with heap := h₁, toks := s.toks + (ps.zip us).length } := inv_startN S hr.hd e0 hl r C hns kp
  refine PySem.W.kla_codeExpr (wpAny_mono ((hbody A outer s H (hr.deeper _)).run [] _ _ H Q I q) (fun v s' hq => ?_) fun e s' hq => hq)
  obtain ⟨w', H', J, rv, q'⟩ := hq
  exact ⟨w', H', J.os, J.bare, J.base, J.hok, rv, q'⟩
/-- f(..), f a local name that holds the lambda -/
def tDeed (i : Nat) (F : Addr → NF) (b : Expr) (N : List Str) (n : Nat) (ws : List (Option V)) (t : TA) (tb : TE) : TE := fun σ H Q => ∃ f c', σ[i]? = some (some (.ref f)) ∧ H f = some (LamO f (F c') b) ∧
  t σ H fun vs H2 => vs.length = n ∧ H2 f = some (LamO f (F c') b) ∧ H2 (F c').c = some (CodeO (F c').c (F c').qual) ∧ tb (startF N vs ws) H2 Q
theorem pe_deed {Z : Cx} {k j i : Nat} {F : Addr → NF} {b : Expr} {N ps fr : List Str} {tb : TE} {cl : List (Str × Addr)} {ws : List (Option V)} {x : Str} {e : Expr} {es : List Expr} {p pos : Pos} {t : TA} (hcl : ∀ c', (F c').cl = cl) (S : ∀ c', NScope N ps fr (F c').scope)
    (hb : ∀ (c' : Addr) (pm ctv : Value) (us : List Value), us.length = ps.length → bindArgs (PySem.W.kla_fn (F c').name (F c').qual (F c').params b (F c').scope (F c').cl pm (.ref (F c').c) ctv) ⟨us, []⟩ = pure (ps.zip us))
    (hbody : ∀ (f c' : Addr) (A : Around) (outer : List Env) (s : Shared) (H : Hp), Room k (A.deeper (envF (F c') f s.heap.objs.size)) → PE (ncx C8.CX0 Z.prog Z.w Z.K Z.mg Z.base N (F c') f A outer s H C8.E0) b tb)
    (C : CellsAt cl fr ws Z.s_0.heap Z.H_0) (hx : ∀ b, b ∉ Z.ex) (hr : Room j Z.A) (hk : k + 1 ≤ j) (hN : Z.N[i]? = some x) (hv : Vis Z.env.scope x) (ha : PA Z (e :: es) t)
    (hd : (x == ("__debug__" : Str)) = false := by decide) (hcd : (x == ("__classdict__" : Str)) = false := by decide)
    (he : starEach (e :: es) Z.env = (false, eval e Z.env) :: starEach es Z.env := by rfl) (hpl : (backTo pos (starEach es Z.env)).any (·.1) = false := by rfl) :
    PE Z (.Call (.Name x p) (e :: es) [] pos) (tDeed i F b N ps.length ws t tb) := by
  refine ⟨fun pins s σ H Q I h => ?_⟩
  obtain ⟨f, c', hs, hf, ht⟩ := h
  refine wpAny_Call_Name_kw (thn ((pe_var (pos := p) hN hv hd hcd).run pins s σ H (fun v H1 => v = .ref f ∧ H1 = H) I ⟨.ref f, hs, rfl, rfl⟩) fun u s1 ⟨v, H1, I1, r1, q1⟩ => ?_)
  obtain ⟨ev, eH⟩ := q1
  subst ev
  rw [eH] at I1
  obtain rfl : u = Value.ref f := r1
  have fa : ∀ {H : Hp} {s : Shared}, Inv Z pins σ H s → H f = some (LamO f (F c') b) → PySem.W.FnAt f s.heap := fun I e => by
    obtain ⟨od, sl, pm, ctv, ho⟩ := lamO_at I.hok e
    exact ⟨_, od, _, sl, ho⟩
  refine PySem.W.callWith_F (first := []) (fa I1 hf) (thn (ha.run pos pins s1 σ H _ I1 ht) fun us s2 ⟨vs, H2, I2, r, hl, h1, h2, q⟩ => ⟨fa I2 h1, ?_⟩) he hpl
  show wpAny _ _ (call (.ref f) us) _ _ _
  refine wpAny_call (codeAny_mono (run_lam (S c') (hb c') (hbody f c') (hr.mono hk) I2.env0 h1 h2 (by rw [hcl c']; exact cells_later C hx I2) r hl q) fun r s' hq => ?_)
  cases r with
  | error e => exact (show False from hq).elim
  | ok fl =>
    cases fl with
    | ret u => exact I2.after hq
    | next => exact False.elim hq
    | brk => exact False.elim hq
    | cont => exact False.elim hq
/-- o.m(..), the method walked here, with what the running frame's cells hold -/
def tMethS (C : Addr) (m : Str) (js : List Nat) (sp : List (Option V) → List V → Hp → VK → Prop) (ta : TE) (t : TA) : TE := fun σ H Q => ta σ H fun x H1 => ∃ a dx fs, x = .ref a ∧ H1 a = some (.ins C dx fs) ∧ fs.lookup m = none ∧ t σ H1 fun vs H2 => sp (js.map (slotAt σ)) (x :: vs) H2 Q
theorem pe_methS {X : Cx} {k j : Nat} {C g : Addr} {fd : FuncData} {qn m : Str} {params : Arguments} {body : List Stmt} {sc scope : Scope} {N ps fr : List Str} {js : List Nat} {sp : List (Option V) → List V → Hp → VK → Prop} {o e : Expr} {es : List Expr} {apos pos : Pos} {ta : TE} {t : TA} {pl : Sem Bool}
    (F : FunD X.K m qn params body sc [] [] g fd) (hbd : Binds X.K fd ps []) (hc : Cls X.K C) (hm : Meth X.K C m g) (S : FnScope N ps sc) (len : ∀ ws vs H Q, sp ws vs H Q → vs.length = ps.length) (hr : Room j X.A) (hk : k + 1 ≤ j)
    (hfree : ∀ y ∈ scope.names, y.2 = .free → X.env.scope.names.lookup y.1 = some .cell ∨ X.env.scope.names.lookup y.1 = some .free) (hfr : ∀ y ∈ fr, (y, NameKind.free) ∈ scope.names) (hjs : js.map (fun j => X.N[j]?) = fr.map some)
    (hG : ∀ (cdv : Value) (A : Around) (outer : List Env) (s : Shared) (H : Hp) (ws : List (Option V)), Room k (A.deeper (envOfC qn sc s.heap.objs.size g cdv)) → CellsAt (cloFrom X.env.cells scope.names []) fr ws s.heap H →
      ∃ t, PSs (cxOf C8.CX0 X.prog X.w X.K X.mg X.base N qn sc g cdv A outer s H C8.E0).nox body t ∧ ∀ vs Q, sp ws vs H Q → t { nx := fun _ H' => Q .non H', rt := Q } (start N vs) H)
    (ho : PE X o ta) (ha : PA X (e :: es) t)
    (hst : starEach (e :: es) X.env = (false, eval e X.env) :: starEach es X.env := by rfl) (hpl : (backTo pos (starEach es X.env)).any (·.1) = false := by rfl)
    (ht : eval (.Call (.Attribute o m apos) (e :: es) [] pos) X.env = (do
      let ov ← eval o X.env
      standAt apos.atName
      let (f, first) ← holding [ov] (getMethod ov m pl)
      callWith pos f first (backTo pos (starEach (e :: es) X.env)) (backToKw pos (keywordEach [] X.env))) := by rfl) :
    PE X (.Call (.Attribute o m apos) (e :: es) [] pos) (tMethS C m js sp ta t) := by
  obtain ⟨oc, od, dV, kV, doc, pm, an, cdv, ct, osl, rfl, lk, hcd, _, _⟩ := F.ex
  refine ⟨fun pins s σ H Q I h => ?_⟩
  refine PySem.W.methodCall_KW (pl := pl) (thn (ho.run pins s σ H _ I h) fun u s1 ⟨x, H1, I1, rx, a, dx, fs, ex, ea, l, q⟩ => ?_) ht
  subst ex
  obtain rfl : u = Value.ref a := rx
  refine getmeth_ok I1 ea hc hm l ?_
  refine PySem.W.callWith_K (first := [.ref a]) (h₀ := X.base) I.ok.mod.kin hm.kp (thn (ha.run pos pins s1 σ H1 _ I1 q) fun us s2 ⟨vs, H2, I2, r, q2⟩ => ⟨I2.kIn, ?_⟩) hst hpl
  have hC := cells_of I2 (Caps.made (X := X) (fr := fr) (js := js) I2.ok hfree hfr hjs)
  have hl := len _ _ _ _ q2
  have rr : Vals (V.ref a :: vs) (.ref a :: us) := .cons rfl r
  show wpAny _ _ (call (.ref g) (.ref a :: us)) _ _ _
  have rc : codeAny (model X.prog X.w) X.A (.call (.ref g) ⟨.ref a :: us, []⟩) (CR C8.CX0 X.stack X.prog X.w H2 s2 Q C8.E0) s2 := by
    refine run_ofS (k := k) (N := N) (ps := ps) (us := .ref a :: us) (vs := .ref a :: vs) lk hcd S (hr.mono hk) I2.env0 ?_ rr hl fun hr' => ?_
    · have := hbd s2 (.ref a :: us) I2.kIn (by rw [List.append_nil, ← rr.length]; exact hl)
      rwa [List.append_nil] at this
    · obtain ⟨t', ht', hq'⟩ := hG cdv X.A X.stack s2 H2 _ hr' hC
      exact ⟨t', ht'.nox, hq' _ _ q2⟩
  refine wpAny_call (codeAny_mono rc fun r s3 hq => ?_)
  cases r with
  | error e => exact (show False from hq).elim
  | ok fl =>
    cases fl with
    | ret u => exact I2.after hq
    | next => exact False.elim hq
    | brk => exact False.elim hq
    | cont => exact False.elim hq
end Cm

/-! ## C1 -/
set_option maxHeartbeats 4000000
/-! What the rules' readings give: by values, by new things, by walks. -/
namespace Cm
open PySem PySem.Spec PyProof.Rows L2 Evl
/-- a new thing, o -/
def NewO (K : Hp) (o : HO) : V → Hp → Prop := fun v S => ∃ p, v = V.ref p ∧ K p = none ∧ S p = some o
section
variable {α β : Type} {g : Bg} {K S : Hp} {Kf : PySem.W.Frag} {σ : L2.St} {f : Hp → VK → Prop} {v x y : V} {o : HO} {te ta tb : TE} {tr : TA} {R : V → Hp → Prop}
theorem w_val {α : Type} {v : α} {f : Hp → (α → Hp → Prop) → Prop} (h : ∀ H, Ex K H → ∀ Q : α → Hp → Prop, Q v H → f H Q) : W g f K (Is v) := fun K2 H e a Q q => h H (e.trans a.kh) Q (q v K2 H a rfl)
theorem w_new (h : ∀ H, Ex K H → ∀ Q : VK, (∀ p, H p = none → Q (.ref p) (upd H p o)) → f H Q) : W g f K (NewO K o) := fun K2 H e a Q q =>
  h H (e.trans a.kh) Q fun p hp => q _ _ _ (a.laid hp) ⟨p, rfl, e.free (a.kh.free hp), upd_same⟩
/-! operators -/
theorem w_ixL {p : Addr} {xs : List V} {i : Int} (h : SqL Kf K p xs) (ha : atI xs i = some v) : W g (rIxL Kf (.ref p) (.int i)) K (Is v) := w_val fun H e Q q => ⟨p, xs, i, v, rfl, rfl, ex_l e h, ha, q⟩
theorem w_ixT {p : Addr} {xs : List V} {i : Int} (h : SqT Kf K p xs) (ha : atI xs i = some v) : W g (rIxT Kf (.ref p) (.int i)) K (Is v) := w_val fun H e Q q => ⟨p, xs, i, v, rfl, rfl, ex_t e h, ha, q⟩
theorem w_ixQL {p : Addr} {xs : List V} {i : Int} (h : SqL Kf K p xs) (ha : atI xs i = some v) : W g (rIx Kf (.ref p) (.int i)) K (Is v) := w_val fun H e Q q => .inl ⟨p, xs, i, v, rfl, rfl, ex_l e h, ha, q⟩
theorem w_ixQT {p : Addr} {xs : List V} {i : Int} (h : SqT Kf K p xs) (ha : atI xs i = some v) : W g (rIx Kf (.ref p) (.int i)) K (Is v) := w_val fun H e Q q => .inr (.inl ⟨p, xs, i, v, rfl, rfl, ex_t e h, ha, q⟩)
theorem w_ixS {z : Str} {i : Int} {c : Nat} (h : z.length ≤ 100000) (ha : atI z.cps.toList i = some c) : W g (rIxS (.str z) (.int i)) K (Is (.str ⟨#[c]⟩)) := w_val fun H e Q q => ⟨z, i, c, rfl, rfl, sz_of h, ha, q⟩
theorem w_cat {l b : Addr} {xs zs : List V} (h1 : K l = some (.lst xs)) (h2 : K b = some (.lst zs)) (hz : xs.length + zs.length ≤ 100000) : W g (rCat (.ref l) (.ref b)) K (NewO K (.lst (xs ++ zs))) :=
  w_new fun H e Q q => ⟨l, b, xs, zs, rfl, rfl, e _ _ h1, e _ _ h2, sz_of hz, q⟩
theorem w_addS {a b : Str} (hz : a.length + b.length ≤ 100000) : W g (fun H (Q : VK) => ∃ i j, V.str a = .str i ∧ V.str b = .str j ∧ i.length + j.length ≤ sizeLine ∧ Q (.str (i ++ j)) H) K (Is (.str (a ++ b))) :=
  w_val fun H e Q q => ⟨a, b, rfl, rfl, sz_of hz, q⟩
theorem w_inSign {c : Nat} {z : Str} : W g (fun H (Q : VK) => ∃ (d : Nat) (y : Str), V.str ⟨#[c]⟩ = .str ⟨#[d]⟩ ∧ V.str z = .str y ∧ Q (.bl (decide (d ∈ y.cps.toList))) H) K (Is (.bl (decide (c ∈ z.cps.toList)))) :=
  w_val fun H e Q q => ⟨c, z, rfl, rfl, q⟩
theorem w_notInSign {c : Nat} {z : Str} : W g (fun H (Q : VK) => ∃ (d : Nat) (y : Str), V.str ⟨#[c]⟩ = .str ⟨#[d]⟩ ∧ V.str z = .str y ∧ Q (.bl (!decide (d ∈ y.cps.toList))) H) K (Is (.bl (!decide (c ∈ z.cps.toList)))) :=
  w_val fun H e Q q => ⟨c, z, rfl, rfl, q⟩
/-- data that is known -/
theorem w_eqD {d e : PyData} (h1 : ∀ H, Ex K H → Dp Kf H x d) (h2 : ∀ H, Ex K H → Dp Kf H y e) (s1 : SeqAt.shaped d = true) (s2 : SeqAt.shaped e = true) : W g (rEqD Kf x y) K (Is (.bl (PyData.eqv d e))) :=
  w_val fun H ex Q q => ⟨d, e, h1 H ex, h2 H ex, s1, s2, q⟩
theorem w_neD {d e : PyData} (h1 : ∀ H, Ex K H → Dp Kf H x d) (h2 : ∀ H, Ex K H → Dp Kf H y e) (s1 : SeqAt.shaped d = true) (s2 : SeqAt.shaped e = true) : W g (rNeD Kf x y) K (Is (.bl (!PyData.eqv d e))) :=
  w_val fun H ex Q q => ⟨d, e, h1 H ex, h2 H ex, s1, s2, q⟩
theorem w_inQ {p : Addr} {xs : List V} (h : SqL Kf K p xs) (hx : flatV x = true) (ha : xs.all flatV = true) : W g (rIn Kf false x (.ref p)) K (Is (.bl (inV x xs))) :=
  w_val fun H e Q q => ⟨p, xs, rfl, .inl (ex_l e h), hx, ha, q⟩
/-! built-ins -/
theorem w_lenL {p : Addr} {xs : List V} (h : SqL Kf K p xs) : W g (rLenS Kf [.ref p]) K (Is (.int (xs.length : Int))) := w_val fun H e Q q => ⟨p, xs, rfl, .inl (ex_l e h), q⟩
theorem w_lenT {p : Addr} {xs : List V} (h : SqT Kf K p xs) : W g (rLenS Kf [.ref p]) K (Is (.int (xs.length : Int))) := w_val fun H e Q q => ⟨p, xs, rfl, .inr (ex_t e h), q⟩
theorem w_lenS {z : Str} (h : z.length ≤ 100000) : W g (fun H (Q : VK) => ∃ y : Str, [V.str z] = [.str y] ∧ y.length ≤ sizeLine ∧ Q (.int y.length) H) K (Is (.int (z.length : Int))) := w_val fun H e Q q => ⟨z, rfl, sz_of h, q⟩
theorem w_lenOwn {C p dx : Addr} {fs : List (Str × V)} {sp : Sp} {n : Int} (h : K p = some (.ins C dx fs)) (h0 : 0 ≤ n ∧ n < 2 ^ 63) (hs : SpW g sp [.ref p] K (Is (.int n))) : W g (rLenOwn C sp [.ref p]) K (Is (.int n)) :=
  fun K2 H e a Q q => ⟨p, dx, fs, rfl, a.kh _ _ (e _ _ h), hs C8.E0 K2 H e a _ fun v S H' b hv => ⟨n, hv, h0.1, h0.2, by cases hv; exact q _ S H' b rfl⟩⟩
theorem w_isi {c : V} {t u : Value} {b : Bool} (hc : ClsV c u) (ht : ∀ H, Ex K H → TyX Kf H x t) (hk : PySem.W.kitOne Kf t u = some b) : W g (rIsi Kf [x, c]) K (Is (.bl b)) := w_val fun H e Q q => ⟨x, c, t, u, b, rfl, hc, ht H e, hk, q⟩
theorem w_isiI {i : Int} {n : String} {b : Bool} (hk : kitB "int" n = some b) : W g (rIsi Kf [.int i, .ty n]) K (Is (.bl b)) := w_isi (.ty n) (fun _ _ => .base (.int i)) (kit_ty hk)
theorem w_isiB {i : Bool} {n : String} {b : Bool} (hk : kitB "bool" n = some b) : W g (rIsi Kf [.bl i, .ty n]) K (Is (.bl b)) := w_isi (.ty n) (fun _ _ => .base (.bl i)) (kit_ty hk)
theorem w_isiS {i : Str} {n : String} {b : Bool} (hk : kitB "str" n = some b) : W g (rIsi Kf [.str i, .ty n]) K (Is (.bl b)) := w_isi (.ty n) (fun _ _ => .base (.str i)) (kit_ty hk)
theorem w_isiL {p : Addr} {xs : List V} {n : String} {b : Bool} (h : K p = some (.lst xs)) (hk : kitB "list" n = some b) : W g (rIsi Kf [.ref p, .ty n]) K (Is (.bl b)) := w_isi (.ty n) (fun H e => .base (.lst (e _ _ h))) (kit_ty hk)
theorem w_isiT {p : Addr} {xs : List V} {n : String} {b : Bool} (h : K p = some (.tup xs)) (hk : kitB "tuple" n = some b) : W g (rIsi Kf [.ref p, .ty n]) K (Is (.bl b)) := w_isi (.ty n) (fun H e => .base (.tup (e _ _ h))) (kit_ty hk)
theorem w_sum {p : Addr} {ns : List Int} (h : SqL Kf K p (ns.map V.int)) : W g (rSum Kf [.ref p]) K (Is (.int ns.sum)) := w_val fun H e Q q => ⟨p, ns, rfl, ex_l e h, q⟩
theorem w_max {p : Addr} {ns : List Int} {m : Int} (h : SqL Kf K p (ns.map V.int)) (hm : m ∈ ns) (hx : ∀ y ∈ ns, y ≤ m) : W g (rMax Kf [.ref p]) K (Is (.int m)) :=
  w_val fun H e Q q => ⟨p, ns, rfl, ex_l e h, List.length_pos_of_mem hm, fun k k1 k2 => by
    have : k = m := Int.le_antisymm (hx k k1) (k2 m hm)
    rw [this]; exact q⟩
theorem w_all {p : Addr} {bs : List Bool} (h : SqL Kf K p (bs.map V.bl)) : W g (rAll Kf [.ref p]) K (Is (.bl (bs.all id))) := w_val fun H e Q q => ⟨p, bs, rfl, ex_l e h, q⟩
theorem w_listL {p : Addr} {xs : List V} (h : SqL Kf K p xs) : W g (rListS Kf [.ref p]) K (NewO K (.lst xs)) := w_new fun H e Q q => ⟨p, xs, rfl, .inl (ex_l e h), q⟩
theorem w_listT {p : Addr} {xs : List V} (h : SqT Kf K p xs) : W g (rListS Kf [.ref p]) K (NewO K (.lst xs)) := w_new fun H e Q q => ⟨p, xs, rfl, .inr (ex_t e h), q⟩
theorem w_tupL {p : Addr} {xs : List V} (h : SqL Kf K p xs) : W g (fun H (Q : VK) => ∃ q ys, [V.ref p] = [.ref q] ∧ ((SqL Kf H q ys ∧ ∀ l, H l = none → Q (.ref l) (upd H l (.tup ys))) ∨ (SqT Kf H q ys ∧ Q (.ref q) H))) K (NewO K (.tup xs)) :=
  w_new fun H e Q q => ⟨p, xs, rfl, .inl ⟨ex_l e h, q⟩⟩
theorem w_tupT {p : Addr} {xs : List V} (h : SqT Kf K p xs) : W g (fun H (Q : VK) => ∃ q ys, [V.ref p] = [.ref q] ∧ ((SqL Kf H q ys ∧ ∀ l, H l = none → Q (.ref l) (upd H l (.tup ys))) ∨ (SqT Kf H q ys ∧ Q (.ref q) H))) K (Is (.ref p)) :=
  w_val fun H e Q q => ⟨p, xs, rfl, .inr ⟨ex_t e h, q⟩⟩
theorem w_abs {i : Int} : W g (fun H (Q : VK) => ∃ j : Int, [V.int i] = [.int j] ∧ Q (.int (if j < 0 then -j else j)) H) K (Is (.int (if i < 0 then -i else i))) := w_val fun H e Q q => ⟨i, rfl, q⟩
theorem w_int1 {i : Int} : W g (fun H (Q : VK) => (∃ j, [V.int i] = [.int j] ∧ Q (.int j) H) ∨ ∃ k, [V.int i] = [.bl k] ∧ Q (.int (if k then 1 else 0)) H) K (Is (.int i)) := w_val fun H e Q q => .inl ⟨i, rfl, q⟩
theorem w_intB {b : Bool} : W g (fun H (Q : VK) => (∃ j, [V.bl b] = [.int j] ∧ Q (.int j) H) ∨ ∃ k, [V.bl b] = [.bl k] ∧ Q (.int (if k then 1 else 0)) H) K (Is (.int (if b then 1 else 0))) := w_val fun H e Q q => .inr ⟨b, rfl, q⟩
theorem w_intS {a : Str} {n : Int} (h : PySem.intText? a = some n) (hz : a.length ≤ 640) : W g (fun H (Q : VK) => ∃ z m, [V.str a] = [.str z] ∧ PySem.intText? z = some m ∧ z.length ≤ 640 ∧ Q (.int m) H) K (Is (.int n)) := w_val fun H e Q q => ⟨a, n, rfl, h, hz, q⟩
theorem w_str {i : Int} (h : i.natAbs.log2 < 1920) : W g (fun H (Q : VK) => ∃ j : Int, [V.int i] = [.int j] ∧ j.natAbs.log2 < 1920 ∧ Q (.str (toString j)) H) K (Is (.str (toString i))) := w_val fun H e Q q => ⟨i, rfl, h, q⟩
theorem w_max2 {i j : Int} : W g (fun H (Q : VK) => ∃ a b : Int, [V.int i, V.int j] = [.int a, .int b] ∧ Q (.int (if b > a then b else a)) H) K (Is (.int (max i j))) := w_val fun H e Q q => ⟨i, j, rfl, by
  have : max i j = if j > i then j else i := by split <;> omega
  rw [← this]; exact q⟩
theorem w_min2 {i j : Int} : W g (fun H (Q : VK) => ∃ a b : Int, [V.int i, V.int j] = [.int a, .int b] ∧ Q (.int (if b < a then b else a)) H) K (Is (.int (min i j))) := w_val fun H e Q q => ⟨i, j, rfl, by
  have : min i j = if j < i then j else i := by split <;> omega
  rw [← this]; exact q⟩
theorem w_listTxt {z : Str} (h : z.length ≤ 100000) : W g (rListTxt [.str z]) K (NewO K (.lst (z.cps.toList.map fun c => V.str ⟨#[c]⟩))) := w_new fun H e Q q => ⟨z, rfl, sz_of h, q⟩
theorem w_sortedTxt {z : Str} (h : z.length ≤ 100000) {R : V → Hp → Prop} (hr : ∀ (ss : List Str) (p : Addr) (S : Hp), ss.Perm (z.cps.toList.map fun c => ⟨#[c]⟩) → sortedS ss = true → S p = some (.lst (ss.map V.str)) → R (.ref p) S) : W g (rSortedTxt [.str z]) K R :=
  fun K2 H e a Q q => ⟨z, rfl, sz_of h, fun ss p h1 h2 hp => q _ _ _ (a.laid hp) (hr ss p _ h1 h2 upd_same)⟩
theorem w_sortedDK {d : Addr} {kvs : List (Key × V)} {ks : List Int} (h : K d = some (.dK kvs)) (hk : kvs.map (·.1) = ks.map Sum.inl) {R : V → Hp → Prop} (hr : ∀ (ys : List Int) (p : Addr) (S : Hp), ys.Perm ks → ys.Pairwise (· ≤ ·) → S p = some (.lst (ys.map V.int)) → R (.ref p) S) : W g (rSortedDK [.ref d]) K R :=
  fun K2 H e a Q q => ⟨d, kvs, ks, rfl, .inl (a.kh _ _ (e _ _ h)), hk, fun ys p h1 h2 hp => q _ _ _ (a.laid hp) (hr ys p _ h1 h2 upd_same)⟩
/-! texts' methods -/
theorem w_m1 {r : V → List V → Hp → VK → Prop} {z : Str} {y : V} (ho : W g (ta σ) K (Is (.str z))) (ha : W g (tb σ) K (Is y)) (hr : W g (r (.str z) [y]) K R) : W g (tM1 r ta tb σ) K R :=
  ho.bindI (h := fun (x : V) (H : Hp) (Q : VK) => (∃ a, x = .str a) ∧ tb σ H fun y H2 => r x [y] H2 Q) fun K2 H e a Q q => ⟨⟨z, rfl⟩, ha.bindI (h := fun (y : V) (H : Hp) (Q : VK) => r (.str z) [y] H Q) hr K2 H e a Q q⟩
theorem w_m1R {r : V → List V → Hp → VK → Prop} {z : Str} {Ra : V → Hp → Prop} (ho : W g (ta σ) K (Is (.str z))) (ha : W g (tb σ) K Ra) (hr : ∀ y S, Ex K S → Ra y S → W g (r (.str z) [y]) S R) : W g (tM1 r ta tb σ) K R :=
  ho.bindI (h := fun (x : V) (H : Hp) (Q : VK) => (∃ a, x = .str a) ∧ tb σ H fun y H2 => r x [y] H2 Q) fun K2 H e a Q q => ⟨⟨z, rfl⟩, ha.bind (h := fun (y : V) (H : Hp) (Q : VK) => r (.str z) [y] H Q) hr K2 H e a Q q⟩
theorem w_join {p : Addr} {a : Str} {ys : List Str} (h : SqL Kf K p (ys.map V.str)) (hz : (ys.map (·.length)).sum + ys.length * a.length ≤ 16777216) :
    W g (fun H (Q : VK) => ∃ (b : Str) (q : Addr) (zs : List Str), V.str a = .str b ∧ [V.ref p] = [.ref q] ∧ (SqL Kf H q (zs.map V.str) ∨ SqT Kf H q (zs.map V.str)) ∧ (zs.map (·.length)).sum + zs.length * b.length ≤ 16777216 ∧ Q (.str (Txt.join b zs)) H) K (Is (.str (Txt.join a ys))) :=
  w_val fun H e Q q => ⟨a, p, ys, rfl, rfl, .inl (ex_l e h), hz, q⟩
theorem w_count {a b : Str} : W g (fun H (Q : VK) => ∃ c d, V.str a = .str c ∧ [V.str b] = [.str d] ∧ Q (.int (Txt.count c d)) H) K (Is (.int (Txt.count a b))) := w_val fun H e Q q => ⟨a, b, rfl, rfl, q⟩
/-! slices -/
theorem w_sl {r : V → Option Int → Option Int → Hp → VK → Prop} {tl th : TO} {lo hi : Option Int} (ho : W g (ta σ) K (Is x)) (hl : W g (tl σ) K (Is lo)) (hh : W g (th σ) K (Is hi)) (hr : W g (r x lo hi) K R) : W g (tSl r ta tl th σ) K R :=
  ho.bindI (h := fun (x : V) (H : Hp) (Q : VK) => tl σ H fun l H2 => th σ H2 fun u H3 => r x l u H3 Q) (hl.bindI (h := fun (l : Option Int) (H : Hp) (Q : VK) => th σ H fun u H3 => r x l u H3 Q) (hh.bindI (h := fun (u : Option Int) (H : Hp) (Q : VK) => r x lo u H Q) hr))
theorem w_slR {r : V → Option Int → Option Int → Hp → VK → Prop} {tl th : TO} {lo hi : Option Int} {Ra : V → Hp → Prop} (ho : W g (ta σ) K Ra) (hl : ∀ S, Ex K S → W g (tl σ) S (Is lo)) (hh : ∀ S, Ex K S → W g (th σ) S (Is hi)) (hr : ∀ x S, Ex K S → Ra x S → W g (r x lo hi) S R) : W g (tSl r ta tl th σ) K R :=
  ho.bind (h := fun (x : V) (H : Hp) (Q : VK) => tl σ H fun l H2 => th σ H2 fun u H3 => r x l u H3 Q) fun x S e hx => (hl S e).bindI (h := fun (l : Option Int) (H : Hp) (Q : VK) => th σ H fun u H3 => r x l u H3 Q) ((hh S e).bindI (h := fun (u : Option Int) (H : Hp) (Q : VK) => r x lo u H Q) (hr x S e hx))
theorem w_po0 : W g (tNoPart σ) K (Is none) := w_val fun H e Q q => q
theorem w_po1 {i : Int} (h : W g (te σ) K (Is (.int i))) : W g (tPart te σ) K (Is (some i)) := fun K2 H e a Q q => h K2 H e a _ fun v S H' b hv => ⟨i, hv, q _ S H' b rfl⟩
theorem w_slL {p : Addr} {xs : List V} {lo hi : Option Int} (h : SqL Kf K p xs) : W g (rSlL Kf (.ref p) lo hi) K (NewO K (.lst (cutV xs lo hi))) := w_new fun H e Q q => ⟨p, xs, rfl, ex_l e h, q⟩
theorem w_slS {z : Str} {lo hi : Option Int} (h : z.length ≤ 100000) : W g (C8.rSlX (.str z) lo hi) K (Is (.str (Txt.slice z lo hi))) := w_val fun H e Q q => ⟨z, rfl, sz_of h, q⟩
theorem w_slT {p : Addr} {xs : List V} {lo hi : Option Int} (h : SqT Kf K p xs) (hw : ¬ (HT.sIx xs.length 0 lo = 0 ∧ HT.sIx xs.length xs.length hi = xs.length)) : W g (rSlA Kf (.ref p) lo hi) K (NewO K (.tup (cutV xs lo hi))) :=
  w_new fun H e Q q => ⟨p, xs, rfl, ex_t e h, fun z => absurd z hw, fun _ => q⟩
theorem w_revL {p : Addr} {xs : List V} (ho : W g (te σ) K (Is (.ref p))) (h : SqL Kf K p xs) : W g (tRevL Kf te σ) K (NewO K (.lst xs.reverse)) :=
  ho.bindI (h := fun (x : V) (H : Hp) (Q : VK) => ∃ a xs, x = .ref a ∧ SqL Kf H a xs ∧ ∀ p, H p = none → Q (.ref p) (upd H p (.lst xs.reverse))) (w_new fun H e Q q => ⟨p, xs, rfl, ex_l e h, q⟩)
theorem w_revT {p : Addr} {xs : List V} (ho : W g (te σ) K (Is (.ref p))) (h : SqT Kf K p xs) : W g (tRevT Kf te σ) K (NewO K (.tup xs.reverse)) :=
  ho.bindI (h := fun (x : V) (H : Hp) (Q : VK) => ∃ a xs, x = .ref a ∧ SqT Kf H a xs ∧ ∀ p, H p = none → Q (.ref p) (upd H p (.tup xs.reverse))) (w_new fun H e Q q => ⟨p, xs, rfl, ex_t e h, q⟩)
/-! ranges made lists, tuples -/
theorem w_rg1 {n : Int} (h : W g (te σ) K (Is (.int n))) {R : V → Hp → Prop} {k : Int → Int → Hp → VK → Prop} (hk : W g (k 0 n) K R) : W g (fun H Q => tRg1 te σ H fun a b H1 => k a b H1 Q) K R :=
  fun K2 H e a Q q => h K2 H e a _ fun v S H' d hv => ⟨n, hv, hk S H' (e.trans d.kk) d.here Q fun v2 S2 H2 d2 h2 => q v2 S2 H2 (d.trans d2) h2⟩
theorem w_tupRg {n : Int} (h : W g (te σ) K (Is (.int n))) (ok : RgOk 0 n) : W g (tTupRg (tRg1 te) σ) K (NewO K (.tup (rgV 0 n))) :=
  w_rg1 (k := fun a b H Q => RgOk a b ∧ ∀ q, H q = none → Q (.ref q) (upd H q (.tup (rgV a b)))) h (w_new fun H e Q q => ⟨ok, q⟩)
theorem w_lstRg {n : Int} (h : W g (te σ) K (Is (.int n))) (ok : RgOk 0 n) : W g (tLstRg (tRg1 te) σ) K (NewO K (.lst (rgV 0 n))) :=
  w_rg1 (k := fun a b H Q => RgOk a b ∧ ∀ q, H q = none → Q (.ref q) (upd H q (.lst (rgV a b)))) h (w_new fun H e Q q => ⟨ok, q⟩)
/-! unpacked items among arguments -/
theorem w_star {Ra : V → Hp → Prop} {R : List V → Hp → Prop} (h : W g (te σ) K Ra) (hr : ∀ x S, Ex K S → Ra x S → ∃ p xs, x = V.ref p ∧ (SqT Kf S p xs ∨ SqL Kf S p xs) ∧ W g (tr σ) S fun ys S' => R (xs ++ ys) S') : W g (StX.tStar Kf te tr σ) K R :=
  fun K2 H e a Q q => h K2 H e a _ fun v S H' d hv => by
    obtain ⟨p, xs, ex, hx, hw⟩ := hr v S (e.trans d.kk) hv
    exact ⟨p, xs, ex, hx.imp (ex_t d.kh) (ex_l d.kh), hw S H' (.refl _) d.here _ fun ys S2 H2 d2 hy => q _ S2 H2 (d.trans d2) hy⟩
/-! dicts -/
theorem w_dget {a : Addr} {y v : V} (ho : W g (ta σ) K (Is (.ref a))) (hi : W g (tb σ) K (Is y)) (h : ∀ H, Ex K H → DGet H a y (some v)) : W g (tDGet ta tb σ) K (Is v) :=
  ho.bindI (h := fun (x : V) (H : Hp) (Q : VK) => tb σ H fun y H2 => ∃ a v, x = .ref a ∧ DGet H2 a y (some v) ∧ Q v H2) (hi.bindI (h := fun (y : V) (H : Hp) (Q : VK) => ∃ b v, V.ref a = .ref b ∧ DGet H b y (some v) ∧ Q v H) (w_val fun H e Q q => ⟨a, v, rfl, h H e, q⟩))
theorem w_din {a : Addr} {y : V} {o : Option V} (hi : W g (tb σ) K (Is y)) (ho : W g (ta σ) K (Is (.ref a))) (h : ∀ H, Ex K H → DGet H a y o) : W g (tDIn tb ta σ) K (Is (.bl o.isSome)) :=
  hi.bindI (h := fun (y : V) (H : Hp) (Q : VK) => ta σ H fun x H2 => ∃ a o, x = .ref a ∧ DGet H2 a y o ∧ Q (.bl o.isSome) H2) (ho.bindI (h := fun (x : V) (H : Hp) (Q : VK) => ∃ b o, x = .ref b ∧ DGet H b y o ∧ Q (.bl o.isSome) H) (w_val fun H e Q q => ⟨a, o, rfl, h H e, q⟩))
theorem w_dnotin {a : Addr} {y : V} {o : Option V} (hi : W g (tb σ) K (Is y)) (ho : W g (ta σ) K (Is (.ref a))) (h : ∀ H, Ex K H → DGet H a y o) : W g (tDNotIn tb ta σ) K (Is (.bl (!o.isSome))) :=
  hi.bindI (h := fun (y : V) (H : Hp) (Q : VK) => ta σ H fun x H2 => ∃ a o, x = .ref a ∧ DGet H2 a y o ∧ Q (.bl (!o.isSome)) H2) (ho.bindI (h := fun (x : V) (H : Hp) (Q : VK) => ∃ b o, x = .ref b ∧ DGet H b y o ∧ Q (.bl (!o.isSome)) H) (w_val fun H e Q q => ⟨a, o, rfl, h H e, q⟩))
theorem w_dget2 {tc : TE} {a : Addr} {y z : V} {o : Option V} (ho : W g (ta σ) K (Is (.ref a))) (hi : W g (tb σ) K (Is y)) (hz : W g (tc σ) K (Is z)) (hd : ∀ H, Ex K H → IsD H a) (h : ∀ H, Ex K H → DGet H a y o) : W g (tDGet2 ta tb tc σ) K (Is (o.getD z)) :=
  ho.bindI (h := fun (x : V) (H : Hp) (Q : VK) => ∃ a, x = .ref a ∧ IsD H a ∧ tb σ H fun y H2 => tc σ H2 fun z H3 => ∃ o, DGet H3 a y o ∧ Q (o.getD z) H3) fun K2 H e x Q q => ⟨a, rfl, hd H (e.trans x.kh),
    hi.bindI (h := fun (y : V) (H : Hp) (Q : VK) => tc σ H fun z H3 => ∃ o, DGet H3 a y o ∧ Q (o.getD z) H3) (hz.bindI (h := fun (z : V) (H : Hp) (Q : VK) => ∃ o, DGet H a y o ∧ Q (o.getD z) H) (w_val fun H e Q q => ⟨o, h H e, q⟩)) K2 H e x Q q⟩
theorem w_vals {a : Addr} {xs : List V} (ho : W g (te σ) K (Is (.ref a))) (h : ∀ H, Ex K H → DVals H a xs) : W g (tListVals te σ) K (NewO K (.lst xs)) :=
  ho.bindI (h := fun (x : V) (H : Hp) (Q : VK) => ∃ a xs, x = .ref a ∧ DVals H a xs ∧ ∀ p, H p = none → Q (.ref p) (upd H p (.lst xs))) (w_new fun H e Q q => ⟨a, xs, rfl, h H e, q⟩)
theorem w_dnewT : W g (tDNewT σ) K (NewO K (.dT [])) := w_new fun H e Q q p hp => q p hp
theorem w_dnewK : W g (tDNewK σ) K (NewO K (.dK [])) := w_new fun H e Q q p hp => q p hp
/-! o[i] by an own __getitem__; C(..); Table.m(..) -/
theorem w_ownIx {C p dx : Addr} {fs : List (Str × V)} {sp : Sp} {y : V} (ho : W g (ta σ) K (Is (.ref p))) (hk : K p = some (.ins C dx fs)) (hi : W g (tb σ) K (Is y)) (hs : SpW g sp [.ref p, y] K R) : W g (tOwnIx C sp ta tb σ) K R :=
  ho.bindI (h := fun (x : V) (H : Hp) (Q : VK) => tb σ H fun y H2 => ∃ a dx fs, x = .ref a ∧ H2 a = some (.ins C dx fs) ∧ sp [x, y] H2 Q C8.E0) (hi.bindI (h := fun (y : V) (H : Hp) (Q : VK) => ∃ a dx fs, V.ref p = .ref a ∧ H a = some (.ins C dx fs) ∧ sp [.ref p, y] H Q C8.E0)
    fun K2 H e x Q q => ⟨p, dx, fs, rfl, x.kh _ _ (e _ _ hk), hs C8.E0 K2 H e x Q q⟩)
theorem w_ownIxR {C : Addr} {sp : Sp} {y : V} {Ra : V → Hp → Prop} (ho : W g (ta σ) K Ra) (hi : ∀ S, Ex K S → W g (tb σ) S (Is y)) (hs : ∀ x S, Ex K S → Ra x S → ∃ p dx fs, x = .ref p ∧ S p = some (.ins C dx fs) ∧ SpW g sp [.ref p, y] S R) : W g (tOwnIx C sp ta tb σ) K R :=
  ho.bind (h := fun (x : V) (H : Hp) (Q : VK) => tb σ H fun y H2 => ∃ a dx fs, x = .ref a ∧ H2 a = some (.ins C dx fs) ∧ sp [x, y] H2 Q C8.E0) fun x S e hx => by
    obtain ⟨p, dx, fs, rfl, hk, h⟩ := hs x S e hx
    exact (hi S e).bindI (h := fun (y : V) (H : Hp) (Q : VK) => ∃ a dx fs, V.ref p = .ref a ∧ H a = some (.ins C dx fs) ∧ sp [.ref p, y] H Q C8.E0) fun K2 H e2 x Q q => ⟨p, dx, fs, rfl, x.kh _ _ (e2 _ _ hk), h C8.E0 K2 H e2 x Q q⟩
theorem w_cmeth {C : Addr} {sp : Sp} {E : XK} {Ra : List V → Hp → Prop} (ho : W g (ta σ) K (Is (.ref C))) (ha : W g (tr σ) K Ra) (hs : ∀ vs S, Ex K S → Ra vs S → SpW g sp (.ref C :: vs) S R) : W g (ClX.tCMeth C sp E ta tr σ) K R :=
  ho.bindI (h := fun (x : V) (H : Hp) (Q : VK) => x = .ref C ∧ tr σ H fun vs H2 => sp (.ref C :: vs) H2 Q E) fun K2 H e x Q q => ⟨rfl, ha.bind (h := fun (vs : List V) (H : Hp) (Q : VK) => sp (.ref C :: vs) H Q E) (fun vs S e2 hv => hs vs S e2 hv E) K2 H e x Q q⟩
end
end Cm

/-! ## C2 -/
set_option maxHeartbeats 4000000
/-! Walks, comprehensions, owned things, locks. -/
namespace Cm
open PySem PySem.Spec PyProof.Rows L2 Evl
/-! ### sources -/
section
variable {g : Bg} {K S : Hp} {Kf : PySem.W.Frag} {σ : L2.St} {te : TE} {tr : TA}
theorem wk_list {p : Addr} {xs : List V} (h : SqL Kf S p xs) : Wk S (Itl Kf p) xs := Walk.mono walk_list (fun H e => ex_l e h) fun _ _ _ _ _ _ y => y
theorem wk_tup {p : Addr} {xs : List V} (h : SqT Kf S p xs) : Wk S (Itt Kf p) xs := Walk.mono walk_tup (fun H e => ex_t e h) fun _ _ _ _ _ _ y => y
theorem w_iL {p : Addr} {xs : List V} (h : W g (te σ) K (Is (.ref p))) (hx : SqL Kf K p xs) : W g (iList Kf te σ) K (fun J S => ∃ ys, Wk S J ys ∧ ys = xs) :=
  fun K2 H e a Q q => h K2 H e a _ fun v S H' d hv => ⟨p, hv, ⟨xs, ex_l ((e.trans d.kk).trans d.kh) hx⟩, q _ S H' d ⟨xs, wk_list (ex_l (e.trans d.kk) hx), rfl⟩⟩
theorem w_iLR {Ra : V → Hp → Prop} {Rs : List V → Hp → Prop} (h : W g (te σ) K Ra) (hx : ∀ v S, Ex K S → Ra v S → ∃ p xs, v = .ref p ∧ SqL Kf S p xs ∧ Rs xs S) : W g (iList Kf te σ) K (fun J S => ∃ ys, Wk S J ys ∧ Rs ys S) :=
  fun K2 H e a Q q => h K2 H e a _ fun v S H' d hv => by
    obtain ⟨p, xs, ev, hs, hr⟩ := hx v S (e.trans d.kk) hv
    exact ⟨p, ev, ⟨xs, ex_l d.kh hs⟩, q _ S H' d ⟨xs, wk_list hs, hr⟩⟩
theorem w_iT {p : Addr} {xs : List V} (h : W g (te σ) K (Is (.ref p))) (hx : SqT Kf K p xs) : W g (iTup Kf te σ) K (fun J S => ∃ ys, Wk S J ys ∧ ys = xs) :=
  fun K2 H e a Q q => h K2 H e a _ fun v S H' d hv => ⟨p, hv, ⟨xs, ex_t ((e.trans d.kk).trans d.kh) hx⟩, q _ S H' d ⟨xs, wk_tup (ex_t (e.trans d.kk) hx), rfl⟩⟩
theorem w_iTR {Ra : V → Hp → Prop} {Rs : List V → Hp → Prop} (h : W g (te σ) K Ra) (hx : ∀ v S, Ex K S → Ra v S → ∃ p xs, v = .ref p ∧ SqT Kf S p xs ∧ Rs xs S) : W g (iTup Kf te σ) K (fun J S => ∃ ys, Wk S J ys ∧ Rs ys S) :=
  fun K2 H e a Q q => h K2 H e a _ fun v S H' d hv => by
    obtain ⟨p, xs, ev, hs, hr⟩ := hx v S (e.trans d.kk) hv
    exact ⟨p, ev, ⟨xs, ex_t d.kh hs⟩, q _ S H' d ⟨xs, wk_tup hs, hr⟩⟩
theorem w_iQL {p : Addr} {xs : List V} (h : W g (te σ) K (Is (.ref p))) (hx : SqL Kf K p xs) : W g (iSeq Kf te σ) K (fun J S => ∃ ys, Wk S J ys ∧ ys = xs) :=
  fun K2 H e a Q q => h K2 H e a _ fun v S H' d hv => ⟨p, hv, .inl ⟨⟨xs, ex_l ((e.trans d.kk).trans d.kh) hx⟩, q _ S H' d ⟨xs, wk_list (ex_l (e.trans d.kk) hx), rfl⟩⟩⟩
theorem w_iQT {p : Addr} {xs : List V} (h : W g (te σ) K (Is (.ref p))) (hx : SqT Kf K p xs) : W g (iSeq Kf te σ) K (fun J S => ∃ ys, Wk S J ys ∧ ys = xs) :=
  fun K2 H e a Q q => h K2 H e a _ fun v S H' d hv => ⟨p, hv, .inr ⟨⟨xs, ex_t ((e.trans d.kk).trans d.kh) hx⟩, q _ S H' d ⟨xs, wk_tup (ex_t (e.trans d.kk) hx), rfl⟩⟩⟩
def rgL (lo : Int) (n : Nat) : List V := (List.range n).map fun i => V.int (lo + (i : Nat))
theorem rgL_get {lo : Int} {n i : Nat} (h : i < n) : (rgL lo n)[i]? = some (.int (lo + i)) := by
  rw [rgL, List.getElem?_map, List.getElem?_range h] <;> rfl
theorem rgL_len (lo : Int) (n : Nat) : (rgL lo n).length = n := by rw [rgL, List.length_map, List.length_range]
theorem rgL_at {lo : Int} {n i : Nat} {x : V} (h : (rgL lo n)[i]? = some x) : i < n ∧ x = .int (lo + i) := by
  have hi : i < n := by
    have := (List.getElem?_eq_some_iff.mp h).1
    rwa [rgL_len] at this
  rw [rgL_get hi] at h
  exact ⟨hi, (Option.some.inj h).symm⟩
theorem wk_range {lo : Int} {n : Nat} : Wk S (Itr lo n) (rgL lo n) := by
  have w : Walk (Itr lo n) (rgL lo n).length (fun _ => True) (YFn fun i => .int (lo + i)) := by rw [rgL_len]; exact walk_range
  exact Walk.mono w (fun _ _ => trivial) fun i H x H' hi _ y => ⟨y.1, by rw [y.2]; exact rgL_get (by rwa [rgL_len] at hi)⟩
theorem w_iR1 {n : Int} (h : W g (tr σ) K (Is [.int n])) (hn : -(2 ^ 62) ≤ n ∧ n < 2 ^ 62) : W g (iRng1 tr σ) K (fun J S => ∃ ys, Wk S J ys ∧ ys = rgL 0 n.toNat) :=
  fun K2 H e a Q q => h K2 H e a _ fun v S H' d hv => ⟨n, hv, hn.1, hn.2, q _ S H' d ⟨_, wk_range, rfl⟩⟩
theorem w_iR2 {m n : Int} (h : W g (tr σ) K (Is [.int m, .int n])) (hn : -(2 ^ 62) ≤ m ∧ m < 2 ^ 62 ∧ -(2 ^ 62) ≤ n ∧ n < 2 ^ 62) : W g (iRng2 tr σ) K (fun J S => ∃ ys, Wk S J ys ∧ ys = rgL m (n - m).toNat) :=
  fun K2 H e a Q q => h K2 H e a _ fun v S H' d hv => ⟨m, n, hv, hn, q _ S H' d ⟨_, wk_range, rfl⟩⟩
/-- the signs of a text -/
def sgL (z : Str) : List V := z.cps.toList.map fun c => V.str ⟨#[c]⟩
theorem wk_str {z : Str} : Wk S (Its z) (sgL z) := by
  have w : Walk (Its z) (sgL z).length (fun _ => True) (fun i H v H' => H' = H ∧ ∃ c, z.cps[i]? = some c ∧ v = .str ⟨#[c]⟩) := by
    rw [sgL, List.length_map, Array.length_toList]
    exact walk_str
  exact Walk.mono w (fun _ _ => trivial) fun i H x H' hi _ y => ⟨y.1, by
    obtain ⟨c, h1, h2⟩ := y.2
    rw [sgL, List.getElem?_map, Array.getElem?_toList, h1, h2] <;> rfl⟩
theorem w_iS {z : Str} (h : W g (te σ) K (Is (.str z))) : W g (iStr te σ) K (fun J S => ∃ ys, Wk S J ys ∧ ys = sgL z) :=
  fun K2 H e a Q q => h K2 H e a _ fun v S H' d hv => ⟨z, hv, q _ S H' d ⟨_, wk_str, rfl⟩⟩
/-- the keys of a locked dict, ints and texts -/
theorem w_iK {d : Addr} {od : Obj} {kvs : List (Key × V)} (h : W g (te σ) K (Is (.ref d))) (hd : K d = some (.frz od (.dK kvs))) : W g (iKeys te σ) K (fun J S => ∃ ys, Wk S J ys ∧ ys = kvs.map fun p => kV p.1) :=
  fun K2 H e a Q q => h K2 H e a _ fun v S H' b hv => ⟨d, od, hv, .inl ⟨kvs, b.kh _ _ (b.kk _ _ (e _ _ hd)), q _ S H' b ⟨_, (by
    have w : Walk (Itk d od kvs) (kvs.map fun p => kV p.1).length (fun H => H d = some (.frz od (.dK kvs))) (fun i H x H' => H' = H ∧ ∃ k v, kvs[i]? = some (k, v) ∧ x = kV k) := by rw [List.length_map]; exact walk_keys
    exact Walk.mono w (fun H e2 => e2 _ _ (b.kk _ _ (e _ _ hd))) fun i H x H' _ _ y => ⟨y.1, by
      obtain ⟨k, v, h1, h2⟩ := y.2
      rw [List.getElem?_map, h1, h2] <;> rfl⟩), rfl⟩⟩⟩
/-- .. tuples -/
def WkT (S : Hp) (J : It) (kvs : List (List Key × V)) : Prop := Walk J kvs.length (fun H => Ex S H) fun i H x H' => H' = H ∧ ∃ k v q, kvs[i]? = some (k, v) ∧ x = .ref q ∧ H q = some (.tup (k.map kV))
theorem w_iKT {d : Addr} {od : Obj} {kvs : List (List Key × V)} (h : W g (te σ) K (Is (.ref d))) (hd : K d = some (.frz od (.dT kvs))) : W g (iKeys te σ) K (fun J S => WkT S J kvs) :=
  fun K2 H e a Q q => h K2 H e a _ fun v S H' b hv => ⟨d, od, hv, .inr ⟨kvs, b.kh _ _ (b.kk _ _ (e _ _ hd)), q _ S H' b
    (Walk.mono walk_keysT (fun H e2 => e2 _ _ (b.kk _ _ (e _ _ hd))) fun i H x H' _ _ y => y)⟩⟩
end
/-! ### comprehensions -/
section
variable {g : Bg} {K : Hp} {Kf : PySem.W.Frag} {σ : L2.St} {wi : TI} {gt : TG} {tt : TT} {te tk tv : TE} {vs : List Nat} {R : V → Hp → Prop} {Rs : List V → Hp → Prop}
/-- a target takes x -/
def Tg (gt : TG) (x : V) (σ : L2.St) (S : Hp) (σ2 : L2.St) : Prop := ∀ (H : Hp) (Q : L2.St → Hp → Prop), Ex S H → Q σ2 H → gt x σ H Q
theorem tg_name {i : Nat} {x : V} {S : Hp} : Tg (gName i) x σ S (σ.set i (some x)) := fun H Q _ q => q
theorem tg_t2 {q : Addr} {x y : V} {i j : Nat} {S : Hp} (h : SqT Kf S q [x, y]) : Tg (gTup Kf 2 (gCons (gName i) (gCons (gName j) gNil))) (.ref q) σ S ((σ.set i (some x)).set j (some y)) :=
  fun H Q e k => ⟨q, [x, y], rfl, ex_t e h, rfl, x, [y], rfl, y, [], rfl, rfl, k⟩
theorem tg_t3 {q : Addr} {x y z : V} {i j l : Nat} {S : Hp} (h : SqT Kf S q [x, y, z]) : Tg (gTup Kf 3 (gCons (gName i) (gCons (gName j) (gCons (gName l) gNil)))) (.ref q) σ S (((σ.set i (some x)).set j (some y)).set l (some z)) :=
  fun H Q e k => ⟨q, [x, y, z], rfl, ex_t e h, rfl, x, [y, z], rfl, y, [z], rfl, z, [], rfl, rfl, k⟩
theorem At.off {g : Bg} {K0 H0 K H : Hp} {p : Addr} (a : At g K0 H0 K H) (h : H0 p = none) : ∀ l, g ≠ some (p, l) := fun l e => (a.bg p l e).1 h
/-- a local thing p with o stays so through a reading -/
theorem At.loc {g : Bg} {K0 H0 K H S H' : Hp} {p : Addr} {o : HO} (a : At g K0 H0 K H) (b : At g K H S H') (h0 : H0 p = none) (hp : H p = some o) (hk : K p = none) (t : NotT o) : H' p = some o ∧ S p = none := by
  have h1 := b.fr _ _ (a.off h0) hp
  refine ⟨h1, ?_⟩
  rcases b.ns p hk (by rw [hp]; exact Option.some_ne_none _) with z | ⟨xs, z⟩
  · exact z
  · have := b.kh _ _ z
    rw [h1] at this
    exact absurd (Option.some.inj this) (t xs)
theorem notT_l {xs : List V} : NotT (.lst xs) := fun _ z => by cases z
theorem notT_d {xs : List (List Key × V)} : NotT (.dT xs) := fun _ z => by cases z
theorem w_lc (h : W g (wi σ) K fun J S => ∃ xs, Wk S J xs ∧ Rs xs S)
    (k : ∀ xs S, Ex K S → Rs xs S → ∃ Inv : Nat → List V → Hp → Prop, Inv 0 [] S ∧ (∀ i acc S', Inv i acc S' → acc.length < 100000) ∧
      (∀ i x acc S', xs[i]? = some x → Ex S S' → Inv i acc S' → ∃ σ2, Tg gt x (wipe σ vs) S' σ2 ∧ wipe σ2 vs = wipe σ vs ∧
        W g (tt σ2) S' fun b S2 => (b = true → W g (te σ2) S2 fun y S3 => Inv (i + 1) (acc ++ [y]) S3) ∧ (b = false → Inv (i + 1) acc S2)) ∧
      ∀ acc S' p, Ex S S' → Inv xs.length acc S' → S' p = none → K p = none → R (.ref p) (upd S' p (.lst acc))) : W g (tLc wi gt tt te vs σ) K R :=
  fun K2 H e a Q q => h K2 H e a _ fun J S H1 d hJ D hD => by
    obtain ⟨xs, w, hR⟩ := hJ
    obtain ⟨Inv, h0, hl, hs, hd⟩ := k xs S (e.trans d.kk) hR
    have nD : H D = none := d.newH hD
    refine lc_it w (fun i H' => ∃ S' acc, Ex S S' ∧ At g K2 H S' H' ∧ H' D = some (.lst acc) ∧ S' D = none ∧ Inv i acc S')
      ⟨S, [], .refl _, d.wrote nD (d.kh.free hD), upd_same, d.kh.free hD, h0⟩ (fun i H' _ ⟨S', acc, e1, a1, _⟩ => e1.trans a1.kh) (fun i x H' H2 _ ⟨S', acc, e1, a1, hD1, hn, hI⟩ y => ?_) fun H' ⟨S', acc, e1, a1, hD1, hn, hI⟩ => ?_
    · obtain ⟨ey, hx⟩ := y
      subst ey
      obtain ⟨σ2, hg, hw, ht⟩ := hs i x acc S' hx e1 hI
      refine hg _ _ a1.kh ⟨hw, ht S' _ (.refl _) a1.here _ fun b S2 H3 d2 hb => ?_⟩
      obtain ⟨l2, n2⟩ := a1.loc d2 nD hD1 hn notT_l
      cases b with
      | false => exact iteF ⟨S2, acc, e1.trans d2.kk, a1.trans d2, l2, n2, hb.2 rfl⟩
      | true =>
        refine iteT (hb.1 rfl S2 _ (.refl _) d2.here _ fun y S3 H4 d3 hy => ?_)
        obtain ⟨l3, n3⟩ := (a1.trans d2).loc d3 nD l2 n2 notT_l
        exact ⟨acc, l3, Nat.lt_of_lt_of_le (hl i acc S' hI) (by decide), S3, acc ++ [y], (e1.trans d2.kk).trans d3.kk, ((a1.trans d2).trans d3).wrote nD n3, upd_same, n3, hy⟩
    · exact q _ _ _ (a1.keep nD hn hD1) (hd acc S' D e1 hI hn (e.free (a.kh.free nD)))
/-- .. without an if -/
theorem w_lcY (h : W g (wi σ) K fun J S => ∃ xs, Wk S J xs ∧ Rs xs S)
    (k : ∀ xs S, Ex K S → Rs xs S → ∃ Inv : Nat → List V → Hp → Prop, Inv 0 [] S ∧ (∀ i acc S', Inv i acc S' → acc.length < 100000) ∧
      (∀ i x acc S', xs[i]? = some x → Ex S S' → Inv i acc S' → ∃ σ2, Tg gt x (wipe σ vs) S' σ2 ∧ wipe σ2 vs = wipe σ vs ∧ W g (te σ2) S' fun y S3 => Inv (i + 1) (acc ++ [y]) S3) ∧
      ∀ acc S' p, Ex S S' → Inv xs.length acc S' → S' p = none → K p = none → R (.ref p) (upd S' p (.lst acc))) : W g (tLc wi gt tYes te vs σ) K R :=
  w_lc h fun xs S e hR => by
    obtain ⟨Inv, h0, hl, hs, hd⟩ := k xs S e hR
    refine ⟨Inv, h0, hl, fun i x acc S' hx e1 hI => ?_, hd⟩
    obtain ⟨σ2, hg, hw, ht⟩ := hs i x acc S' hx e1 hI
    exact ⟨σ2, hg, hw, W.imp (R := Is true) (w_val fun _ _ Q q => q) fun b S2 e2 hb => ⟨fun _ => ht.mono e2, fun z => by rw [hb] at z; cases z⟩⟩
/-- each item gives its value -/
theorem w_lcMap {xs : List V} {f : V → V} (h : W g (wi σ) K fun J S => ∃ ys, Wk S J ys ∧ ys = xs) (hz : xs.length < 100000)
    (hs : ∀ (i : Nat) (x : V) (S : Hp), xs[i]? = some x → Ex K S → ∃ σ2, Tg gt x (wipe σ vs) S σ2 ∧ wipe σ2 vs = wipe σ vs ∧ W g (te σ2) S (Is (f x))) : W g (tLc wi gt tYes te vs σ) K (NewO K (.lst (xs.map f))) :=
  w_lcY h fun ys S e ey => by
    subst ey
    refine ⟨fun i acc S' => i ≤ ys.length ∧ acc = (ys.take i).map f, ⟨Nat.zero_le _, rfl⟩, fun i acc S' ⟨hi, ea⟩ => ?_, fun i x acc S' hx e1 ⟨hi, ea⟩ => ?_, fun acc S' p e1 ⟨hi, ea⟩ hp hk => ⟨p, rfl, hk, by rw [upd_same, ea, List.take_length]⟩⟩
    · rw [ea, List.length_map]
      exact Nat.lt_of_le_of_lt (List.length_take_le' _ _) hz
    · obtain ⟨σ2, hg, hw, ht⟩ := hs i x S' hx (e.trans e1)
      refine ⟨σ2, hg, hw, ht.imp fun y S3 _ hy => ⟨(List.getElem?_eq_some_iff.mp hx).1, ?_⟩⟩
      cases hy
      rw [ea, List.take_add_one, hx, List.map_append] <;> rfl
/-- the items that pass -/
theorem w_lcFil {xs : List V} {p : V → Bool} {f : V → V} (h : W g (wi σ) K fun J S => ∃ ys, Wk S J ys ∧ ys = xs) (hz : xs.length < 100000)
    (hs : ∀ (i : Nat) (x : V) (S : Hp), xs[i]? = some x → Ex K S → ∃ σ2, Tg gt x (wipe σ vs) S σ2 ∧ wipe σ2 vs = wipe σ vs ∧ W g (tt σ2) S (Is (p x)) ∧ (p x = true → W g (te σ2) S (Is (f x)))) : W g (tLc wi gt tt te vs σ) K (NewO K (.lst ((xs.filter p).map f))) :=
  w_lc h fun ys S e ey => by
    subst ey
    refine ⟨fun i acc S' => i ≤ ys.length ∧ acc = ((ys.take i).filter p).map f, ⟨Nat.zero_le _, rfl⟩, fun i acc S' ⟨hi, ea⟩ => ?_, fun i x acc S' hx e1 ⟨hi, ea⟩ => ?_, fun acc S' q e1 ⟨hi, ea⟩ hp hk => ⟨q, rfl, hk, by rw [upd_same, ea, List.take_length]⟩⟩
    · rw [ea, List.length_map]
      exact Nat.lt_of_le_of_lt (Nat.le_trans (List.length_filter_le _ _) (List.length_take_le' _ _)) hz
    · obtain ⟨σ2, hg, hw, ht, hv⟩ := hs i x S' hx (e.trans e1)
      have hi2 := (List.getElem?_eq_some_iff.mp hx).1
      refine ⟨σ2, hg, hw, ht.imp fun b S2 e2 hb => ⟨fun z => ?_, fun z => ⟨hi2, ?_⟩⟩⟩
      · rw [hb] at z
        refine ((hv z).mono e2).imp fun y S3 _ hy => ⟨hi2, ?_⟩
        cases hy
        rw [ea, List.take_add_one, hx, List.filter_append, List.map_append, Option.toList_some, List.filter_cons_of_pos z] <;> rfl
      · rw [hb] at z
        rw [ea, List.take_add_one, hx, List.filter_append, List.map_append, Option.toList_some, List.filter_cons_of_neg (by rw [z]; exact Bool.false_ne_true), List.filter_nil, List.map_nil, List.append_nil]
end
end Cm

/-! ## C3 -/
set_option maxHeartbeats 4000000
/-! Two-fold comprehensions, dict comprehensions, owned things, locks, loops. -/
namespace Cm
open PySem PySem.Spec PyProof.Rows L2 Evl
section
variable {g : Bg} {K : Hp} {Kf : PySem.W.Frag} {σ : L2.St} {wi wi1 : TI} {gt g1 : TG} {tt tt1 : TT} {te tk tv : TE} {vs vs1 : List Nat} {R : V → Hp → Prop} {Rs : List V → Hp → Prop}
/-- [e for x in xs (if) for y in ys (if)]: the inner walk by its own invariant -/
theorem w_lc2 (h : W g (wi σ) K fun J S => ∃ xs, Wk S J xs ∧ Rs xs S)
    (k : ∀ xs S, Ex K S → Rs xs S → ∃ Inv : Nat → List V → Hp → Prop, Inv 0 [] S ∧
      (∀ (i : Nat) (x : V) acc S', xs[i]? = some x → Ex S S' → Inv i acc S' → ∃ σ2, Tg gt x (wipe σ vs) S' σ2 ∧ wipe σ2 vs = wipe σ vs ∧ W g (tt σ2) S' (Is true) ∧ ∃ Rs1 : List V → Hp → Prop,
        (∀ S2, Ex S' S2 → W g (wi1 σ2) S2 fun J S3 => ∃ ys, Wk S3 J ys ∧ Rs1 ys S3) ∧ ∀ ys S3, Ex S' S3 → Rs1 ys S3 → ∃ Jv : Nat → List V → Hp → Prop, Jv 0 acc S3 ∧ (∀ j ac S4, Jv j ac S4 → ac.length < 100000) ∧
          (∀ (j : Nat) (y : V) ac S4, ys[j]? = some y → Ex S3 S4 → Jv j ac S4 → ∃ σ3, Tg g1 y (wipe σ2 vs1) S4 σ3 ∧ wipe σ3 vs1 = wipe σ2 vs1 ∧
            W g (tt1 σ3) S4 fun b S5 => (b = true → W g (te σ3) S5 fun z S6 => Jv (j + 1) (ac ++ [z]) S6) ∧ (b = false → Jv (j + 1) ac S5)) ∧
          ∀ ac S4, Ex S3 S4 → Jv ys.length ac S4 → Inv (i + 1) ac S4) ∧
      ∀ acc S' p, Ex S S' → Inv xs.length acc S' → S' p = none → K p = none → R (.ref p) (upd S' p (.lst acc))) : W g (tLc2 wi gt tt wi1 g1 tt1 te vs vs1 σ) K R :=
  fun K2 H e a Q q => h K2 H e a _ fun J S H1 d hJ D hD => by
    obtain ⟨xs, w, hR⟩ := hJ
    obtain ⟨Inv, h0, hs, hd⟩ := k xs S (e.trans d.kk) hR
    have nD : H D = none := d.newH hD
    let Pv : Nat → Hp → Prop := fun i H' => ∃ S' acc, Ex S S' ∧ At g K2 H S' H' ∧ H' D = some (.lst acc) ∧ S' D = none ∧ Inv i acc S'
    refine ⟨fun i m H' => m = xs.length - i ∧ i ≤ xs.length ∧ Pv i H', ⟨_, rfl, Nat.zero_le _, S, [], .refl _, d.wrote nD (d.kh.free hD), upd_same, d.kh.free hD, h0⟩, ?_⟩
    rintro i m H' ⟨rfl, hi, p⟩
    obtain ⟨S', acc, e1, a1, hD1, hn, hI⟩ := id p
    rcases Nat.lt_or_ge i xs.length with hlt | hge
    · refine .inr ⟨w.goes i H' hlt (e1.trans a1.kh), Pv (i + 1), fun H2 p' => ⟨xs.length - (i + 1), by omega, rfl, hlt, p'⟩, fun x H2 hy => ?_⟩
      obtain ⟨ey, hx⟩ := w.yields i H' x H2 hlt (e1.trans a1.kh) hy
      subst ey
      obtain ⟨σ2, hg, hw, ht, Rs1, hwi, hin⟩ := hs i x acc S' hx e1 hI
      refine hg _ _ a1.kh ⟨hw, ht S' _ (.refl _) a1.here _ fun b S2 H3 d2 hb => ?_⟩
      cases hb
      obtain ⟨l2, n2⟩ := a1.loc d2 nD hD1 hn notT_l
      refine iteT (hwi S2 d2.kk S2 H3 (.refl _) d2.here _ fun J1 S3 H4 d3 hJ1 => ?_)
      obtain ⟨ys, w1, hR1⟩ := hJ1
      have a3 := (a1.trans d2).trans d3
      obtain ⟨l3, n3⟩ := (a1.trans d2).loc d3 nD l2 n2 notT_l
      obtain ⟨Jv, j0, jl, js, jd⟩ := hin ys S3 (d2.kk.trans d3.kk) hR1
      let Pw : Nat → Hp → Prop := fun j H5 => ∃ S5 ac, Ex S3 S5 ∧ At g K2 H S5 H5 ∧ H5 D = some (.lst ac) ∧ S5 D = none ∧ Jv j ac S5
      refine ⟨fun j m H5 => m = ys.length - j ∧ j ≤ ys.length ∧ Pw j H5, ⟨_, rfl, Nat.zero_le _, S3, acc, .refl _, a3, l3, n3, j0⟩, ?_⟩
      rintro j m2 H5 ⟨rfl, hj, pw⟩
      obtain ⟨S5, ac, e5, a5, hD5, hn5, hJ5⟩ := id pw
      rcases Nat.lt_or_ge j ys.length with jlt | jge
      · refine .inr ⟨w1.goes j H5 jlt (e5.trans a5.kh), Pw (j + 1), fun H6 p' => ⟨ys.length - (j + 1), by omega, rfl, jlt, p'⟩, fun y H6 hy2 => ?_⟩
        obtain ⟨ey2, hx2⟩ := w1.yields j H5 y H6 jlt (e5.trans a5.kh) hy2
        subst ey2
        obtain ⟨σ3, hg3, hw3, ht3⟩ := js j y ac S5 hx2 e5 hJ5
        refine hg3 _ _ a5.kh ⟨hw3, ht3 S5 _ (.refl _) a5.here _ fun b S6 H7 d6 hb => ?_⟩
        obtain ⟨l6, n6⟩ := a5.loc d6 nD hD5 hn5 notT_l
        cases b with
        | false => exact iteF ⟨S6, ac, e5.trans d6.kk, a5.trans d6, l6, n6, hb.2 rfl⟩
        | true =>
          refine iteT (hb.1 rfl S6 _ (.refl _) d6.here _ fun z S7 H8 d7 hz => ?_)
          obtain ⟨l7, n7⟩ := (a5.trans d6).loc d7 nD l6 n6 notT_l
          exact ⟨ac, l7, Nat.lt_of_lt_of_le (jl j ac S5 hJ5) (by decide), S7, ac ++ [z], (e5.trans d6.kk).trans d7.kk, ((a5.trans d6).trans d7).wrote nD n7, upd_same, n7, hz⟩
      · have ej : j = ys.length := by omega
        subst ej
        exact .inl ⟨w1.stops H5 (e5.trans a5.kh), S5, ac, ((e1.trans d2.kk).trans d3.kk).trans e5, a5, hD5, hn5, jd ac S5 e5 hJ5⟩
    · have ei : i = xs.length := by omega
      subst ei
      exact .inl ⟨w.stops H' (e1.trans a1.kh), q _ _ _ (a1.keep nD hn hD1) (hd acc S' D e1 hI hn (e.free (a.kh.free nD)))⟩
theorem yes_it {σ : L2.St} {H : Hp} {F G : Hp → Prop} (h : F H) : tYes σ H fun b H3 => if b = true then F H3 else G H3 := iteT (B := G H) h
/-- {k: v for x in xs}, keys tuples -/
theorem w_dcT (h : W g (wi σ) K fun J S => ∃ xs, Wk S J xs ∧ Rs xs S)
    (k : ∀ xs S, Ex K S → Rs xs S → ∃ Inv : Nat → List (List Key × V) → Hp → Prop, Inv 0 [] S ∧ (∀ i acc S', Inv i acc S' → acc.length < 100000) ∧
      (∀ (i : Nat) (x : V) acc S', xs[i]? = some x → Ex S S' → Inv i acc S' → ∃ σ2 q ky z, Tg gt x (wipe σ vs) S' σ2 ∧ wipe σ2 vs = wipe σ vs ∧ W g (tk σ2) S' (Is (.ref q)) ∧ S' q = some (.tup (ky.map kV)) ∧ W g (tv σ2) S' (Is z) ∧ ∀ S2, Ex S' S2 → Inv (i + 1) (putK acc ky z) S2) ∧
      ∀ acc S' p, Ex S S' → Inv xs.length acc S' → S' p = none → K p = none → R (.ref p) (upd S' p (.dT acc))) : W g (tDcT wi gt tYes tk tv vs σ) K R :=
  fun K2 H e a Q q => h K2 H e a _ fun J S H1 d hJ D hD => by
    obtain ⟨xs, w, hR⟩ := hJ
    obtain ⟨Inv, h0, hl, hs, hd⟩ := k xs S (e.trans d.kk) hR
    have nD : H D = none := d.newH hD
    let Pv : Nat → Hp → Prop := fun i H' => ∃ S' acc, Ex S S' ∧ At g K2 H S' H' ∧ H' D = some (.dT acc) ∧ S' D = none ∧ Inv i acc S'
    refine ⟨fun i m H' => m = xs.length - i ∧ i ≤ xs.length ∧ Pv i H', ⟨_, rfl, Nat.zero_le _, S, [], .refl _, d.wrote nD (d.kh.free hD), upd_same, d.kh.free hD, h0⟩, ?_⟩
    rintro i m H' ⟨rfl, hi, p⟩
    obtain ⟨S', acc, e1, a1, hD1, hn, hI⟩ := id p
    rcases Nat.lt_or_ge i xs.length with hlt | hge
    · refine .inr ⟨w.goes i H' hlt (e1.trans a1.kh), Pv (i + 1), fun H2 p' => ⟨xs.length - (i + 1), by omega, rfl, hlt, p'⟩, fun x H2 hy => ?_⟩
      obtain ⟨ey, hx⟩ := w.yields i H' x H2 hlt (e1.trans a1.kh) hy
      subst ey
      obtain ⟨σ2, r, ky, z, hg, hw, h1, hr, h2, hI2⟩ := hs i x acc S' hx e1 hI
      refine hg _ _ a1.kh ⟨hw, ?_⟩
      refine yes_it ?_
      refine h1 S' _ (.refl _) a1.here _ fun y S2 H3 d2 hy => ?_
      cases hy
      obtain ⟨l2, n2⟩ := a1.loc d2 nD hD1 hn notT_d
      refine h2 S2 H3 d2.kk d2.here _ fun y S3 H4 d3 hy => ?_
      cases hy
      obtain ⟨l3, n3⟩ := (a1.trans d2).loc d3 nD l2 n2 notT_d
      exact ⟨acc, ky, r, rfl, d3.kh _ _ (d3.kk _ _ (d2.kk _ _ hr)), l3, Nat.lt_of_lt_of_le (hl i acc S' hI) (by decide), S3, _, (e1.trans d2.kk).trans d3.kk, ((a1.trans d2).trans d3).wrote nD n3, upd_same, n3, hI2 S3 (d2.kk.trans d3.kk)⟩
    · have ei : i = xs.length := by omega
      subst ei
      exact .inl ⟨w.stops H' (e1.trans a1.kh), q _ _ _ (a1.keep nD hn hD1) (hd acc S' D e1 hI hn (e.free (a.kh.free nD)))⟩
/-- .. the keys of a locked dict again, with values of their own -/
theorem w_dcKT {kvs : List (List Key × V)} {f : List Key → V} (h : W g (wi σ) K fun J S => WkT S J kvs) (hz : kvs.length < 100000) (nd : (kvs.map (·.1)).Nodup)
    (hs : ∀ (q : Addr) (ky : List Key) S, Ex K S → S q = some (.tup (ky.map kV)) → ∃ σ2, Tg gt (.ref q) (wipe σ vs) S σ2 ∧ wipe σ2 vs = wipe σ vs ∧ W g (tk σ2) S (Is (.ref q)) ∧ W g (tv σ2) S (Is (f ky))) : W g (tDcT wi gt tYes tk tv vs σ) K (NewO K (.dT (kvs.map fun p => (p.1, f p.1)))) :=
  fun K2 H e a Q q => h K2 H e a _ fun J S H1 d w D hD => by
    have nD : H D = none := d.newH hD
    let Pv : Nat → Hp → Prop := fun i H' => ∃ S', Ex S S' ∧ At g K2 H S' H' ∧ H' D = some (.dT ((kvs.take i).map fun p => (p.1, f p.1))) ∧ S' D = none
    refine ⟨fun i m H' => m = kvs.length - i ∧ i ≤ kvs.length ∧ Pv i H', ⟨_, rfl, Nat.zero_le _, S, .refl _, d.wrote nD (d.kh.free hD), upd_same, d.kh.free hD⟩, ?_⟩
    rintro i m H' ⟨rfl, hi, p⟩
    obtain ⟨S', e1, a1, hD1, hn⟩ := id p
    rcases Nat.lt_or_ge i kvs.length with hlt | hge
    · refine .inr ⟨w.goes i H' hlt (e1.trans a1.kh), Pv (i + 1), fun H2 p' => ⟨kvs.length - (i + 1), by omega, rfl, hlt, p'⟩, fun x H2 hy => ?_⟩
      obtain ⟨ey, ky, v, r, hx, ex, hr⟩ := w.yields i H' x H2 hlt (e1.trans a1.kh) hy
      subst ey ex
      have a2 := a1.learn hr
      have ne : r ≠ D := fun z => by rw [z, hD1] at hr; cases hr
      have hn2 : (upd S' r (.tup (ky.map kV))) D = none := by rw [upd_ne (Ne.symm ne)]; exact hn
      have e2 : Ex S' (upd S' r (.tup (ky.map kV))) := fun b o hb => by
        by_cases z : b = r
        · rw [z] at hb
          rw [z, upd_same, ← a1.kh _ _ hb, hr]
        · rw [upd_ne z]; exact hb
      obtain ⟨σ2, hg, hw, h1, h2⟩ := hs r ky (upd S' r (.tup (ky.map kV))) (((e.trans d.kk).trans e1).trans e2) upd_same
      refine hg _ _ a2.kh ⟨hw, ?_⟩
      refine yes_it ?_
      refine h1 _ _ (.refl _) a2.here _ fun y S2 H3 d2 hy => ?_
      cases hy
      obtain ⟨l2, n2⟩ := a2.loc d2 nD hD1 hn2 notT_d
      refine h2 S2 H3 d2.kk d2.here _ fun y S3 H4 d3 hy => ?_
      cases hy
      obtain ⟨l3, n3⟩ := (a2.trans d2).loc d3 nD l2 n2 notT_d
      have el : ((kvs.take i).map fun p => (p.1, f p.1)).length < 100000 := by rw [List.length_map]; exact Nat.lt_of_le_of_lt (List.length_take_le' _ _) hz
      refine ⟨_, ky, r, rfl, d3.kh _ _ (d3.kk _ _ (d2.kk _ _ upd_same)), l3, Nat.lt_of_lt_of_le el (by decide), S3, ((e1.trans e2).trans d2.kk).trans d3.kk, ((a2.trans d2).trans d3).wrote nD n3, ?_, n3⟩
      rw [upd_same]
      congr 2
      have hno : ky ∉ ((kvs.take i).map fun p => (p.1, f p.1)).map (·.1) := by
        intro z
        obtain ⟨p1, hp1, ep1⟩ := List.mem_map.mp z
        obtain ⟨p2, hp2, ep2⟩ := List.mem_map.mp hp1
        obtain ⟨j, hj⟩ := List.mem_iff_getElem?.mp hp2
        have hj2 : j < i := by
          have := (List.getElem?_eq_some_iff.mp hj).1
          rw [List.length_take] at this
          omega
        rw [List.getElem?_take_of_lt hj2] at hj
        have k1 : (kvs.map (·.1))[j]? = some ky := by rw [List.getElem?_map, hj, Option.map_some, ← ep1, ← ep2]
        have k2 : (kvs.map (·.1))[i]? = some ky := by rw [List.getElem?_map, hx] <;> rfl
        have := (List.getElem?_inj (by rw [List.length_map]; omega) nd).mp (k1.trans k2.symm)
        omega
      rw [List.take_add_one, hx, List.map_append]
      unfold putK
      rw [if_neg (by
        intro z
        obtain ⟨p1, hp1, ep1⟩ := List.any_eq_true.mp z
        exact hno (List.mem_map.mpr ⟨p1, hp1, of_decide_eq_true ep1⟩))]
      rfl
    · have ei : i = kvs.length := by omega
      subst ei
      refine .inl ⟨w.stops H' (e1.trans a1.kh), q _ _ _ (a1.keep nD hn hD1) ⟨D, rfl, e.free (a.kh.free nD), ?_⟩⟩
      rw [upd_same, List.take_length]
end
end Cm

/-! ## C4 -/
set_option maxHeartbeats 4000000
/-! Owned things, locks, loops, things made. -/
namespace Cm
open PySem PySem.Spec PyProof.Rows L2 Evl
/-- without p -/
def cut1 (H : Hp) (p : Addr) : Hp := fun a => if a = p then none else H a
theorem cut_at {H : Hp} {p : Addr} : cut1 H p p = none := if_pos rfl
theorem cut_ne {H : Hp} {p a : Addr} (h : a ≠ p) : cut1 H p a = H a := if_neg h
theorem cut_le {H : Hp} {p : Addr} : Ex (cut1 H p) H := fun a o h => by
  by_cases e : a = p
  · rw [e, cut_at] at h; cases h
  · rwa [cut_ne e] at h
theorem cut_some {H : Hp} {p a : Addr} {o : HO} (h : cut1 H p a = some o) : a ≠ p ∧ H a = some o := by
  by_cases e : a = p
  · rw [e, cut_at] at h; cases h
  · exact ⟨e, by rwa [cut_ne e] at h⟩
/-- without these -/
def drm (m : List (Addr × HO)) (S : Hp) : Hp := fun a => if a ∈ m.map (·.1) then none else S a
theorem drm_in {m : List (Addr × HO)} {S : Hp} {a : Addr} (h : a ∈ m.map (·.1)) : drm m S a = none := if_pos h
theorem drm_off {m : List (Addr × HO)} {S : Hp} {a : Addr} (h : a ∉ m.map (·.1)) : drm m S a = S a := if_neg h
theorem drm_some {m : List (Addr × HO)} {S : Hp} {a : Addr} {o : HO} (h : drm m S a = some o) : a ∉ m.map (·.1) ∧ S a = some o := by
  by_cases q : a ∈ m.map (·.1)
  · rw [drm_in q] at h; cases h
  · exact ⟨q, by rwa [drm_off q] at h⟩
theorem drm_le {m : List (Addr × HO)} {S : Hp} : Ex (drm m S) S := fun a o h => (drm_some h).2
section
variable {c : Ct} {m : List (Addr × HO)} {K S H H' : Hp} {r : Addr} {o o' : HO}
theorem St8.offK (s : St8 c m K H) {a : Addr} {u : HO} (h : K a = some u) : a ∉ m.map (·.1) := fun q => by
  obtain ⟨p, hp, e⟩ := List.mem_map.mp q
  have := (s.mu p hp).2.1
  rw [e, h] at this
  cases this
theorem St8.off0 (s : St8 c m K H) {a : Addr} (h : c.H0 a ≠ none) : a ∉ m.map (·.1) := fun q => by
  obtain ⟨p, hp, e⟩ := List.mem_map.mp q
  have := (s.mu p hp).2.2
  rw [e] at this
  exact h this
/-- behind a reading that saw the local things: what is known, without them -/
theorem St8.toMV (s : St8 c m K H) (b : At c.g (ov m K) H S H') : St8 c m (drm m S) H' := by
  have kk : Ex K S := s.ovK.trans b.kk
  refine ⟨⟨s.a.k0, fun a u h => ?_, drm_le.trans b.kh, fun a u h1 h2 => b.fr a u h1 (s.a.fr a u h1 h2), fun a h1 h2 => ?_, fun x l e => ⟨(s.a.bg x l e).1, (s.a.bg x l e).2.1, (b.bg x l e).2.2.1, ?_⟩⟩, fun q hq => ?_, s.nt, s.nd⟩
  · have h2 := s.a.kk _ _ h
    rw [drm_off (s.offK h2)]
    exact kk _ _ h2
  · have off := s.off0 h2
    rw [drm_off off]
    rcases s.a.ns a h1 h2 with z | ⟨xs, z⟩
    · exact b.ns a (by rw [ov_off off]; exact z) (s.a.there h2)
    · exact .inr ⟨xs, kk _ _ z⟩
  · rw [drm_off (s.bagOff e)]
    exact (b.bg x l e).2.2.2
  · obtain ⟨h1, h2, h3⟩ := s.mu q hq
    exact ⟨b.fr _ _ (fun l e => (s.a.bg q.1 l e).1 h3) h1, drm_in (List.mem_map_of_mem hq), h3⟩
theorem ov_no {p : Addr} (h : ov m K p = none) : p ∉ m.map (·.1) := by
  induction m with
  | nil => exact List.not_mem_nil
  | cons q m ih =>
    intro z
    by_cases e : p = q.1
    · rw [e, show ov (q :: m) K q.1 = some q.2 from upd_same] at h; cases h
    · have h2 : upd (ov m K) q.1 q.2 p = none := h
      rw [upd_ne e] at h2
      rcases List.mem_cons.mp z with y | y
      · exact e y
      · exact ih h2 y
theorem drm_new {p : Addr} {u : HO} (h : ov m K p = none) (hs : S p = some u) : drm m S p = some u := by rw [drm_off (ov_no h)]; exact hs
theorem ov_cons {q : Addr × HO} : ov (q :: m) K q.1 = some q.2 := upd_same
theorem drm_ex (s : St8 c m K H) (e : Ex (ov m K) S) : Ex K (drm m S) := fun a u h => by
  rw [drm_off (s.offK h)]
  exact (s.ovK.trans e) _ _ h
/-- one of them alone -/
theorem St8.one (s : St8 c ((r, o) :: m) K H) : St8 ⟨c.g, K, cut1 H r⟩ [(r, o)] K H := by
  obtain ⟨h1, h2, h3⟩ := s.mu (r, o) List.mem_cons_self
  have rb : ∀ b l, c.g = some (b, l) → b ≠ r := fun b l e z => s.bagOff e (by rw [z]; exact List.mem_cons_self)
  have rl : ∀ b l, c.g = some (b, l) → l ≠ r := fun b l e z => (s.a.bg b l e).2.1 (by rw [z]; exact h3)
  refine ⟨⟨fun a u h => ?_, .refl _, s.a.kh, fun a u _ h => (cut_some h).2, fun a h _ => .inl h, fun b l e => ⟨?_, ?_, (s.a.bg b l e).2.2⟩⟩, fun q hq => ?_, fun q hq => ?_, by simp⟩
  · show cut1 H r a = some u
    rw [cut_ne (fun z => by have h5 : K a = some u := h; rw [z, show K r = none from h2] at h5; cases h5)]
    exact s.a.kh _ _ h
  · show cut1 H r b ≠ none
    rw [cut_ne (rb b l e)]
    exact (s.a.bg b l e).2.2.1.b
  · show cut1 H r l ≠ none
    rw [cut_ne (rl b l e)]
    exact (s.a.bg b l e).2.2.1.l
  · rw [List.mem_singleton.mp hq]
    exact ⟨h1, h2, cut_at⟩
  · rw [List.mem_singleton.mp hq]
    exact s.nt _ List.mem_cons_self
theorem St8.back (s : St8 c ((r, o) :: m) K H) (b : St8 ⟨c.g, K, cut1 H r⟩ [(r, o')] S H') : St8 c ((r, o') :: m) S H' := by
  obtain ⟨h1, h2, h3⟩ := s.mu (r, o) List.mem_cons_self
  obtain ⟨k1, k2, k3⟩ := b.mu (r, o') List.mem_cons_self
  have nd := s.nd
  simp only [List.map_cons, List.nodup_cons] at nd
  refine ⟨⟨s.a.k0, s.a.kk.trans b.a.kk, b.a.kh, fun a u e h => ?_, fun a e1 e2 => ?_, fun x l e => ⟨(s.a.bg x l e).1, (s.a.bg x l e).2.1, (b.a.bg x l e).2.2⟩⟩, fun q hq => ?_, fun q hq => ?_, s.nd⟩
  · have ne : a ≠ r := fun z => by rw [z, show c.H0 r = none from h3] at h; cases h
    exact b.a.fr a u e (by show cut1 H r a = some u; rw [cut_ne ne]; exact s.a.fr a u e h)
  · rcases s.a.ns a e1 e2 with z | ⟨xs, z⟩
    · have ne : a ≠ r := fun y => e2 (by rw [y]; exact h3)
      exact b.a.ns a z (by show cut1 H r a ≠ none; rw [cut_ne ne]; exact s.a.there e2)
    · exact .inr ⟨xs, b.a.kk _ _ z⟩
  · rcases List.mem_cons.mp hq with e | hq
    · subst e
      exact ⟨k1, k2, h3⟩
    · obtain ⟨j1, j2, j3⟩ := s.mu q (List.mem_cons_of_mem _ hq)
      have ne : q.1 ≠ r := fun z => nd.1 (by rw [← z]; exact List.mem_map_of_mem hq)
      have l1 : H' q.1 = some q.2 := b.a.fr _ _ (fun l e => (s.a.bg q.1 l e).1 j3) (by show cut1 H r q.1 = _; rw [cut_ne ne]; exact j1)
      refine ⟨l1, ?_, j3⟩
      rcases b.a.ns q.1 j2 (by show cut1 H r q.1 ≠ none; rw [cut_ne ne, j1]; exact Option.some_ne_none _) with z | ⟨xs, z⟩
      · exact z
      · have := b.a.kh _ _ z
        rw [l1] at this
        exact absurd (Option.some.inj this) (s.nt q (List.mem_cons_of_mem _ hq) xs)
  · rcases List.mem_cons.mp hq with e | hq
    · rw [e]; exact b.nt _ List.mem_cons_self
    · exact s.nt q (List.mem_cons_of_mem _ hq)
/-- a known thing is taken to be changed, and given back as it was -/
theorem St8.steal (s : St8 c [] K H) (h : K r = some o) (t : NotT o) (rl : ∀ b l, c.g = some (b, l) → l ≠ r) : St8 ⟨c.g, cut1 K r, cut1 H r⟩ [(r, o)] (cut1 K r) H := by
  have rb : ∀ b l, c.g = some (b, l) → b ≠ r := fun b l e z => by have := (s.a.bg b l e).2.2.2; rw [z, h] at this; cases this
  refine ⟨⟨fun a u q => ?_, .refl _, cut_le.trans s.a.kh, fun a u _ q => (cut_some q).2, fun a q _ => .inl q, fun b l e => ⟨?_, ?_, (s.a.bg b l e).2.2.1, ?_⟩⟩, fun q hq => ?_, fun q hq => ?_, by simp⟩
  · obtain ⟨n, q⟩ := cut_some q
    show cut1 H r a = some u
    rw [cut_ne n]; exact s.a.kh _ _ q
  · show cut1 H r b ≠ none
    rw [cut_ne (rb b l e)]; exact (s.a.bg b l e).2.2.1.b
  · show cut1 H r l ≠ none
    rw [cut_ne (rl b l e)]; exact (s.a.bg b l e).2.2.1.l
  · show cut1 K r b = none
    rw [cut_ne (rb b l e)]; exact (s.a.bg b l e).2.2.2
  · rw [List.mem_singleton.mp hq]; exact ⟨s.a.kh _ _ h, cut_at, cut_at⟩
  · rw [List.mem_singleton.mp hq]; exact t
theorem St8.give (s : St8 c [] K H) (h : K r = some o) (b : St8 ⟨c.g, cut1 K r, cut1 H r⟩ [(r, o)] S H') : At c.g K H (upd S r o) H' := by
  obtain ⟨k1, k2, k3⟩ := b.mu (r, o) List.mem_cons_self
  refine ⟨s.a.kh, fun a u q => ?_, b.a.kh.le k1, fun a u e q => ?_, fun a q n => ?_, fun x l e => ⟨(s.a.bg x l e).2.2.1.b, (s.a.bg x l e).2.2.1.l, (b.a.bg x l e).2.2.1, ?_⟩⟩
  · by_cases z : a = r
    · rw [z] at q ⊢; rw [upd_same, ← q, h]
    · rw [upd_ne z]; exact b.a.kk _ _ (by show cut1 K r a = some u; rw [cut_ne z]; exact q)
  · by_cases z : a = r
    · rw [z] at q ⊢
      rw [k1, ← q, s.a.kh _ _ h]
    · exact b.a.fr a u e (by show cut1 H r a = some u; rw [cut_ne z]; exact q)
  · have z : a ≠ r := fun z => by rw [z, h] at q; cases q
    rw [upd_ne z]
    exact b.a.ns a (by show cut1 K r a = none; rw [cut_ne z]; exact q) (by show cut1 H r a ≠ none; rw [cut_ne z]; exact n)
  · rw [upd_ne (fun z => by have := (s.a.bg x l e).2.2.2; rw [z, h] at this; cases this)]
    exact (b.a.bg x l e).2.2.2
end
/-! ### promises that change one thing -/
/-- called with x where own x holds o x: post x of the value, of what own x holds then, of what is known then -/
def PrO {ι : Type} (arg : ι → List V) (own : ι → Addr) (o : ι → HO) (pre : Bg → ι → Hp → Prop) (post : ι → Hp → V → HO → Hp → Prop) : Sp := fun vs H Q _ =>
  ∃ (g : Bg) (K H0 : Hp) (x : ι), vs = arg x ∧ St8 ⟨g, K, H0⟩ [(own x, o x)] K H ∧ pre g x K ∧ ∀ v o' S H', St8 ⟨g, K, H0⟩ [(own x, o')] S H' → post x K v o' S → Q v H'
abbrev BdO (P : Program) (w : World) (K : PySem.W.Frag) (mg : Str → Option Value) (base : Heap) (N : List Str) (d : He5.DefA) (k : Nat) {ι : Type} (arg : ι → List V) (own : ι → Addr) (o : ι → HO) (pre : Bg → ι → Hp → Prop) (post : ι → Hp → V → HO → Hp → Prop) : Prop :=
  ∀ (cdv : Value) (A : Around) (outer : List Env) (s : Shared) (H : Hp) (Q : VK) (E : XK), Room k (A.deeper (envOfC d.qual d.scope s.heap.objs.size (d.at_ K) cdv)) →
    ∃ t, PSs (cx P w K mg base N d cdv A outer s H E) d.body t ∧ ∀ (g : Bg) (K0 H0 : Hp) (x : ι), pre g x K0 → (∀ v o' S H', St8 ⟨g, K0, H0⟩ [(own x, o')] S H' → post x K0 v o' S → Q v H') →
      G ⟨g, K0, H0⟩ (t { nx := fun _ H' => Q .non H', rt := Q }) (start N (arg x)) [(own x, o x)] K0
section
variable {P : Program} {w : World} {K : PySem.W.Frag} {mg : Str → Option Value} {base : Heap} {N ps : List Str} {d : He5.DefA} {k : Nat} {ι : Type} {arg : ι → List V} {own : ι → Addr} {o : ι → HO} {pre : Bg → ι → Hp → Prop} {post : ι → Hp → V → HO → Hp → Prop}
theorem BdO.bs (b : BdO P w K mg base N d k arg own o pre post) : Bs P w K mg base N d k (PrO arg own o pre post) := fun cdv A outer s H Q E hr => by
  obtain ⟨t, h, q⟩ := b cdv A outer s H Q E hr
  refine ⟨t, h, fun vs ⟨g, K0, H0, x, e, a, hp, hQ⟩ => ?_⟩
  subst e
  exact q g K0 H0 x hp hQ H a
theorem prO_len {n : Nat} (hl : ∀ x, (arg x).length = n) : ∀ vs H Q E, PrO arg own o pre post vs H Q E → vs.length = n := fun vs H Q E ⟨g, K0, H0, x, e, _⟩ => by rw [e]; exact hl x
end
/-- what a promise gives that changes r, from o -/
abbrev SpO (g : Bg) (sp : Sp) (r : Addr) (o : HO) (vs : List V) (K : Hp) (R : V → HO → Hp → Prop) : Prop :=
  ∀ (E : XK) (K1 H0 H : Hp), Ex K K1 → St8 ⟨g, K1, H0⟩ [(r, o)] K1 H → ∀ Q : VK, (∀ v o' S H', St8 ⟨g, K1, H0⟩ [(r, o')] S H' → R v o' S → Q v H') → sp vs H Q E
section
variable {g : Bg} {K : Hp} {σ : L2.St} {tr : TA} {ta te : TE} {sp : Sp} {E : XK} {dvs : List V} {r : Addr} {o : HO}
theorem w_prO {ι : Type} {arg : ι → List V} {own : ι → Addr} {ob : ι → HO} {pre : Bg → ι → Hp → Prop} {post : ι → Hp → V → HO → Hp → Prop} {R : V → HO → Hp → Prop} (x : ι) (hp : ∀ K1, Ex K K1 → pre g x K1)
    (hr : ∀ K1 v o' S, Ex K K1 → Ex K1 S → post x K1 v o' S → R v o' S) : SpO g (PrO arg own ob pre post) (own x) (ob x) (arg x) K R :=
  fun E K1 H0 H e s Q q => ⟨g, K1, H0, x, rfl, s, hp K1 e, fun v o' S H' b h => q v o' S H' b (hr K1 v o' S e b.a.kk h)⟩
/-- C(..): its __init__ changes the new thing -/
theorem w_make {C : Addr} {Ra : List V → Hp → Prop} {R : V → Hp → Prop} (ha : W g (tr σ) K Ra) (hs : ∀ vs S, Ex K S → Ra vs S → ∀ x dx, S x = none → K x = none → dx ≠ x →
    SpO g sp x (.ins C dx []) (.ref x :: (vs ++ dvs)) S fun v o' S' => v = .non ∧ (S' x = none → R (.ref x) (upd S' x o'))) : W g (tMake C sp dvs E tr σ) K R :=
  fun K2 H e a Q q => ha K2 H e a _ fun vs S H1 d hv x dx hx hdx ne => by
    have s : St8 ⟨g, S, H1⟩ [(x, .ins C dx [])] S (upd (upd H1 dx (.own x)) x (.ins C dx [])) := by
      refine ⟨⟨d.kh, .refl _, fun b u hb => ?_, fun b u _ hb => ?_, fun b h _ => .inl h, fun b l eg => ?_⟩, fun p hp => ?_, fun p hp => ?_, by simp⟩
      · have h2 := d.kh _ _ hb
        rw [upd_ne (ne_of_none h2 hx), upd_ne (ne_of_none h2 hdx)]; exact h2
      · rw [upd_ne (ne_of_none hb hx), upd_ne (ne_of_none hb hdx)]; exact hb
      · obtain ⟨b1, b2, b3, b4⟩ := d.bg b l eg
        have k1 : ∀ z, H1 z ≠ none → (upd (upd H1 dx (.own x)) x (.ins C dx [])) z = H1 z := fun z hz => by
          rw [upd_ne (fun y => hz (by rw [y]; exact hx)), upd_ne (fun y => hz (by rw [y]; exact hdx))]
        exact ⟨b3.b, b3.l, b3.stay (k1 b b3.b) (k1 l b3.l), b4⟩
      · rw [List.mem_singleton.mp hp]; exact ⟨upd_same, d.kh.free hx, hx⟩
      · rw [List.mem_singleton.mp hp]; exact fun _ z => by cases z
    refine hs vs S (e.trans d.kk) hv x dx (d.kh.free hx) (e.free (a.kh.free (d.newH hx))) ne E S H1 _ (.refl _) s _ fun v o' S' H2 b hR => ⟨hR.1, ?_⟩
    obtain ⟨k1, k2, k3⟩ := b.mu (x, o') List.mem_cons_self
    exact q _ _ _ (d.trans (b.a.keep k3 k2 k1)) (hR.2 k2)
theorem w_makeL {i : Nat} {C : Addr} {R : V → Hp → Prop} (h : σ[i]? = some (some (.ref C))) (hm : W g (tMake C sp dvs C8.E0 tr σ) K R) : W g (tMakeL i C sp dvs tr σ) K R := fun K2 H e a Q q => ⟨h, hm K2 H e a Q q⟩
end
/-! ### statements -/
section
variable {c : Ct} {m : List (Addr × HO)} {K : Hp} {σ : L2.St} {D : Ends} {t u : TS} {te ta tb tv : TE} {tt : TT} {tr : TA} {R : V → Hp → Prop} {P : L2.St → Hp → Prop} {v : V} {i : Nat} {Kf : PySem.W.Frag} {r : Addr} {o : HO} {sp : Sp} {dvs : List V} {E : XK}
/-! seeing the local things too -/
theorem g_asgV (h : Ex K (ov m K) → W c.g (te σ) (ov m K) R) (k : ∀ v S, Ex (ov m K) S → Ex K (drm m S) → R v S → G c D.nx (σ.set i (some v)) m (drm m S)) : G c (tAsg te (gName i) D) σ m K :=
  fun H s => h s.ovK _ H (.refl _) s.hereM _ fun v S H' d hv => k v S d.kk (drm_ex s d.kk) hv H' (s.toMV d)
theorem g_dropV (h : Ex K (ov m K) → W c.g (te σ) (ov m K) R) (k : ∀ v S, Ex (ov m K) S → Ex K (drm m S) → R v S → G c D.nx σ m (drm m S)) : G c (tDrop te D) σ m K :=
  fun H s => h s.ovK _ H (.refl _) s.hereM _ fun v S H' d hv => k v S d.kk (drm_ex s d.kk) hv H' (s.toMV d)
theorem g_dropVI (h : Ex K (ov m K) → W c.g (te σ) (ov m K) (Is v)) (k : G c D.nx σ m K) : G c (tDrop te D) σ m K :=
  fun H s => h s.ovK _ H (.refl _) s.hereM _ fun v S H' d hv => k H' (s.toM d)
theorem g_retV (h : Ex K (ov m K) → W c.g (te σ) (ov m K) R) (k : ∀ v S H', Ex (ov m K) S → Ex K (drm m S) → R v S → St8 c m (drm m S) H' → D.rt v H') : G c (tRet te D) σ m K :=
  fun H s => h s.ovK _ H (.refl _) s.hereM _ fun v S H' d hv => k v S H' d.kk (drm_ex s d.kk) hv (s.toMV d)
/-! calls that change the first of them -/
/-- f ends, with a value, r changed -/
def WO (c : Ct) (f : Hp → VK → Prop) (r : Addr) (o : HO) (m : List (Addr × HO)) (K : Hp) (R : V → HO → Hp → Prop) : Prop :=
  ∀ (K1 H : Hp), Ex K K1 → St8 c ((r, o) :: m) K1 H → ∀ Q : VK, (∀ v o' S H', St8 c ((r, o') :: m) S H' → Ex K1 S → R v o' S → Q v H') → f H Q
variable {RO : V → HO → Hp → Prop}
theorem wo_call {Ra : List V → Hp → Prop} (ha : W c.g (tr σ) K Ra) (hs : ∀ vs S, Ex K S → Ra vs S → SpO c.g sp r o (vs ++ dvs) S RO) : WO c (tCall sp dvs E tr σ) r o m K RO :=
  fun K1 H e s Q q => ha K1 H e s.a.here _ fun vs S H1 d hv => by
    have s1 := s.to d
    exact hs vs S (e.trans d.kk) hv E S _ H1 (.refl _) s1.one Q fun v o' S2 H2 b hR => q v o' S2 H2 (s1.back b) (d.kk.trans b.a.kk) hR
theorem wo_meth {C dx : Addr} {mn : Str} {fs : List (Str × V)} {Ra : List V → Hp → Prop} (ho : W c.g (ta σ) K (Is (.ref r))) (hl : fs.lookup mn = none) (ha : W c.g (tr σ) K Ra) (hs : ∀ vs S, Ex K S → Ra vs S → SpO c.g sp r (.ins C dx fs) (.ref r :: (vs ++ dvs)) S RO) :
    WO c (tMeth C mn sp dvs E ta tr σ) r (.ins C dx fs) m K RO :=
  fun K1 H e s Q q => ho K1 H e s.a.here _ fun v S H1 d hv => by
    cases hv
    have s1 := s.to d
    refine ⟨r, dx, fs, rfl, (s1.mu _ List.mem_cons_self).1, hl, ha S H1 (e.trans d.kk) s1.a.here _ fun vs S2 H2 d2 hv => ?_⟩
    have s2 := s1.to d2
    exact hs vs S2 ((e.trans d.kk).trans d2.kk) hv E S2 _ H2 (.refl _) s2.one Q fun v o' S3 H3 b hR => q v o' S3 H3 (s2.back b) ((d.kk.trans d2.kk).trans b.a.kk) hR
theorem g_dropO (h : WO c (te σ) r o m K RO) (k : ∀ v o' S, Ex K S → RO v o' S → G c D.nx σ ((r, o') :: m) S) : G c (tDrop te D) σ ((r, o) :: m) K :=
  fun H s => h K H (.refl _) s _ fun v o' S H' s' e hR => k v o' S e hR H' s'
theorem g_retO (h : WO c (te σ) r o m K RO) (k : ∀ v o' S H', Ex K S → RO v o' S → St8 c ((r, o') :: m) S H' → D.rt v H') : G c (tRet te D) σ ((r, o) :: m) K :=
  fun H s => h K H (.refl _) s _ fun v o' S H' s' e hR => k v o' S H' e hR s'
/-- self.f = e -/
theorem g_fld {C dx : Addr} {f : Str} {fs : List (Str × V)} (hv : Ex K (ov ((r, .ins C dx fs) :: m) K) → W c.g (tv σ) (ov ((r, .ins C dx fs) :: m) K) R) (ho : ∀ S, W c.g (ta σ) S (Is (.ref r))) (hc : Cls Kf C) (hn : NoAttr Kf C f) (hl : fs.length < 1000)
    (k : ∀ y S, Ex (ov ((r, .ins C dx fs) :: m) K) S → Ex K (drm ((r, .ins C dx fs) :: m) S) → R y S → G c D.nx σ ((r, .ins C dx (putF f y fs)) :: m) (drm ((r, .ins C dx fs) :: m) S)) : G c (sFld Kf ta tv f D) σ ((r, .ins C dx fs) :: m) K :=
  fun H s => hv s.ovK _ H (.refl _) s.hereM _ fun y S H1 d hy => by
    have s1 := s.toMV d
    refine ho _ _ H1 (.refl _) s1.a.here _ fun x S2 H2 d2 hx => ?_
    cases hx
    have s2 := (s1.to d2).weak s1.a.kk d2.kk
    exact ⟨r, C, dx, fs, rfl, (s2.mu _ List.mem_cons_self).1, hc, hn, hl, k y S d.kk (drm_ex s d.kk) hy _ s2.wrote⟩
/-- d[k] = e, d a local thing -/
theorem g_dputT {d q : Addr} {ky : List Key} {kvs : List (List Key × V)} (hv : Ex K (ov ((d, .dT kvs) :: m) K) → W c.g (tv σ) (ov ((d, .dT kvs) :: m) K) R) (ho : ∀ S, W c.g (ta σ) S (Is (.ref d))) (hi : ∀ S, W c.g (tb σ) S (Is (.ref q))) (hq : K q = some (.tup (ky.map kV))) (hl : kvs.length < 100000)
    (k : ∀ y S, Ex (ov ((d, .dT kvs) :: m) K) S → Ex K (drm ((d, .dT kvs) :: m) S) → R y S → G c D.nx σ ((d, .dT (putK kvs ky y)) :: m) (drm ((d, .dT kvs) :: m) S)) : G c (sDPut ta tb tv D) σ ((d, .dT kvs) :: m) K :=
  fun H s => hv s.ovK _ H (.refl _) s.hereM _ fun y S H1 d1 hy => by
    have s1 := s.toMV d1
    have eK := drm_ex s d1.kk
    refine ho _ _ H1 (.refl _) s1.a.here _ fun x S2 H2 d2 hx => ?_
    cases hx
    have s2 := (s1.to d2).weak s1.a.kk d2.kk
    refine hi _ _ H2 (.refl _) s2.a.here _ fun x S3 H3 d3 hx => ?_
    cases hx
    have s3 := (s2.to d3).weak s1.a.kk d3.kk
    exact ⟨d, _, rfl, DPut.t (s3.mu _ List.mem_cons_self).1 (s3.a.kh _ _ (eK _ _ hq)) (Nat.lt_of_lt_of_le hl (by decide)), k y S d1.kk eK hy _ s3.wrote⟩
theorem g_dputK {d : Addr} {ky : Key} {kvs : List (Key × V)} (hv : Ex K (ov ((d, .dK kvs) :: m) K) → W c.g (tv σ) (ov ((d, .dK kvs) :: m) K) R) (ho : ∀ S, W c.g (ta σ) S (Is (.ref d))) (hi : ∀ S, W c.g (tb σ) S (Is (kV ky))) (hl : kvs.length < 100000)
    (k : ∀ y S, Ex (ov ((d, .dK kvs) :: m) K) S → Ex K (drm ((d, .dK kvs) :: m) S) → R y S → G c D.nx σ ((d, .dK (putK kvs ky y)) :: m) (drm ((d, .dK kvs) :: m) S)) : G c (sDPut ta tb tv D) σ ((d, .dK kvs) :: m) K :=
  fun H s => hv s.ovK _ H (.refl _) s.hereM _ fun y S H1 d1 hy => by
    have s1 := s.toMV d1
    have eK := drm_ex s d1.kk
    refine ho _ _ H1 (.refl _) s1.a.here _ fun x S2 H2 d2 hx => ?_
    cases hx
    have s2 := (s1.to d2).weak s1.a.kk d2.kk
    refine hi _ _ H2 (.refl _) s2.a.here _ fun x S3 H3 d3 hx => ?_
    cases hx
    have s3 := (s2.to d3).weak s1.a.kk d3.kk
    exact ⟨d, _, rfl, DPut.k (s3.mu _ List.mem_cons_self).1 (Nat.lt_of_lt_of_le hl (by decide)), k y S d1.kk eK hy _ s3.wrote⟩
/-! new local things -/
theorem g_newLR {Ra : List V → Hp → Prop} (h : W c.g (tr σ) K Ra) (k : ∀ xs S, Ex K S → Ra xs S → xs.length ≤ 1000 ∧ ∀ p, S p = none → c.H0 p = none → G c D.nx (σ.set i (some (.ref p))) ((p, .lst xs) :: m) S) : G c (tAsg (tLst tr) (gName i) D) σ m K :=
  fun H s => h K H (.refl _) s.a.here _ fun v S H' d hv => by
    have s' := s.to d
    obtain ⟨hl, kk⟩ := k v S d.kk hv
    exact ⟨Nat.le_trans hl (by decide), fun p hp => kk p (s'.a.kh.free hp) (s'.a.newH hp) _ (s'.made hp)⟩
/-- e gives a new thing: local from now on -/
theorem g_asgN {ob : HO} (h : W c.g (te σ) K fun v S => ∃ p, v = .ref p ∧ K p = none ∧ S p = some ob ∧ R v S) (nt : NotT ob) (k : ∀ p S, Ex K S → K p = none → S p = some ob → R (.ref p) S → G c D.nx (σ.set i (some (.ref p))) ((p, ob) :: m) (cut1 S p)) : G c (tAsg te (gName i) D) σ m K :=
  fun H s => h K H (.refl _) s.a.here _ fun v S H' d hv => by
    obtain ⟨p, ev, hk, hp, hR⟩ := hv
    subst ev
    have s' := s.to d
    have h0 : c.H0 p = none := by
      cases q : c.H0 p with
      | none => rfl
      | some u =>
        rcases s'.a.ns p (s.a.kk.free hk) (by rw [q]; exact Option.some_ne_none _) with z | ⟨xs, z⟩
        · rw [z] at hp; cases hp
        · rw [hp] at z; exact absurd (Option.some.inj z) (nt xs)
    have off : ∀ q ∈ m, q.1 ≠ p := fun q hq z => by have := (s'.mu q hq).2.1; rw [z, hp] at this; cases this
    have e0 : Ex c.K0 (cut1 S p) := fun a u h1 => by
      rw [cut_ne (fun z => by rw [z] at h1; rw [s.a.kk _ _ h1] at hk; cases hk)]
      exact s'.a.kk _ _ h1
    have s2 := s'.weak e0 cut_le
    exact k p S d.kk hk hp hR H' ⟨s2.a, fun q hq => (List.mem_cons.mp hq).elim (fun z => by rw [z]; exact ⟨s'.a.kh _ _ hp, cut_at, h0⟩) fun z => s2.mu q z, fun q hq => (List.mem_cons.mp hq).elim (fun z => by rw [z]; exact nt) fun z => s2.nt q z,
      List.nodup_cons.mpr ⟨fun z => by obtain ⟨q, hq, e⟩ := List.mem_map.mp z; exact off q hq e, s2.nd⟩⟩
/-! walks over the keys of a dict, tuples; while -/
theorem ex_learn {K' H : Hp} {q : Addr} {u : HO} (e : Ex K' H) (h : H q = some u) : Ex K' (upd K' q u) := fun b o hb => by
  by_cases z : b = q
  · rw [z] at hb; rw [z, upd_same, ← h, e _ _ hb]
  · rw [upd_ne z]; exact hb
theorem g_forKT {wi : TI} {gt : TG} {tb : TS} {kvs : List (List Key × V)} (h : W c.g (wi σ) K fun J S => WkT S J kvs)
    (k : ∀ S, Ex K S → ∃ Inv : Nat → L2.St → List (Addr × HO) → Hp → Prop, Inv 0 σ m S ∧ (∀ i σ' m' K', Inv i σ' m' K' → Ex S K') ∧
      (∀ (i : Nat) (ky : List Key) (x : V) (q : Addr) σ' m' K', kvs[i]? = some (ky, x) → Inv i σ' m' K' → (∀ p ∈ m', p.1 ≠ q) → Ex K' (upd K' q (.tup (ky.map kV))) →
        G c (fun σ H => gt (.ref q) σ H (tb { D with nx := LoopN c Inv (i + 1), ct := LoopN c Inv (i + 1), bk := D.nx })) σ' m' (upd K' q (.tup (ky.map kV)))) ∧
      ∀ σ' m' K', Inv kvs.length σ' m' K' → G c D.nx σ' m' K') : G c (tFor wi gt tb D) σ m K :=
  fun H s => h K H (.refl _) s.a.here _ fun J S H' d w => by
    obtain ⟨Inv, h0, hk, hs, hd⟩ := k S d.kk
    refine for_it w (LoopN c Inv) ⟨m, S, s.to d, h0⟩ (fun i σ' H' _ hP => ?_) (fun i x σ' H' H2 hi hP y => ?_) fun σ' H' hP => ?_
    · obtain ⟨m', K', s', hI⟩ := hP
      exact (hk i σ' m' K' hI).trans s'.a.kh
    · obtain ⟨m', K', s', hI⟩ := hP
      obtain ⟨e, ky, v, q, hx, ex, hq⟩ := y
      subst e ex
      have ne : ∀ p ∈ m', p.1 ≠ q := fun p hp z => by
        have := (s'.mu p hp).1
        rw [z, hq] at this
        exact s'.nt p hp _ (Option.some.inj this).symm
      refine hs i ky v q σ' m' K' hx hI ne (ex_learn s'.a.kh hq) H2 ⟨s'.a.learn hq, fun p hp => ?_, s'.nt, s'.nd⟩
      obtain ⟨h1, h2, h3⟩ := s'.mu p hp
      exact ⟨h1, by rw [upd_ne (ne p hp)]; exact h2, h3⟩
    · obtain ⟨m', K', s', hI⟩ := hP
      exact hd σ' m' K' hI H' s'
theorem g_while {tb : TS} (Inv : Nat → L2.St → List (Addr × HO) → Hp → Prop) {n0 : Nat} (h0 : Inv n0 σ m K)
    (hs : ∀ n σ' m' K', Inv n σ' m' K' → ∃ b, W c.g (tt σ') (ov m' K') (Is b) ∧ (b = true → ∃ N : L2.St → Hp → Prop, (∀ σ2 H2, N σ2 H2 ↔ ∃ n2, n2 < n ∧ LoopN c (fun j => Inv j) n2 σ2 H2) ∧ G c (tb { D with nx := N, ct := N, bk := D.nx }) σ' m' K') ∧ (b = false → G c D.nx σ' m' K')) : G c (tWhile tt tb D) σ m K :=
  fun H s => ⟨fun n σ' H' => LoopN c (fun j => Inv j) n σ' H', ⟨n0, m, K, s, h0⟩, fun n σ' H' ⟨m', K', s', hI⟩ => by
    obtain ⟨b, hb, ht, hf⟩ := hs n σ' m' K' hI
    refine hb _ H' (.refl _) s'.hereM _ fun v S H2 d hv => ?_
    cases hv
    have s2 := s'.toM d
    cases b with
    | true =>
      obtain ⟨N, hN, hg⟩ := ht rfl
      exact iteT ⟨N, fun σ2 H2 h => (hN σ2 H2).mp h, hg H2 s2⟩
    | false => exact iteF (hf rfl H2 s2)⟩
end
/-! ### locks -/
/-- d frozen wherever it is told of -/
def frzA (F : Hp) (d : Addr) (o : HO) : Hp := fun a => if a = d ∧ F d ≠ none then some o else F a
theorem frz_ne {F : Hp} {d a : Addr} {o : HO} (h : a ≠ d) : frzA F d o a = F a := if_neg fun z => h z.1
theorem frz_no {F : Hp} {d : Addr} {o : HO} (h : F d = none) : frzA F d o = F := by
  funext a
  exact if_neg fun z => z.2 h
theorem frz_at {F : Hp} {d : Addr} {o : HO} (h : F d ≠ none) : frzA F d o d = some o := if_pos ⟨rfl, h⟩
theorem frz_some {F : Hp} {d : Addr} {o : HO} (h : F d ≠ none) : frzA F d o = upd F d o := by
  funext a
  by_cases e : a = d
  · rw [e, frz_at h, upd_same]
  · rw [frz_ne e, upd_ne e]
theorem frz_none {F : Hp} {d a : Addr} {o : HO} : frzA F d o a = none ↔ F a = none := by
  by_cases e : a = d
  · subst e
    by_cases h : F a = none
    · rw [frz_no h]
    · rw [frz_at h]
      exact ⟨fun z => (by cases z), fun z => absurd z h⟩
  · rw [frz_ne e]
section
variable {g : Bg} {K0 H0 K S H H' : Hp} {d : Addr} {u f : HO}
/-- neither a tuple nor a list -/
def NotS (o : HO) : Prop := NotT o ∧ ∀ xs, o ≠ .lst xs
theorem notS_T {kvs : List (List Key × V)} : NotS (.dT kvs) := ⟨fun _ z => (by cases z), fun _ z => (by cases z)⟩
theorem notS_K {kvs : List (Key × V)} : NotS (.dK kvs) := ⟨fun _ z => (by cases z), fun _ z => (by cases z)⟩
theorem At.bagNe (a : At g K0 H0 K H) (h : K d = some u) (nt : NotS u) : (∀ b l, g = some (b, l) → b ≠ d) ∧ ∀ b l, g = some (b, l) → l ≠ d := by
  refine ⟨fun b l e z => (by have := (a.bg b l e).2.2.2; rw [z, h] at this; cases this), fun b l e z => ?_⟩
  obtain ⟨ns, i, x, y, w, _, _, h1, _⟩ := (a.bg b l e).2.2.1
  rw [z, a.kh _ _ h] at h1
  exact nt.2 _ (Option.some.inj h1)
theorem At.lock (a : At g K0 H0 K H) (h : K d = some u) (nt : NotS u) : At g (frzA K0 d f) (frzA H0 d f) (upd K d f) (upd H d f) := by
  obtain ⟨bd, nb⟩ := a.bagNe h nt
  refine ⟨fun x o q => ?_, fun x o q => ?_, fun x o q => ?_, fun x o e q => ?_, fun x q1 q2 => ?_, fun b l e => ⟨?_, ?_, ?_, ?_⟩⟩
  · by_cases z : x = d
    · subst z
      have n0 : K0 x ≠ none := fun z => by rw [frz_no z] at q; rw [z] at q; cases q
      obtain ⟨o2, e2⟩ := Option.ne_none_iff_exists'.mp n0
      rw [frz_at n0] at q
      rw [frz_at (by rw [a.k0 _ _ e2]; exact Option.some_ne_none _)]; exact q
    · rw [frz_ne z] at q ⊢; exact a.k0 _ _ q
  · by_cases z : x = d
    · subst z
      have n0 : K0 x ≠ none := fun z => by rw [frz_no z] at q; rw [z] at q; cases q
      rw [frz_at n0] at q
      rw [upd_same]; exact q
    · rw [frz_ne z] at q; rw [upd_ne z]; exact a.kk _ _ q
  · exact (Ex.upd a.kh) _ _ q
  · by_cases z : x = d
    · subst z
      have n0 : H0 x ≠ none := fun z => by rw [frz_no z] at q; rw [z] at q; cases q
      rw [frz_at n0] at q
      rw [upd_same]; exact q
    · rw [frz_ne z] at q; rw [upd_ne z]; exact a.fr _ _ e q
  · have n1 := frz_none.mp q1
    have n2 : H0 x ≠ none := fun z => q2 (frz_none.mpr z)
    by_cases z : x = d
    · subst z
      rcases a.ns x n1 n2 with y | ⟨xs, y⟩
      · rw [h] at y; cases y
      · rw [h] at y; exact absurd (Option.some.inj y) (nt.1 xs)
    · rw [upd_ne z]; exact a.ns x n1 n2
  · exact fun z => (a.bg b l e).1 (frz_none.mp z)
  · exact fun z => (a.bg b l e).2.1 (frz_none.mp z)
  · exact (a.bg b l e).2.2.1.stay (upd_ne (bd b l e)) (upd_ne (nb b l e))
  · rw [upd_ne (bd b l e)]; exact (a.bg b l e).2.2.2
/-- .. and set free again (a0: how it was) -/
theorem At.unlock {S H' : Hp} (a0 : At g K0 H0 K H) (h : K d = some u) (nt : NotS u) (a : At g (frzA K0 d f) (frzA H0 d f) S H') (hs : S d = some f) : At g K0 H0 (upd S d u) (upd H' d u) := by
  obtain ⟨bd, nb⟩ := a0.bagNe h nt
  refine ⟨a0.k0, fun x o q => ?_, Ex.upd a.kh, fun x o e q => ?_, fun x q1 q2 => ?_, fun b l e => ⟨(a0.bg b l e).1, (a0.bg b l e).2.1, (a.bg b l e).2.2.1.stay (upd_ne (bd b l e)) (upd_ne (nb b l e)), ?_⟩⟩
  · by_cases z : x = d
    · subst z
      have := a0.kk _ _ q
      rw [h] at this
      rw [upd_same, this]
    · rw [upd_ne z]
      exact a.kk _ _ (by rw [frz_ne z]; exact q)
  · by_cases z : x = d
    · subst z
      have := a0.fr _ _ e q
      rw [a0.kh _ _ h] at this
      rw [upd_same, this]
    · rw [upd_ne z]
      exact a.fr _ _ e (by rw [frz_ne z]; exact q)
  · by_cases z : x = d
    · subst z
      rcases a0.ns x q1 q2 with y | ⟨xs, y⟩
      · rw [h] at y; cases y
      · rw [h] at y; exact absurd (Option.some.inj y) (nt.1 xs)
    · rw [upd_ne z]
      exact a.ns x (frz_none.mpr q1) (fun y => q2 (frz_none.mp y))
  · rw [upd_ne (bd b l e)]; exact (a.bg b l e).2.2.2
end
/-- where one stands with d locked -/
def lockC (c : Ct) (d : Addr) (f : HO) : Ct := ⟨c.g, frzA c.K0 d f, frzA c.H0 d f⟩
section
variable {c : Ct} {m : List (Addr × HO)} {K : Hp} {σ : L2.St} {D : Ends} {t : TS} {d : Addr} {u : HO} {P : L2.St → Hp → Prop}
theorem St8.lock {H : Hp} {f : HO} (s : St8 c m K H) (h : K d = some u) (nt : NotS u) : St8 (lockC c d f) m (upd K d f) (upd H d f) := by
  refine ⟨s.a.lock h nt, fun q hq => ?_, s.nt, s.nd⟩
  obtain ⟨h1, h2, h3⟩ := s.mu q hq
  have ne : q.1 ≠ d := fun z => by rw [z, h] at h2; cases h2
  exact ⟨by rw [upd_ne ne]; exact h1, by rw [upd_ne ne]; exact h2, frz_none.mpr h3⟩
/-- how it was, kept for the end -/
def Was (c : Ct) (d : Addr) (u : HO) : Prop := ∃ K H, At c.g c.K0 c.H0 K H ∧ K d = some u
theorem St8.unlock {S H' : Hp} {f : HO} (w : Was c d u) (nt : NotS u) (s : St8 (lockC c d f) m S H') (hs : S d = some f) : St8 c m (upd S d u) (upd H' d u) := by
  obtain ⟨K, H, a0, h⟩ := w
  refine ⟨a0.unlock h nt s.a hs, fun q hq => ?_, s.nt, s.nd⟩
  obtain ⟨h1, h2, h3⟩ := s.mu q hq
  have ne : q.1 ≠ d := fun z => by rw [z, hs] at h2; cases h2
  exact ⟨by rw [upd_ne ne]; exact h1, by rw [upd_ne ne]; exact h2, frz_none.mp h3⟩
theorem g_unlock {S : Hp} {f : HO} (w : Was c d u) (nt : NotS u) (hs : S d = some f) (k : G c P σ m (upd S d u)) : G (lockC c d f) (fun σ' H' => H' d = some f ∧ P σ' (upd H' d u)) σ m S :=
  fun H s => ⟨s.a.kh _ _ hs, k _ (s.unlock w nt hs)⟩
/-- the ends behind a lock -/
abbrev lockD (D : Ends) (d : Addr) (u f : HO) : Ends := ⟨fun σ' H' => H' d = some f ∧ D.nx σ' (upd H' d u), fun v H' => H' d = some f ∧ D.rt v (upd H' d u), fun σ' H' => H' d = some f ∧ D.bk σ' (upd H' d u), fun σ' H' => H' d = some f ∧ D.ct σ' (upd H' d u)⟩
theorem g_lock (h : K d = some u) (mu : Mut (some u)) (nt : NotS u) (k : Was c d u → ∀ od, G (lockC c d (.frz od u)) (t (lockD D d u (.frz od u))) σ m (upd K d (.frz od u))) : G c (tLock t D) σ m K :=
  fun H s => ⟨d, u, s.a.kh _ _ h, mu, fun od => k ⟨K, H, s.a, h⟩ od _ (s.lock h nt)⟩
end
section
variable {g : Bg} {K : Hp} {σ : L2.St} {t : TE} {d : Addr} {u : HO} {R R' : V → Hp → Prop}
theorem w_lock (h : K d = some u) (mu : Mut (some u)) (nt : NotS u) (k : ∀ od, W g (t σ) (upd K d (.frz od u)) R') (hr : ∀ v S od, R' v S → S d = some (.frz od u) → Ex K (upd S d u) → R v (upd S d u)) : W g (tLockE t σ) K R :=
  fun K2 H e a Q q => ⟨d, u, a.kh _ _ (e _ _ h), mu, fun od => by
    have h2 := e _ _ h
    have a1 := a.lock (f := .frz od u) h2 nt
    refine k od (upd K2 d (.frz od u)) (upd H d (.frz od u)) (Ex.upd e) ?_ _ fun v S H' b hv => ?_
    · rw [frz_some (by rw [h2]; exact Option.some_ne_none _), frz_some (by rw [a.kh _ _ h2]; exact Option.some_ne_none _)] at a1
      exact a1
    · have hs : S d = some (.frz od u) := b.kk _ _ upd_same
      have b2 : At g K2 H (upd S d u) (upd H' d u) := a.unlock h2 nt (by rw [frz_some (by rw [h2]; exact Option.some_ne_none _), frz_some (by rw [a.kh _ _ h2]; exact Option.some_ne_none _)]; exact b) hs
      exact ⟨b.kh _ _ hs, q _ _ _ b2 (hr v S od hv hs (e.trans b2.kk))⟩⟩
end
end Cm

/-! ## C5 -/
set_option maxHeartbeats 4000000
/-! More words of the calculus. -/
namespace Cm
open PySem PySem.Spec PyProof.Rows L2 Evl
section
variable {g : Bg} {K : Hp} {Kf : PySem.W.Frag} {σ : L2.St} {wi : TI} {gt : TG} {tt : TT} {te tk tv : TE} {vs : List Nat} {R : V → Hp → Prop}
theorem w_lcA {α : Type} {ys : List α} {h f : α → V} (hw : W g (wi σ) K fun J S => ∃ zs, Wk S J zs ∧ zs = ys.map h) (hz : ys.length < 100000)
    (hs : ∀ (i : Nat) (y : α) (S : Hp), ys[i]? = some y → Ex K S → ∃ σ2, Tg gt (h y) (wipe σ vs) S σ2 ∧ wipe σ2 vs = wipe σ vs ∧ W g (te σ2) S (Is (f y))) : W g (tLc wi gt tYes te vs σ) K (NewO K (.lst (ys.map f))) :=
  w_lcY hw fun zs S e ey => by
    subst ey
    refine ⟨fun i acc S' => i ≤ ys.length ∧ acc = (ys.take i).map f, ⟨Nat.zero_le _, rfl⟩, fun i acc S' ⟨hi, ea⟩ => ?_, fun i x acc S' hx e1 ⟨hi, ea⟩ => ?_, fun acc S' p e1 ⟨hi, ea⟩ hp hk => ⟨p, rfl, hk, by rw [upd_same, ea, List.length_map, List.take_length]⟩⟩
    · rw [ea, List.length_map]
      exact Nat.lt_of_le_of_lt (List.length_take_le' _ _) hz
    · rw [List.getElem?_map] at hx
      obtain ⟨y, hy, ex⟩ := Option.map_eq_some_iff.mp hx
      subst ex
      obtain ⟨σ2, hg, hw2, ht⟩ := hs i y S' hy (e.trans e1)
      refine ⟨σ2, hg, hw2, ht.imp fun v S3 _ hv => ⟨(List.getElem?_eq_some_iff.mp hy).1, ?_⟩⟩
      cases hv
      rw [ea, List.take_add_one, hy, List.map_append] <;> rfl
theorem w_lcF {α : Type} {ys : List α} {h f : α → V} {p : α → Bool} (hw : W g (wi σ) K fun J S => ∃ zs, Wk S J zs ∧ zs = ys.map h) (hz : ys.length < 100000)
    (hs : ∀ (i : Nat) (y : α) (S : Hp), ys[i]? = some y → Ex K S → ∃ σ2, Tg gt (h y) (wipe σ vs) S σ2 ∧ wipe σ2 vs = wipe σ vs ∧ W g (tt σ2) S (Is (p y)) ∧ (p y = true → W g (te σ2) S (Is (f y)))) : W g (tLc wi gt tt te vs σ) K (NewO K (.lst ((ys.filter p).map f))) :=
  w_lc hw fun zs S e ey => by
    subst ey
    refine ⟨fun i acc S' => i ≤ ys.length ∧ acc = ((ys.take i).filter p).map f, ⟨Nat.zero_le _, rfl⟩, fun i acc S' ⟨hi, ea⟩ => ?_, fun i x acc S' hx e1 ⟨hi, ea⟩ => ?_, fun acc S' q e1 ⟨hi, ea⟩ hp hk => ⟨q, rfl, hk, by rw [upd_same, ea, List.length_map, List.take_length]⟩⟩
    · rw [ea, List.length_map]
      exact Nat.lt_of_le_of_lt (Nat.le_trans (List.length_filter_le _ _) (List.length_take_le' _ _)) hz
    · rw [List.getElem?_map] at hx
      obtain ⟨y, hy, ex⟩ := Option.map_eq_some_iff.mp hx
      subst ex
      obtain ⟨σ2, hg, hw2, ht, hv⟩ := hs i y S' hy (e.trans e1)
      have hi2 := (List.getElem?_eq_some_iff.mp hy).1
      refine ⟨σ2, hg, hw2, ht.imp fun b S2 e2 hb => ⟨fun z => ?_, fun z => ⟨hi2, ?_⟩⟩⟩
      · rw [hb] at z
        refine ((hv z).mono e2).imp fun v S3 _ hv => ⟨hi2, ?_⟩
        cases hv
        rw [ea, List.take_add_one, hy, List.filter_append, List.map_append, Option.toList_some, List.filter_cons_of_pos z] <;> rfl
      · rw [hb] at z
        rw [ea, List.take_add_one, hy, List.filter_append, List.map_append, Option.toList_some, List.filter_cons_of_neg (by rw [z]; exact Bool.false_ne_true), List.filter_nil, List.map_nil, List.append_nil]
/-- each item gives a thing that is known then: P tells of it -/
theorem w_lcN {α : Type} {ys : List α} {h : α → V} {Pv : α → V → Hp → Prop} (hw : W g (wi σ) K fun J S => ∃ zs, Wk S J zs ∧ zs = ys.map h) (hz : ys.length < 100000) (hm : ∀ y v S S', Ex S S' → Pv y v S → Pv y v S')
    (hs : ∀ (i : Nat) (y : α) (S : Hp), ys[i]? = some y → Ex K S → ∃ σ2, Tg gt (h y) (wipe σ vs) S σ2 ∧ wipe σ2 vs = wipe σ vs ∧ W g (te σ2) S (Pv y)) :
    W g (tLc wi gt tYes te vs σ) K (fun v S => ∃ p xs, v = .ref p ∧ K p = none ∧ S p = some (.lst xs) ∧ xs.length = ys.length ∧ ∀ (i : Nat) y x, ys[i]? = some y → xs[i]? = some x → Pv y x S) :=
  w_lcY hw fun zs S e ey => by
    subst ey
    refine ⟨fun i acc S' => i ≤ ys.length ∧ acc.length = i ∧ ∀ (j : Nat) y x, ys[j]? = some y → acc[j]? = some x → Pv y x S', ⟨Nat.zero_le _, rfl, fun j y x _ h2 => by cases h2⟩, fun i acc S' ⟨hi, ea, _⟩ => by omega, fun i x acc S' hx e1 ⟨hi, ea, hP⟩ => ?_, fun acc S' p e1 ⟨hi, ea, hP⟩ hp hk => ?_⟩
    · rw [List.getElem?_map] at hx
      obtain ⟨y, hy, ex⟩ := Option.map_eq_some_iff.mp hx
      subst ex
      obtain ⟨σ2, hg, hw2, ht⟩ := hs i y S' hy (e.trans e1)
      refine ⟨σ2, hg, hw2, ht.imp fun v S3 e3 hv => ⟨(List.getElem?_eq_some_iff.mp hy).1, by rw [List.length_append, ea]; rfl, fun j y2 x2 h1 h2 => ?_⟩⟩
      rcases Nat.lt_or_ge j acc.length with hj | hj
      · rw [List.getElem?_append_left hj] at h2
        exact hm _ _ _ _ e3 (hP j y2 x2 h1 h2)
      · rw [List.getElem?_append_right hj] at h2
        have ej : j = acc.length := by
          have := (List.getElem?_eq_some_iff.mp h2).1
          simp at this
          omega
        subst ej
        rw [ea] at h1
        rw [hy] at h1
        cases h1
        simp at h2
        rw [← h2]
        exact hv
    · rw [List.length_map] at ea
      exact ⟨p, acc, rfl, hk, upd_same, by rw [ea], fun j y x h1 h2 => hm _ _ _ _ (Ex.new hp) (hP j y x h1 h2)⟩
end
section
variable {c : Ct} {m : List (Addr × HO)} {K : Hp} {σ : L2.St} {D : Ends} {t u : TS} {tt : TT} {b : Bool} {te : TE} {v : V} {R : V → Hp → Prop} {post : V → Hp → Prop} {i : Nat}
theorem g_ifF (h : W c.g (tt σ) K (Is b)) (e : b = false) (k : G c D.nx σ m K) : G c (tIfS tt t tNext D) σ m K := g_if h (fun z => by rw [e] at z; cases z) fun _ => k
theorem g_ifN (h : W c.g (tt σ) K (Is b)) (h1 : b = true → G c (t D) σ m K) (h2 : b = false → G c D.nx σ m K) : G c (tIfS tt t tNext D) σ m K := g_if h h1 h2
theorem g_ifFE (h : W c.g (tt σ) K (Is b)) (e : b = false) (k : G c (u D) σ m K) : G c (tIfS tt t u D) σ m K := g_if h (fun z => by rw [e] at z; cases z) fun _ => k
theorem g_ifT (h : W c.g (tt σ) K (Is b)) (e : b = true) (k : G c (t D) σ m K) : G c (tIfS tt t u D) σ m K := g_if h (fun _ => k) fun z => by rw [e] at z; cases z
theorem g_ifMF (h : Ex K (ov m K) → W c.g (tt σ) (ov m K) (Is b)) (e : b = false) (k : G c D.nx σ m K) : G c (tIfS tt t tNext D) σ m K := g_ifM h (fun z => by rw [e] at z; cases z) fun _ => k
theorem g_retI (h : W c.g (te σ) K (Is v)) (hQ : ∀ v S H', At c.g c.K0 c.H0 S H' → post v S → D.rt v H') (k : ∀ S, Ex K S → post v S) : G c (tRet te D) σ m K := g_retP h hQ fun w S e hv => by rw [hv]; exact k S e
theorem g_dropI (h : W c.g (te σ) K (Is v)) (k : G c D.nx σ m K) : G c (tDrop te D) σ m K := fun H s => h K H (.refl _) s.a.here _ fun v S H' d hv => k H' ((s.to d).weak s.a.kk d.kk)
end
section
variable {g : Bg} {K : Hp} {σ : L2.St} {ta te : TE} {tr : TA} {sp : Sp} {E : XK} {R : V → Hp → Prop} {vs : List V} {Ra : List V → Hp → Prop}
theorem w_c0 (h : W g (tr σ) K (Is vs)) (hs : SpW g sp vs K R) : W g (tCall sp [] E tr σ) K R := w_call h (by rw [List.append_nil]; exact hs)
theorem w_cR (h : W g (tr σ) K Ra) (hs : ∀ vs S, Ex K S → Ra vs S → SpW g sp vs S R) : W g (tCall sp [] E tr σ) K R := w_callR h fun vs S e hv => by rw [List.append_nil]; exact hs vs S e hv
theorem w_m0 {C p dx : Addr} {mn : Str} {fs : List (Str × V)} (ho : W g (ta σ) K (Is (.ref p))) (hk : K p = some (.ins C dx fs)) (hl : fs.lookup mn = none) (h : W g (tr σ) K (Is vs)) (hs : SpW g sp (.ref p :: vs) K R) : W g (tMeth C mn sp [] E ta tr σ) K R :=
  w_meth ho hk hl h (by rw [List.append_nil]; exact hs)
theorem w_mR {C p dx : Addr} {mn : Str} {fs : List (Str × V)} (ho : W g (ta σ) K (Is (.ref p))) (hk : K p = some (.ins C dx fs)) (hl : fs.lookup mn = none) (h : W g (tr σ) K Ra) (hs : ∀ vs S, Ex K S → Ra vs S → SpW g sp (.ref p :: vs) S R) : W g (tMeth C mn sp [] E ta tr σ) K R :=
  w_methR ho hk hl h fun vs S e hv => by rw [List.append_nil]; exact hs vs S e hv
theorem w_make0 {C : Addr} (ha : W g (tr σ) K Ra) (hs : ∀ vs S, Ex K S → Ra vs S → ∀ x dx, S x = none → K x = none → dx ≠ x → SpO g sp x (.ins C dx []) (.ref x :: vs) S fun v o' S' => v = .non ∧ (S' x = none → R (.ref x) (upd S' x o'))) : W g (tMake C sp [] E tr σ) K R :=
  w_make ha fun vs S e hv x dx h1 h2 h3 => by rw [List.append_nil]; exact hs vs S e hv x dx h1 h2 h3
end
section
variable {c : Ct} {m : List (Addr × HO)} {K : Hp} {σ : L2.St} {ta : TE} {tr : TA} {r : Addr} {o : HO} {sp : Sp} {E : XK} {RO : V → HO → Hp → Prop} {Ra : List V → Hp → Prop}
theorem wo_c0 (ha : W c.g (tr σ) K Ra) (hs : ∀ vs S, Ex K S → Ra vs S → SpO c.g sp r o vs S RO) : WO c (tCall sp [] E tr σ) r o m K RO := wo_call ha fun vs S e hv => by rw [List.append_nil]; exact hs vs S e hv
theorem wo_m0 {C dx : Addr} {mn : Str} {fs : List (Str × V)} (ho : W c.g (ta σ) K (Is (.ref r))) (hl : fs.lookup mn = none) (ha : W c.g (tr σ) K Ra) (hs : ∀ vs S, Ex K S → Ra vs S → SpO c.g sp r (.ins C dx fs) (.ref r :: vs) S RO) :
    WO c (tMeth C mn sp [] E ta tr σ) r (.ins C dx fs) m K RO := wo_meth ho hl ha fun vs S e hv => by rw [List.append_nil]; exact hs vs S e hv
end
section
variable {g : Bg} {K : Hp} {σ : L2.St} {ta tb : TE} {t u : TT} {a b : Bool}
theorem w_andU (h1 : W g (t σ) K (Is a)) (h2 : W g (u σ) K (Is b)) : W g (tAnd t u σ) K (Is (a && b)) := w_and h1 fun _ => h2
theorem w_orU (h1 : W g (t σ) K (Is a)) (h2 : W g (u σ) K (Is b)) : W g (tOr t u σ) K (Is (a || b)) := w_or h1 fun _ => h2
theorem w_andVU (h1 : W g (ta σ) K (Is (.bl a))) (h2 : W g (tb σ) K (Is (.bl b))) : W g (tAndV ta tb σ) K (Is (.bl (a && b))) := w_andV h1 fun _ => h2
theorem w_orVU (h1 : W g (ta σ) K (Is (.bl a))) (h2 : W g (tb σ) K (Is (.bl b))) : W g (tOrV ta tb σ) K (Is (.bl (a || b))) := w_orV h1 fun _ => h2
end
end Cm

/-! ## C6 -/
set_option maxHeartbeats 4000000
/-! The statements' rules, with the rest of the block behind them. -/
namespace Cm
open PySem PySem.Spec PyProof.Rows L2 Evl
section
variable {c : Ct} {m : List (Addr × HO)} {K : Hp} {σ : L2.St} {D : Ends} {t u z : TS} {tt : TT} {b : Bool} {te ta tb tv : TE} {tr : TA} {v : V} {R : V → Hp → Prop} {i : Nat} {Kf : PySem.W.Frag} {r : Addr} {o : HO} {gt : TG} {wi : TI} {x y w : V} {j l : Nat}
theorem gs_ifF (h : W c.g (tt σ) K (Is b)) (e : b = false) (k : G c (z D) σ m K) : G c (tSeq (tIfS tt t tNext) z D) σ m K := g_ifF (D := { D with nx := z D }) h e k
theorem gs_ifFE (h : W c.g (tt σ) K (Is b)) (e : b = false) (k : G c (u { D with nx := z D }) σ m K) : G c (tSeq (tIfS tt t u) z D) σ m K := g_ifFE (D := { D with nx := z D }) h e k
theorem gs_ifN (h : W c.g (tt σ) K (Is b)) (h1 : b = true → G c (t { D with nx := z D }) σ m K) (h2 : b = false → G c (z D) σ m K) : G c (tSeq (tIfS tt t tNext) z D) σ m K := g_ifN (D := { D with nx := z D }) h h1 h2
theorem gs_if (h : W c.g (tt σ) K (Is b)) (h1 : b = true → G c (t { D with nx := z D }) σ m K) (h2 : b = false → G c (u { D with nx := z D }) σ m K) : G c (tSeq (tIfS tt t u) z D) σ m K := g_if (D := { D with nx := z D }) h h1 h2
theorem gs_ifMN (h : Ex K (ov m K) → W c.g (tt σ) (ov m K) (Is b)) (h1 : b = true → G c (t { D with nx := z D }) σ m K) (h2 : b = false → G c (z D) σ m K) : G c (tSeq (tIfS tt t tNext) z D) σ m K := g_ifM (D := { D with nx := z D }) h h1 h2
theorem gs_asg (h : W c.g (te σ) K R) (k : ∀ v S, Ex K S → R v S → G c (z D) (σ.set i (some v)) m S) : G c (tSeq (tAsg te (gName i)) z D) σ m K := g_asg (D := { D with nx := z D }) h k
theorem gs_asgI (h : W c.g (te σ) K (Is v)) (k : G c (z D) (σ.set i (some v)) m K) : G c (tSeq (tAsg te (gName i)) z D) σ m K := g_asgI (D := { D with nx := z D }) h k
theorem gs_asgM (h : Ex K (ov m K) → W c.g (te σ) (ov m K) (Is v)) (k : G c (z D) (σ.set i (some v)) m K) : G c (tSeq (tAsg te (gName i)) z D) σ m K := g_asgM (D := { D with nx := z D }) h k
theorem gs_asgV (h : Ex K (ov m K) → W c.g (te σ) (ov m K) R) (k : ∀ v S, Ex (ov m K) S → Ex K (drm m S) → R v S → G c (z D) (σ.set i (some v)) m (drm m S)) : G c (tSeq (tAsg te (gName i)) z D) σ m K := g_asgV (D := { D with nx := z D }) h k
theorem gs_drop (h : W c.g (te σ) K R) (k : ∀ v S, Ex K S → R v S → G c (z D) σ m S) : G c (tSeq (tDrop te) z D) σ m K := g_drop (D := { D with nx := z D }) h k
theorem gs_dropI (h : W c.g (te σ) K (Is v)) (k : G c (z D) σ m K) : G c (tSeq (tDrop te) z D) σ m K := g_dropI (D := { D with nx := z D }) h k
theorem gs_dropVI (h : Ex K (ov m K) → W c.g (te σ) (ov m K) (Is v)) (k : G c (z D) σ m K) : G c (tSeq (tDrop te) z D) σ m K := g_dropVI (D := { D with nx := z D }) h k
theorem gs_dropO {RO : V → HO → Hp → Prop} (h : WO c (te σ) r o m K RO) (k : ∀ v o' S, Ex K S → RO v o' S → G c (z D) σ ((r, o') :: m) S) : G c (tSeq (tDrop te) z D) σ ((r, o) :: m) K := g_dropO (D := { D with nx := z D }) h k
theorem gs_asgG (h : W c.g (te σ) K R) (k : ∀ v S, Ex K S → R v S → G c (fun σ H => gt v σ H (z D)) σ m S) : G c (tSeq (tAsg te gt) z D) σ m K := g_asgG (D := { D with nx := z D }) h k
/-- a, b = e; a, b, c = e -/
theorem gs_un2 {q : Addr} (h : W c.g (te σ) K (Is (.ref q))) (hs : SqT Kf K q [x, y]) (k : G c (z D) ((σ.set i (some x)).set j (some y)) m K) : G c (tSeq (tAsg te (gTup Kf 2 (gCons (gName i) (gCons (gName j) gNil)))) z D) σ m K :=
  fun H s => h K H (.refl _) s.a.here _ fun v S H' d hv => by
    cases hv
    exact ⟨q, [x, y], rfl, ex_t (d.kk.trans d.kh) hs, rfl, x, [y], rfl, y, [], rfl, rfl, k H' ((s.to d).weak s.a.kk d.kk)⟩
theorem gs_un3 {q : Addr} (h : W c.g (te σ) K (Is (.ref q))) (hs : SqT Kf K q [x, y, w]) (k : G c (z D) (((σ.set i (some x)).set j (some y)).set l (some w)) m K) : G c (tSeq (tAsg te (gTup Kf 3 (gCons (gName i) (gCons (gName j) (gCons (gName l) gNil))))) z D) σ m K :=
  fun H s => h K H (.refl _) s.a.here _ fun v S H' d hv => by
    cases hv
    exact ⟨q, [x, y, w], rfl, ex_t (d.kk.trans d.kh) hs, rfl, x, [y, w], rfl, y, [w], rfl, w, [], rfl, rfl, k H' ((s.to d).weak s.a.kk d.kk)⟩
theorem gs_fld {C dx : Addr} {f : Str} {fs : List (Str × V)} (hv : Ex K (ov ((r, .ins C dx fs) :: m) K) → W c.g (tv σ) (ov ((r, .ins C dx fs) :: m) K) R) (ho : ∀ S, W c.g (ta σ) S (Is (.ref r))) (hc : Cls Kf C) (hn : NoAttr Kf C f) (hl : fs.length < 1000)
    (k : ∀ y S, Ex (ov ((r, .ins C dx fs) :: m) K) S → Ex K (drm ((r, .ins C dx fs) :: m) S) → R y S → G c (z D) σ ((r, .ins C dx (putF f y fs)) :: m) (drm ((r, .ins C dx fs) :: m) S)) : G c (tSeq (sFld Kf ta tv f) z D) σ ((r, .ins C dx fs) :: m) K :=
  g_fld (D := { D with nx := z D }) hv ho hc hn hl k
theorem gs_newLR {Ra : List V → Hp → Prop} (h : W c.g (tr σ) K Ra) (k : ∀ xs S, Ex K S → Ra xs S → xs.length ≤ 1000 ∧ ∀ p, S p = none → c.H0 p = none → G c (z D) (σ.set i (some (.ref p))) ((p, .lst xs) :: m) S) : G c (tSeq (tAsg (tLst tr) (gName i)) z D) σ m K := g_newLR (D := { D with nx := z D }) h k
theorem gs_newL {xs : List V} (h : W c.g (tr σ) K (Is xs)) (hl : xs.length ≤ 1000) (k : ∀ p, K p = none → c.H0 p = none → G c (z D) (σ.set i (some (.ref p))) ((p, .lst xs) :: m) K) : G c (tSeq (tAsg (tLst tr) (gName i)) z D) σ m K := g_newL (D := { D with nx := z D }) h hl k
theorem gs_newK (k : ∀ p, K p = none → c.H0 p = none → G c (z D) (σ.set i (some (.ref p))) ((p, .dK []) :: m) K) : G c (tSeq (tAsg tDNewK (gName i)) z D) σ m K := g_newK (D := { D with nx := z D }) k
theorem gs_newT (k : ∀ p, K p = none → c.H0 p = none → G c (z D) (σ.set i (some (.ref p))) ((p, .dT []) :: m) K) : G c (tSeq (tAsg tDNewT (gName i)) z D) σ m K := g_newT (D := { D with nx := z D }) k
theorem gs_asgN {ob : HO} (h : W c.g (te σ) K fun v S => ∃ p, v = .ref p ∧ K p = none ∧ S p = some ob ∧ R v S) (nt : NotT ob) (k : ∀ p S, Ex K S → K p = none → S p = some ob → R (.ref p) S → G c (z D) (σ.set i (some (.ref p))) ((p, ob) :: m) (cut1 S p)) : G c (tSeq (tAsg te (gName i)) z D) σ m K := g_asgN (D := { D with nx := z D }) h nt k
theorem gs_app {p : Addr} {xs : List V} {to : TE} (ho : W c.g (to σ) K (Is (.ref p))) (h : W c.g (te σ) K R) (hz : xs.length < 10000) (k : ∀ v S, Ex K S → R v S → G c (z D) σ ((p, .lst (xs ++ [v])) :: m) S) : G c (tSeq (tDrop (tBM Kf "list" rAppend to (tCons te tNil))) z D) σ ((p, .lst xs) :: m) K := g_app (D := { D with nx := z D }) ho h hz k
theorem gs_for {Rs : List V → Hp → Prop} (h : W c.g (wi σ) K fun J S => ∃ xs, Wk S J xs ∧ Rs xs S)
    (k : ∀ xs S, Ex K S → Rs xs S → ∃ Inv : Nat → L2.St → List (Addr × HO) → Hp → Prop, Inv 0 σ m S ∧ (∀ i σ' m' K', Inv i σ' m' K' → Ex S K') ∧
      (∀ (i : Nat) x σ' m' K', xs[i]? = some x → Inv i σ' m' K' → G c (fun σ H => gt x σ H (t { D with nx := LoopN c Inv (i + 1), ct := LoopN c Inv (i + 1), bk := z D })) σ' m' K') ∧
      ∀ σ' m' K', Inv xs.length σ' m' K' → G c (z D) σ' m' K') : G c (tSeq (tFor wi gt t) z D) σ m K := g_for (D := { D with nx := z D }) h k
theorem gs_forKT {kvs : List (List Key × V)} (h : W c.g (wi σ) K fun J S => WkT S J kvs)
    (k : ∀ S, Ex K S → ∃ Inv : Nat → L2.St → List (Addr × HO) → Hp → Prop, Inv 0 σ m S ∧ (∀ i σ' m' K', Inv i σ' m' K' → Ex S K') ∧
      (∀ (i : Nat) (ky : List Key) (x : V) (q : Addr) σ' m' K', kvs[i]? = some (ky, x) → Inv i σ' m' K' → (∀ p ∈ m', p.1 ≠ q) → Ex K' (upd K' q (.tup (ky.map kV))) →
        G c (fun σ H => gt (.ref q) σ H (t { D with nx := LoopN c Inv (i + 1), ct := LoopN c Inv (i + 1), bk := z D })) σ' m' (upd K' q (.tup (ky.map kV)))) ∧
      ∀ σ' m' K', Inv kvs.length σ' m' K' → G c (z D) σ' m' K') : G c (tSeq (tFor wi gt t) z D) σ m K := g_forKT (D := { D with nx := z D }) h k
theorem g_name {P : L2.St → Hp → Prop} (h : G c P (σ.set i (some x)) m K) : G c (fun σ H => gName i x σ H P) σ m K := h
/-- the end of a turn -/
theorem g_turn {Inv : Nat → L2.St → List (Addr × HO) → Hp → Prop} {B : L2.St → Hp → Prop} {rt : VK} (h : Inv j σ m K) : G c (Ends.nx { nx := LoopN c Inv j, rt := rt, bk := B, ct := LoopN c Inv j }) σ m K := g_loop h
end
section
variable {g : Bg} {K : Hp} {Kf : PySem.W.Frag} {σ : L2.St} {wi : TI} {gt : TG} {tt : TT} {te : TE} {vs : List Nat} {R : V → Hp → Prop} {o : HO} {rr : List V → Hp → VK → Prop} {sp : Sp} {E : XK}
/-- f([..]): a new thing handed in -/
theorem w_cbN (h : W g (te σ) K (NewO K o)) (hr : ∀ p S, Ex K S → S p = some o → W g (rr [.ref p]) S R) : W g (tCB rr (tCons te tNil) σ) K R :=
  w_cbR (w_consR (R := fun vs S => ∃ p, vs = [.ref p] ∧ S p = some o) h fun v S e hx => w_nilR fun S2 e2 => by
    obtain ⟨p, ev, _, hp⟩ := hx
    exact ⟨p, by rw [ev], e2 _ _ hp⟩) fun vs S e hv => by
    obtain ⟨p, ev, hs⟩ := hv
    subst ev
    exact hr p S e hs
theorem w_cN (h : W g (te σ) K (NewO K o)) (hr : ∀ p S, Ex K S → S p = some o → SpW g sp [.ref p] S R) : W g (tCall sp [] E (tCons te tNil) σ) K R :=
  w_cR (w_consR (R := fun vs S => ∃ p, vs = [.ref p] ∧ S p = some o) h fun v S e hx => w_nilR fun S2 e2 => by
    obtain ⟨p, ev, _, hp⟩ := hx
    exact ⟨p, by rw [ev], e2 _ _ hp⟩) fun vs S e hv => by
    obtain ⟨p, ev, hs⟩ := hv
    subst ev
    exact hr p S e hs
theorem w_allLc {α : Type} {ys : List α} {h : α → V} {p : α → Bool} (hw : W g (wi σ) K fun J S => ∃ zs, Wk S J zs ∧ zs = ys.map h) (hz : ys.length < 100000)
    (hs : ∀ (i : Nat) (y : α) (S : Hp), ys[i]? = some y → Ex K S → ∃ σ2, Tg gt (h y) (wipe σ vs) S σ2 ∧ wipe σ2 vs = wipe σ vs ∧ W g (te σ2) S (Is (.bl (p y)))) : W g (tCB (rAll Kf) (tCons (tLc wi gt tYes te vs) tNil) σ) K (Is (.bl (ys.all p))) :=
  w_cbN (w_lcA (f := fun y => V.bl (p y)) hw hz hs) fun q S e hq => (w_all (bs := ys.map p) (sq_of (by rw [hq, List.map_map] <;> rfl))).is (by
    congr 1
    rw [List.all_map] <;> rfl)
theorem w_sumLc {α : Type} {ys : List α} {h : α → V} {f : α → Int} (hw : W g (wi σ) K fun J S => ∃ zs, Wk S J zs ∧ zs = ys.map h) (hz : ys.length < 100000)
    (hs : ∀ (i : Nat) (y : α) (S : Hp), ys[i]? = some y → Ex K S → ∃ σ2, Tg gt (h y) (wipe σ vs) S σ2 ∧ wipe σ2 vs = wipe σ vs ∧ W g (te σ2) S (Is (.int (f y)))) : W g (tCB (rSum Kf) (tCons (tLc wi gt tYes te vs) tNil) σ) K (Is (.int (ys.map f).sum)) :=
  w_cbN (w_lcA (f := fun y => V.int (f y)) hw hz hs) fun q S e hq => w_sum (ns := ys.map f) (sq_of (by rw [hq, List.map_map] <;> rfl))
theorem w_lenLcF {α : Type} {ys : List α} {h : α → V} {p : α → Bool} {f : α → V} (hw : W g (wi σ) K fun J S => ∃ zs, Wk S J zs ∧ zs = ys.map h) (hz : ys.length < 100000)
    (hs : ∀ (i : Nat) (y : α) (S : Hp), ys[i]? = some y → Ex K S → ∃ σ2, Tg gt (h y) (wipe σ vs) S σ2 ∧ wipe σ2 vs = wipe σ vs ∧ W g (tt σ2) S (Is (p y)) ∧ (p y = true → W g (te σ2) S (Is (f y)))) : W g (tCB (rLenS Kf) (tCons (tLc wi gt tt te vs) tNil) σ) K (Is (.int ((ys.filter p).length : Int))) :=
  w_cbN (w_lcF hw hz hs) fun q S e hq => (w_lenL (sq_of hq)).is (by rw [List.length_map])
end
theorem rgL0 {n : Nat} : rgL 0 n = (List.range n).map fun i => V.int (i : Nat) := List.map_congr_left fun i _ => by rw [Int.zero_add]
theorem w_iN {g : Bg} {K : Hp} {σ : L2.St} {tr : TA} {n : Nat} {k : Int} (h : W g (tr σ) K (Is [.int k])) (e : k = n) (hn : n < 100000) : W g (iRng1 tr σ) K (fun J S => ∃ ys, Wk S J ys ∧ ys = (List.range n).map fun i => V.int (i : Nat)) :=
  (w_iR1 h (by omega)).imp fun J S _ hJ => by
    obtain ⟨ys, h1, h2⟩ := hJ
    refine ⟨ys, h1, ?_⟩
    rw [h2, e, Int.toNat_natCast, rgL0]
end Cm

/-! ## C7 -/
set_option maxHeartbeats 4000000
/-! Data compared. -/
namespace Cm
open PySem PySem.Spec PyProof.Rows L2 Evl
theorem canI : ∀ ns : List Int, PyData.canLayAll0 (ns.map PyData.int) = true
  | [] => by simp [PyData.canLayAll0]
  | n :: ns => by simp [PyData.canLayAll0, PyData.canLay0, canI ns]
theorem depI : ∀ ns : List Int, PyData.depthAll (ns.map PyData.int) ≤ 1
  | [] => by simp [PyData.depthAll]
  | n :: ns => by
    have := depI ns
    simp only [List.map_cons, PyData.depthAll, PyData.depth]
    omega
theorem shL (ns : List Int) : SeqAt.shaped (.list (ns.map PyData.int)) = true := by
  have := depI ns
  simp only [SeqAt.shaped, PyData.canLay0, canI ns, PyData.depth, Bool.true_and]
  exact decide_eq_true (by omega)
theorem shT (ns : List Int) : SeqAt.shaped (.tuple (ns.map PyData.int)) = true := by
  have := depI ns
  simp only [SeqAt.shaped, PyData.canLay0, canI ns, PyData.depth, Bool.true_and]
  exact decide_eq_true (by omega)
theorem canS : ∀ ss : List Str, (∀ s ∈ ss, ∀ c ∈ s.cps.toList, c < 128) → PyData.canLayAll0 (ss.map PyData.str) = true
  | [], _ => by simp [PyData.canLayAll0]
  | s :: ss, h => by
    have h1 : PyData.canLay0 (.str s) = true := by
      show s.cps.all (· < 0x110000) = true
      rw [← Array.all_toList, List.all_eq_true]
      intro c hc
      have := h s List.mem_cons_self c hc
      exact decide_eq_true (by omega)
    simp [PyData.canLayAll0, h1, canS ss fun x hx => h x (List.mem_cons_of_mem _ hx)]
theorem depS : ∀ ss : List Str, PyData.depthAll (ss.map PyData.str) ≤ 1
  | [] => by simp [PyData.depthAll]
  | n :: ns => by
    have := depS ns
    simp only [List.map_cons, PyData.depthAll, PyData.depth]
    omega
theorem shS {ss : List Str} (h : ∀ s ∈ ss, ∀ c ∈ s.cps.toList, c < 128) : SeqAt.shaped (.list (ss.map PyData.str)) = true := by
  have := depS ss
  simp only [SeqAt.shaped, PyData.canLay0, canS ss h, PyData.depth, Bool.true_and]
  exact decide_eq_true (by omega)
theorem eqI (ns ms : List Int) : PyData.eqv (.list (ns.map PyData.int)) (.list (ms.map PyData.int)) = decide (ns = ms) := by
  simp only [PyData.eqv]
  exact PySem.W.ked_eqvAll ns ms
theorem eqTI (ns ms : List Int) : PyData.eqv (.tuple (ns.map PyData.int)) (.tuple (ms.map PyData.int)) = decide (ns = ms) := by
  simp only [PyData.eqv]
  exact PySem.W.ked_eqvAll ns ms
section
variable {Kf : PySem.W.Frag} {S H : Hp} {p : Addr} {g : Bg}
theorem dpI : ∀ ns : List Int, DpAll Kf H (ns.map V.int) (ns.map PyData.int)
  | [] => .nil
  | n :: ns => .cons (.int n) (dpI ns)
theorem dpS : ∀ ss : List Str, DpAll Kf H (ss.map V.str) (ss.map PyData.str)
  | [] => .nil
  | s :: ss => .cons (.str s) (dpS ss)
theorem dpLI {ns : List Int} (h : S p = some (.lst (ns.map V.int))) (H : Hp) (e : Ex S H) : Dp Kf H (.ref p) (.list (ns.map PyData.int)) := .lst (sq_of (e _ _ h)) (dpI ns)
theorem dpTI {ns : List Int} (h : S p = some (.tup (ns.map V.int))) (H : Hp) (e : Ex S H) : Dp Kf H (.ref p) (.tuple (ns.map PyData.int)) := .tup (st_of (e _ _ h)) (dpI ns)
theorem dpLS {ss : List Str} (h : S p = some (.lst (ss.map V.str))) (H : Hp) (e : Ex S H) : Dp Kf H (.ref p) (.list (ss.map PyData.str)) := .lst (sq_of (e _ _ h)) (dpS ss)
theorem w_eqLI {p q : Addr} {ns ms : List Int} (h1 : S p = some (.lst (ns.map V.int))) (h2 : S q = some (.lst (ms.map V.int))) : W g (rEqD Kf (.ref p) (.ref q)) S (Is (.bl (decide (ns = ms)))) :=
  (w_eqD (dpLI h1) (dpLI h2) (shL ns) (shL ms)).is (by rw [eqI])
theorem w_eqTI {p q : Addr} {ns ms : List Int} (h1 : S p = some (.tup (ns.map V.int))) (h2 : S q = some (.tup (ms.map V.int))) : W g (rEqD Kf (.ref p) (.ref q)) S (Is (.bl (decide (ns = ms)))) :=
  (w_eqD (dpTI h1) (dpTI h2) (shT ns) (shT ms)).is (by rw [eqTI])
theorem w_neLS {p q : Addr} {ss : List Str} (h1 : S p = some (.lst (ss.map V.str))) (h2 : S q = some (.lst (ss.map V.str))) (ok : ∀ s ∈ ss, ∀ c ∈ s.cps.toList, c < 128) : W g (rNeD Kf (.ref p) (.ref q)) S (Is (.bl false)) :=
  (w_neD (dpLS h1) (dpLS h2) (shS ok) (shS ok)).is (by rw [SeqAt.eqv_refl _ (SeqAt.canLay_of_shaped (shS ok))] <;> rfl)
end
section
variable {g : Bg} {K : Hp} {Kf : PySem.W.Frag} {σ : L2.St} {ta tb : TE} {r : R2} {o : HO} {R : V → Hp → Prop} {y : V}
/-- a new thing on the left, on the right, on both sides -/
theorem w_opN1 (h : W g (ta σ) K (NewO K o)) (hb : ∀ S, Ex K S → W g (tb σ) S (Is y)) (hr : ∀ p S, Ex K S → S p = some o → W g (r (.ref p) y) S R) : W g (tOp r ta tb σ) K R :=
  w_opR h fun x S e hx => by
    obtain ⟨p, ev, _, hp⟩ := hx
    subst ev
    exact (hb S e).bindI (h := fun (y : V) (H : Hp) (Q : VK) => r (.ref p) y H Q) (hr p S e hp)
theorem w_opN2 {x : V} (ha : W g (ta σ) K (Is x)) (h : W g (tb σ) K (NewO K o)) (hr : ∀ p S, Ex K S → S p = some o → W g (r x (.ref p)) S R) : W g (tOp r ta tb σ) K R :=
  ha.bindI (h := fun (x : V) (H : Hp) (Q : VK) => tb σ H fun y H2 => r x y H2 Q) (h.bind (h := fun (y : V) (H : Hp) (Q : VK) => r x y H Q) fun v S e hv => by
    obtain ⟨p, ev, _, hp⟩ := hv
    subst ev
    exact hr p S e hp)
end
section
variable {g : Bg} {K S : Hp} {Kf : PySem.W.Frag} {σ : L2.St} {te : TE} {p : Addr} {xs : List V} {v : V} {R : V → Hp → Prop}
/-! lists or tuples -/
theorem w_lenQ (h : SqL Kf K p xs ∨ SqT Kf K p xs) : W g (rLenS Kf [.ref p]) K (Is (.int (xs.length : Int))) := h.elim w_lenL w_lenT
theorem w_iQ (h : W g (te σ) K (Is (.ref p))) (hx : SqL Kf K p xs ∨ SqT Kf K p xs) : W g (iSeq Kf te σ) K (fun J S => ∃ ys, Wk S J ys ∧ ys = xs) := hx.elim (w_iQL h) (w_iQT h)
theorem w_ixQ {i : Int} (h : SqL Kf K p xs ∨ SqT Kf K p xs) (ha : atI xs i = some v) : W g (rIx Kf (.ref p) (.int i)) K (Is v) := h.elim (fun h => w_ixQL h ha) fun h => w_ixQT h ha
theorem w_isiLT {t : String} {c1 c2 : TE} (hx : W g (te σ) K (Is (.ref p))) (h1 : W g (c1 σ) K (Is (.ty "list"))) (h2 : W g (c2 σ) K (Is (.ty "tuple"))) (ht : ∀ H, Ex K H → TyX Kf H (.ref p) (.type t)) (hk : t = "list" ∨ t = "tuple") :
    W g (tCB (rIsiT Kf) (tCons te (tCons (tTup (tCons c1 (tCons c2 tNil))) tNil)) σ) K (Is (.bl true)) :=
  w_cbR (w_consR (R := fun vs S => ∃ q, vs = [.ref p, .ref q] ∧ S q = some (.tup [.ty "list", .ty "tuple"])) hx fun v S e hv => by
    cases hv
    exact w_consR (w_tup (w_cons (h1.mono e) (w_cons (h2.mono e) w_nil))) fun v S2 e2 hv => w_nilR fun S3 e3 => by
      obtain ⟨q, ev, hq⟩ := hv
      exact ⟨q, by rw [ev], e3 _ _ hq⟩) fun vs S e hv => by
    obtain ⟨q, ev, hq⟩ := hv
    subst ev
    refine w_val fun H e2 Q k => ⟨.ref p, q, [.ty "list", .ty "tuple"], .type t, [.type "list", .type "tuple"], true, rfl, e2 _ _ hq, .cons (.ty _) (.cons (.ty _) .nil), ht H (e.trans e2), ?_, k⟩
    rcases hk with h | h
    · subst h
      exact kitAny_cons (kit_ty (r := true) (by decide +kernel)) (fun z => by cases z) fun _ => rfl
    · subst h
      exact kitAny_cons (kit_ty (r := false) (by decide +kernel)) (fun _ => kitAny_cons (kit_ty (r := true) (by decide +kernel)) (fun z => by cases z) fun _ => rfl) fun z => by cases z
end
section
variable {c : Ct} {m : List (Addr × HO)} {K : Hp} {σ : L2.St} {D : Ends} {z : TS} {te : TE} {x y w : V} {i j l : Nat} {Kf : PySem.W.Frag} {P : L2.St → Hp → Prop}
theorem g_tg {gt : TG} {v : V} {σ2 : L2.St} (h : Tg gt v σ K σ2) (k : G c P σ2 m K) : G c (fun σ H => gt v σ H P) σ m K := fun H s => h H P s.a.kh (k H s)
theorem gs_un2N (h : W c.g (te σ) K fun v S => ∃ q, v = .ref q ∧ SqT Kf S q [x, y]) (k : ∀ S, Ex K S → G c (z D) ((σ.set i (some x)).set j (some y)) m S) : G c (tSeq (tAsg te (gTup Kf 2 (gCons (gName i) (gCons (gName j) gNil)))) z D) σ m K :=
  gs_asgG h fun v S e hv => by
    obtain ⟨q, ev, hs⟩ := hv
    subst ev
    exact g_tg (tg_t2 hs) (k S e)
end
theorem w_iNT {g : Bg} {K : Hp} {σ : L2.St} {tr : TA} {n : Nat} {k : Int} (h : W g (tr σ) K (Is [.int k])) (e : k.toNat = n) (hn : -100000 ≤ k ∧ k < 100000) : W g (iRng1 tr σ) K (fun J S => ∃ ys, Wk S J ys ∧ ys = (List.range n).map fun i => V.int (i : Nat)) :=
  (w_iR1 h (by omega)).imp fun J S _ hJ => by
    obtain ⟨ys, h1, h2⟩ := hJ
    refine ⟨ys, h1, ?_⟩
    rw [h2, e, rgL0]
theorem at_map {α : Type} {xs : List α} {f : α → V} {j : Nat} {y : α} (h : xs[j]? = some y) : atI (xs.map f) (j : Int) = some (f y) := atI_nat (by rw [List.getElem?_map, h] <;> rfl)
theorem getD_at {xs : List Int} {j : Nat} (h : j < xs.length) : xs[j]? = some (xs.getD j 0) := by
  rw [List.getD_eq_getElem?_getD, List.getElem?_eq_getElem h] <;> rfl
section
variable {g : Bg} {K : Hp} {σ : L2.St} {tr : TA} {xs : List V}
theorem w_tupO (h : W g (tr σ) K (Is xs)) (hl : xs.length ≤ 1000 := by first | decide | simp) : W g (tTup tr σ) K (NewO K (.tup xs)) :=
  fun K2 H e a Q q => h K2 H e a _ fun v S H' d hv => by
    cases hv
    exact ⟨Nat.le_trans hl (by decide), fun p hp => q _ _ _ (d.laid hp) ⟨p, rfl, e.free (a.kh.free (d.newH hp)), upd_same⟩⟩
theorem w_lstO (h : W g (tr σ) K (Is xs)) (hl : xs.length ≤ 1000 := by first | decide | simp) : W g (tLst tr σ) K (NewO K (.lst xs)) :=
  fun K2 H e a Q q => h K2 H e a _ fun v S H' d hv => by
    cases hv
    exact ⟨Nat.le_trans hl (by decide), fun p hp => q _ _ _ (d.laid hp) ⟨p, rfl, e.free (a.kh.free (d.newH hp)), upd_same⟩⟩
/-- ((..), y) -/
theorem w_tupIn {tb : TE} {y : V} (h : W g (tr σ) K (Is xs)) (hb : W g (tb σ) K (Is y)) (hl : xs.length ≤ 1000 := by first | decide | simp) : W g (tTup (tCons (tTup tr) (tCons tb tNil)) σ) K (fun v S => ∃ r r1, v = .ref r ∧ S r = some (.tup [.ref r1, y]) ∧ S r1 = some (.tup xs)) :=
  w_tupR (w_consR (R := fun ys S => ∃ r1, ys = [.ref r1, y] ∧ S r1 = some (.tup xs)) (w_tup h hl) fun v S e hv => by
    obtain ⟨r1, ev, hr⟩ := hv
    exact (w_cons (hb.mono e) w_nil).imp fun ys S2 e2 hx => by
      cases hx
      exact ⟨r1, by rw [ev], e2 _ _ hr⟩) fun ys S e hy => by
    obtain ⟨r1, ex, hr⟩ := hy
    subst ex
    exact ⟨by simp, fun p hp => ⟨p, r1, rfl, upd_same, by rw [upd_ne (ne_of_none hr hp)]; exact hr⟩⟩
end
end Cm

/-! ## C8 -/
set_option maxHeartbeats 4000000
/-! Lists popped and extended, things kept and given back, while. -/
namespace Cm
open PySem PySem.Spec PyProof.Rows L2 Evl
section
variable {c : Ct} {m : List (Addr × HO)} {K S : Hp} {σ : L2.St} {D : Ends} {z : TS} {te to : TE} {tr : TA} {R : List V → Hp → Prop} {P : L2.St → Hp → Prop} {i : Nat} {Kf : PySem.W.Frag} {p r : Addr} {xs : List V} {y : V} {o : HO}
theorem ov_some {a : Addr} {u : HO} (h : a ∈ m.map (·.1)) : ∃ q ∈ m, q.1 = a ∧ ov m K a = some q.2 := by
  induction m with
  | nil => cases h
  | cons q m ih =>
    by_cases e : a = q.1
    · exact ⟨q, List.mem_cons_self, e.symm, by rw [e]; exact upd_same⟩
    · rcases List.mem_cons.mp h with y | y
      · exact absurd y e
      · obtain ⟨w, h1, h2, h3⟩ := ih y
        exact ⟨w, List.mem_cons_of_mem _ h1, h2, by show upd (ov m K) q.1 q.2 a = _; rw [upd_ne e]; exact h3⟩
/-- a tuple that is known is no local thing -/
theorem drm_tup {a : Addr} {ys : List V} (e : Ex (ov m K) S) (nt : ∀ q ∈ m, NotT q.2) (h : S a = some (.tup ys)) : drm m S a = some (.tup ys) := by
  by_cases q : a ∈ m.map (·.1)
  · obtain ⟨w, h1, _, h3⟩ := ov_some (K := K) (u := .tup ys) q
    have := e _ _ h3
    rw [h] at this
    exact absurd (Option.some.inj this).symm (nt w h1 ys)
  · rw [drm_off q]; exact h
theorem g_keepH (k : K p = none → c.H0 p = none → G c P σ m (upd K p o)) : G c P σ ((p, o) :: m) K := fun H s => by
  have h0 := (s.mu (p, o) List.mem_cons_self).2.2
  exact g_keep (fun hk => k hk h0) H s
/-- .. and given back at the end -/
theorem St8.again {H : Hp} (s : St8 c [] S H) (h : S r = some o) (nt : NotT o) (h0 : c.H0 r = none) (k0 : c.K0 r = none) : St8 c [(r, o)] (cut1 S r) H := by
  have e0 : Ex c.K0 (cut1 S r) := fun a u h1 => by
    rw [cut_ne (fun z => by rw [z, k0] at h1; cases h1)]
    exact s.a.kk _ _ h1
  have s2 := s.weak e0 cut_le
  refine ⟨s2.a, fun q hq => ?_, fun q hq => ?_, by simp⟩
  · rw [List.mem_singleton.mp hq]; exact ⟨s.a.kh _ _ h, cut_at, h0⟩
  · rw [List.mem_singleton.mp hq]; exact nt
/-- forgetting local things -/
theorem St8.drop {H : Hp} {q : Addr × HO} (s : St8 c (q :: m) K H) : St8 c m K H :=
  ⟨s.a, fun w hw => s.mu w (List.mem_cons_of_mem _ hw), fun w hw => s.nt w (List.mem_cons_of_mem _ hw), by
    have := s.nd
    simp only [List.map_cons, List.nodup_cons] at this
    exact this.2⟩
/-- x = p.pop() -/
theorem gs_pop (ho : W c.g (to σ) K (Is (.ref p))) (hy : xs[xs.length - 1]? = some y) (k : G c (z D) (σ.set i (some y)) ((p, .lst xs.dropLast) :: m) K) : G c (tSeq (tAsg (tBM0 Kf "list" rPop to) (gName i)) z D) σ ((p, .lst xs) :: m) K :=
  fun H s => ho K H (.refl _) s.a.here _ fun v1 S1 H1 d1 hv1 => by
    cases hv1
    have s1 := (s.to d1).weak s.a.kk d1.kk
    have hp := (s1.mu _ List.mem_cons_self).1
    exact ⟨Or.inl ⟨rfl, xs, sq_of hp⟩, p, xs, y, rfl, rfl, hp, hy, k _ s1.wrote⟩
/-- p.extend(e), e a new list -/
theorem g_extV (ho : W c.g (to σ) K (Is (.ref p))) (hl : xs.length < 10000) (h : Ex K (ov ((p, .lst xs) :: m) K) → W c.g (te σ) (ov ((p, .lst xs) :: m) K) fun v S => ∃ b zs, v = .ref b ∧ ov ((p, .lst xs) :: m) K b = none ∧ S b = some (.lst zs) ∧ zs.length < 10000 ∧ R zs S)
    (k : ∀ zs S, Ex (ov ((p, .lst xs) :: m) K) S → Ex K (drm ((p, .lst xs) :: m) S) → R zs S → G c D.nx σ ((p, .lst (xs ++ zs)) :: m) (drm ((p, .lst xs) :: m) S)) : G c (tDrop (tBM Kf "list" rExtend to (tCons te tNil)) D) σ ((p, .lst xs) :: m) K :=
  fun H s => ho K H (.refl _) s.a.here _ fun v1 S1 H1 d1 hv1 => by
    cases hv1
    have s1 := (s.to d1).weak s.a.kk d1.kk
    have hp := (s1.mu _ List.mem_cons_self).1
    refine ⟨Or.inl ⟨rfl, xs, sq_of hp⟩, h s1.ovK _ H1 (.refl _) s1.hereM _ fun v S H' d hv => ?_⟩
    obtain ⟨b, zs, ev, hn, hb, hz, hR⟩ := hv
    subst ev
    have s2 := s1.toMV d
    refine ⟨p, b, xs, zs, rfl, rfl, (s2.mu _ List.mem_cons_self).1, d.kh _ _ hb, ?_, k zs S d.kk (drm_ex s1 d.kk) hR _ s2.wrote⟩
    exact Nat.le_trans (show xs.length + zs.length ≤ 20000 by omega) (by decide)
/-- the end of a turn of a while loop -/
theorem g_wturn {Inv : Nat → L2.St → List (Addr × HO) → Hp → Prop} {n n2 : Nat} (h : Inv n2 σ m K) (hn : n2 < n) : G c (fun σ H => ∃ n2, n2 < n ∧ LoopN c Inv n2 σ H) σ m K := fun H s => ⟨n2, hn, m, K, s, h⟩
theorem nodup_lt : ∀ (n : Nat) (l : List Nat), l.Nodup → (∀ x ∈ l, x < n) → l.length ≤ n
  | 0, [], _, _ => Nat.le_refl _
  | 0, x :: _, _, h => absurd (h x List.mem_cons_self) (Nat.not_lt_zero _)
  | n + 1, l, nd, h => by
    have h1 := nodup_lt n (l.erase n) (nd.erase n) fun x hx => by
      have := (nd.mem_erase_iff).mp hx
      have := h x this.2
      omega
    by_cases q : n ∈ l
    · rw [List.length_erase_of_mem q] at h1
      omega
    · rw [List.erase_of_not_mem q] at h1
      omega
/-- a known new thing becomes a local one -/
theorem g_take {d : Addr} {ob : HO} (h : K d = some ob) (k0 : c.K0 d = none) (nt : NotT ob) (k : G c P σ ((d, ob) :: m) (cut1 K d)) : G c P σ m K := fun H s => by
  have h0 : c.H0 d = none := by
    cases q : c.H0 d with
    | none => rfl
    | some u =>
      rcases s.a.ns d k0 (by rw [q]; exact Option.some_ne_none _) with y | ⟨ys, y⟩
      · rw [h] at y; cases y
      · rw [h] at y; exact absurd (Option.some.inj y) (nt ys)
  have off : ∀ q ∈ m, q.1 ≠ d := fun q hq y => by have := (s.mu q hq).2.1; rw [y, h] at this; cases this
  have e0 : Ex c.K0 (cut1 K d) := fun a u h1 => by
    rw [cut_ne (fun y => by rw [y, k0] at h1; cases h1)]
    exact s.a.kk _ _ h1
  have s2 := s.weak e0 cut_le
  exact k H ⟨s2.a, fun q hq => (List.mem_cons.mp hq).elim (fun y => by rw [y]; exact ⟨s.a.kh _ _ h, cut_at, h0⟩) fun y => s2.mu q y, fun q hq => (List.mem_cons.mp hq).elim (fun y => by rw [y]; exact nt) fun y => s2.nt q y,
    List.nodup_cons.mpr ⟨fun y => by obtain ⟨q, hq, e⟩ := List.mem_map.mp y; exact off q hq e, s2.nd⟩⟩
theorem cut_tup {d a : Addr} {ob : HO} {ys : List V} (h : K d = some ob) (nt : NotT ob) (ha : K a = some (.tup ys)) : cut1 K d a = some (.tup ys) := by
  rw [cut_ne (fun y => by rw [y, h] at ha; exact nt _ (Option.some.inj ha))]; exact ha
end
end Cm

/-! ## P0 -/
set_option maxHeartbeats 4000000
/-! The data: meters, tables, facts, records as they stand in the heap; what the program computes of them, in plain words. -/
namespace Cm
open PySem PySem.Spec PyProof.Rows L2 Evl
/-- a taximeter -/
structure Mtr where
  first : Int
  drop : Int
  flag : Int
  each : Int
  tables : List (List Int)
  turns : List Int
structure Mtr.Ok (M : Mtr) : Prop where
  f1 : 1 ≤ M.first ∧ M.first ≤ 60
  d1 : 1 ≤ M.drop ∧ M.drop ≤ 60
  g1 : 0 ≤ M.flag ∧ M.flag ≤ 1000
  e1 : 1 ≤ M.each ∧ M.each ≤ 100
  tl : 1 ≤ M.tables.length ∧ M.tables.length ≤ 3
  ts : ∀ ws ∈ M.tables, ws.length = 10 ∧ ∀ x ∈ ws, 0 ≤ x ∧ x ≤ 60
  ul : M.turns.length + 1 = M.tables.length
  us : ∀ x ∈ M.turns, 1 ≤ x ∧ x ≤ 9
  ua : M.turns.Pairwise (· < ·)
namespace Mtr
variable (M : Mtr)
def jumpsAt (c : Int) : Int := if c < M.first then 0 else 1 + (c - M.first).fdiv M.drop
def tabAt (j : Int) : List Int := M.tables.getD (M.turns.filter fun t => decide (t ≤ j)).length []
def countOn (c : Int) (s : Nat) : Int := c + (M.tabAt (M.jumpsAt c)).getD s 0
def priceAt (c : Int) : Int := M.flag + M.each * M.jumpsAt c
end Mtr
/-- the text of some figures -/
def dgS (l : List Nat) : Str := SX.S (l.map fun d => 48 + d)
/-- a fact of a record -/
inductive Fact where
  | speeds (t : Nat) (ds : List Nat)
  | passed (t : Nat) (w : Int)
  | showed (t : Nat) (p : Int)
  | jumped (t : Nat) (b : Bool)
def Fact.vs : Fact → List V
  | .speeds t ds => [.str "speeds", .int t, .str (dgS ds)]
  | .passed t w => [.str "passed", .int t, .int w]
  | .showed t p => [.str "showed", .int t, .int p]
  | .jumped t b => [.str "jumped", .int t, .bl b]
/-- a record -/
structure Rec where
  M : Mtr
  n : Nat
  top : Nat
  fs : List Fact
def SpdOk (l : List Nat) : Prop := l ≠ [] ∧ l.Pairwise (· < ·) ∧ ∀ d ∈ l, d ≤ 9
def Fact.Ok (n : Nat) : Fact → Prop
  | .speeds t l => t < n ∧ SpdOk l
  | .passed t w => t ≤ n ∧ 0 ≤ w
  | .showed t p => t ≤ n ∧ 0 ≤ p
  | .jumped t _ => t < n
structure Rec.Ok (R : Rec) : Prop where
  m : R.M.Ok
  n1 : 1 ≤ R.n ∧ R.n ≤ 24
  t1 : 1 ≤ R.top ∧ R.top ≤ 9
  few : (R.top + 1) ^ R.n ≤ 16777216
  room : (R.n * R.top + 1) * (60 * R.n + 1) ≤ 90000
  fl : R.fs.length ≤ 10
  fo : ∀ f ∈ R.fs, f.Ok R.n
/-- a place: the count and the way -/
abbrev Pl := Int × Int
namespace Rec
variable (R : Rec)
def lets (t d : Nat) : Fact → Bool
  | .speeds u l => !decide (u = t) || decide (d ∈ l)
  | _ => true
def left (t : Nat) : List Nat := (List.range (R.top + 1)).filter fun d => R.fs.all (lets t d)
def holdsAt (t : Nat) (p : Pl) : Fact → Bool
  | .passed u w => !decide (u = t) || decide (w = p.2)
  | .showed u c => !decide (u = t) || decide (c = R.M.priceAt p.1)
  | _ => true
def agreesAt (t : Nat) (p : Pl) : Bool := R.fs.all (R.holdsAt t p)
def jumps (c g : Int) : Bool := decide (R.M.jumpsAt c < R.M.jumpsAt g)
def holdsIn (t : Nat) (c g : Int) : Fact → Bool
  | .jumped u b => !decide (u = t) || (b == R.jumps c g)
  | _ => true
def agreesIn (t : Nat) (c g : Int) : Bool := R.fs.all (R.holdsIn t c g)
def goal (p : Pl) (d : Nat) : Pl := (R.M.countOn p.1 d, p.2 + d)
def stepOk (t : Nat) (p : Pl) (d : Nat) : Bool := R.agreesIn t p.1 (R.goal p d).1 && R.agreesAt (t + 1) (R.goal p d)
def steps (t : Nat) (p : Pl) : List Nat := (R.left t).filter (R.stepOk t p)
def begins : List Pl := if R.agreesAt 0 (0, 0) then [(0, 0)] else []
end Rec
/-! in the heap -/
abbrev CT (K : PySem.W.Frag) : Addr := He.ga K "Table"
abbrev CM (K : PySem.W.Frag) : Addr := He.ga K "Meter"
abbrev CR (K : PySem.W.Frag) : Addr := He.ga K "Record"
abbrev CRT (K : PySem.W.Frag) : Addr := He.ga K "RecordTrial"
def TableAt (K : PySem.W.Frag) (S : Hp) (q : Addr) (ws : List Int) : Prop := ∃ dx r, S q = some (.ins (CT K) dx [("row", .ref r)]) ∧ S r = some (.tup (ws.map V.int))
def TabsAt (K : PySem.W.Frag) (S : Hp) (ts : List Addr) (Ms : List (List Int)) : Prop := ts.length = Ms.length ∧ ∀ (i : Nat) t ws, ts[i]? = some t → Ms[i]? = some ws → TableAt K S t ws
def mtrF (n t u d : Addr) : List (Str × V) := [("own_numbers", .ref n), ("own_tables", .ref t), ("own_turns", .ref u), ("own_steps", .ref d)]
structure MtrP (K : PySem.W.Frag) (S : Hp) (n t u : Addr) (M : Mtr) : Prop where
  num : S n = some (.tup [.int M.first, .int M.drop, .int M.flag, .int M.each])
  tab : ∃ ts, S t = some (.tup (ts.map V.ref)) ∧ TabsAt K S ts M.tables
  tur : S u = some (.tup (M.turns.map V.int))
def MtrAt (K : PySem.W.Frag) (S : Hp) (p : Addr) (M : Mtr) : Prop := ∃ dx n t u d, S p = some (.ins (CM K) dx (mtrF n t u d)) ∧ MtrP K S n t u M
def FactsAt (S : Hp) (qs : List Addr) (fs : List Fact) : Prop := qs.length = fs.length ∧ ∀ (i : Nat) q f, qs[i]? = some q → fs[i]? = some f → S q = some (.tup f.vs)
def recF (p q : Addr) (top : Int) (t : Addr) : List (Str × V) := [("own_meter", .ref p), ("own_ticks", .ref q), ("own_top", .int top), ("own_facts", .ref t)]
structure RecP (K : PySem.W.Frag) (S : Hp) (p q t : Addr) (R : Rec) : Prop where
  met : MtrAt K S p R.M
  tic : S q = some (.tup (rgV 0 R.n))
  fac : ∃ qs, S t = some (.tup (qs.map V.ref)) ∧ FactsAt S qs R.fs
def RecO (K : PySem.W.Frag) (S : Hp) (o : HO) (R : Rec) : Prop := ∃ dx p q t, o = .ins (CR K) dx (recF p q R.top t) ∧ RecP K S p q t R
def RecAt (K : PySem.W.Frag) (S : Hp) (r : Addr) (R : Rec) : Prop := ∃ o, S r = some o ∧ RecO K S o R
section
variable {K : PySem.W.Frag} {S S' : Hp}
theorem TableAt.mono {q : Addr} {ws : List Int} (e : Ex S S') (h : TableAt K S q ws) : TableAt K S' q ws := by
  obtain ⟨dx, r, h1, h2⟩ := h
  exact ⟨dx, r, e _ _ h1, e _ _ h2⟩
theorem TabsAt.mono {ts : List Addr} {Ms : List (List Int)} (e : Ex S S') (h : TabsAt K S ts Ms) : TabsAt K S' ts Ms := ⟨h.1, fun i t ws a b => (h.2 i t ws a b).mono e⟩
theorem MtrP.mono {n t u : Addr} {M : Mtr} (e : Ex S S') (h : MtrP K S n t u M) : MtrP K S' n t u M := by
  obtain ⟨h1, ⟨ts, h2, h3⟩, h4⟩ := h
  exact ⟨e _ _ h1, ⟨ts, e _ _ h2, h3.mono e⟩, e _ _ h4⟩
theorem MtrAt.mono {p : Addr} {M : Mtr} (e : Ex S S') (h : MtrAt K S p M) : MtrAt K S' p M := by
  obtain ⟨dx, n, t, u, d, h1, h2⟩ := h
  exact ⟨dx, n, t, u, d, e _ _ h1, h2.mono e⟩
theorem FactsAt.mono {qs : List Addr} {fs : List Fact} (e : Ex S S') (h : FactsAt S qs fs) : FactsAt S' qs fs := ⟨h.1, fun i t ws a b => e _ _ (h.2 i t ws a b)⟩
theorem RecP.mono {p q t : Addr} {R : Rec} (e : Ex S S') (h : RecP K S p q t R) : RecP K S' p q t R := by
  obtain ⟨h1, h2, qs, h3, h4⟩ := h
  exact ⟨h1.mono e, e _ _ h2, qs, e _ _ h3, h4.mono e⟩
theorem RecO.mono {o : HO} {R : Rec} (e : Ex S S') (h : RecO K S o R) : RecO K S' o R := by
  obtain ⟨dx, p, q, t, h1, h2⟩ := h
  exact ⟨dx, p, q, t, h1, h2.mono e⟩
theorem RecAt.mono {r : Addr} {R : Rec} (e : Ex S S') (h : RecAt K S r R) : RecAt K S' r R := by
  obtain ⟨o, h1, h2⟩ := h
  exact ⟨o, e _ _ h1, h2.mono e⟩
end
end Cm

/-! ## B2 -/
set_option maxHeartbeats 4000000
/-! Meter(..) with keywords, Record(..) with a default that is written. -/
namespace Cm
open PySem PySem.Spec PyProof.Rows L2 Evl
section
variable {P : Program} {w : World} {K : PySem.W.Frag} {mg : Str → Option Value} {base : Heap} {k : Nat} {sp : Sp} (T : Txt K mg)
include T
theorem mk_Meter_init (len : ∀ vs H Q E, sp vs H Q E → vs.length = 7) (b : Bs P w K mg base N_Meter_init d_Meter_init k sp) : MakM P w K mg base (k + 1) "Meter" (He.ga K "Meter") sp := by
  obtain ⟨fd, F⟩ := T.fnd (d := d_Meter_init) 51 rfl
  obtain ⟨its, mv, B⟩ := F.kbinds (ps := ["self", "first", "drop", "tables", "turns", "flag", "each"]) 5 ["flag", "each"] [] (fun us _ _ ws => us ++ ws) (by intro z; cases z) (by intro z; cases z) (fun q hq => by cases hq) (fun r1 _ _ r4 => r1.append r4)
    fun A D doc pm an cdv ct us its mv ws h1 h2 h3 h4 => match us, its, mv, ws, h1, h2, h3, h4 with | [_, _, _, _, _], [_], [], [_, _], _, _, _, _ => ⟨_, rfl, rfl⟩
  exact ⟨_, fd, _, _, T.mkr 122 rfl, fn_bs F sc_Meter_init len b, T.glo 46 rfl, B⟩
theorem mk_Record_init (len : ∀ vs H Q E, sp vs H Q E → vs.length = 4) (b : Bs P w K mg base N_Record_init d_Record_init k sp) : C8.Mak P w K mg base (k + 1) "Record" (He.ga K "Record") sp [] := by
  obtain ⟨fd, F⟩ := T.fnd (d := d_Record_init) 65 rfl
  obtain ⟨ds, hd, B⟩ := F.binds1 (ps := ["self", "meter", "ticks", "top"]) 4 1 (by intro z; cases z) rfl
    fun A kV doc pm an cdv ct us its h1 h2 => match us, its, h1, h2 with | [_, _, _, _], [_], _, _ => ⟨_, rfl, rfl⟩
  exact ⟨_, fd, _, ds, T.mkr 124 rfl, fn_bs F sc_Record_init len b, T.glo 48 rfl, B, hd⟩
end
end Cm

/-! ## E1 -/
set_option maxHeartbeats 4000000
/-! The defs, from the bottom: trips, tables. -/
namespace Cm
open PySem PySem.Spec PyProof.Rows L2 Evl
local macro_rules | `(tactic| walk_at "w") => `(tactic| first
  | exact w_c
  | ((refine w_var ?_); rfl)
  | exact w_nil
  | ((refine w_cons (x := ?x) (xs := ?xs) ?h1 ?h2); (case h1 => walk_at "w"); (case h2 => walk_at "w"))
  | ((refine w_op (x := ?x) (y := ?y) ?h1 ?h2 ?h3); (case h1 => walk_at "w"); (case h2 => walk_at "w"); (case h3 => walk_at "w"))
  | exact w_rI0
  | exact w_rU
  | ((refine w_un (x := ?x) ?h1 ?h2); (case h1 => walk_at "w"); (case h2 => walk_at "w"))
  | ((refine w_rEq ?_); rfl)
  | ((refine w_rNe ?_); rfl)
  | ((refine w_test (b := ?b) ?h1); (case h1 => walk_at "w"))
  | ((refine w_tB (b := ?b) ?h1); (case h1 => walk_at "w"))
  | ((refine w_not (a := ?a) ?h1); (case h1 => walk_at "w"))
  | ((refine w_orU (a := ?a) (b := ?b) ?h1 ?h2); (case h1 => walk_at "w"); (case h2 => walk_at "w"))
  | ((refine w_andU (a := ?a) (b := ?b) ?h1 ?h2); (case h1 => walk_at "w"); (case h2 => walk_at "w"))
  | ((refine w_notV (a := ?a) ?h1); (case h1 => walk_at "w"))
  | ((refine w_orVU (a := ?a) (b := ?b) ?h1 ?h2); (case h1 => walk_at "w"); (case h2 => walk_at "w"))
  | ((refine w_andVU (a := ?a) (b := ?b) ?h1 ?h2); (case h1 => walk_at "w"); (case h2 => walk_at "w"))
  | ((refine w_chain1 (x := ?x) (y := ?y) (z := ?z) (p := ?p) (q := ?q) ?h1 ?h2 ?h3 ?h4 ?h5); (case h1 => walk_at "w"); (case h2 => walk_at "w"); (case h3 => walk_at "w"); (case h4 => walk_at "w"); (case h5 => walk_at "w"))
  | exact w_isN
  | exact w_max2
  | exact w_min2
  | exact w_int1
  | exact w_abs
  | (refine w_rI ?_; decide)
  | assumption)
section
variable {P : Program} {w : World} {K : PySem.W.Frag} {mg : Str → Option Value} {base : Heap} {g : Bg} {S : Hp}
def sp_is_whole (K : PySem.W.Frag) : Sp := Pr (ι := Int) (fun n => [.int n]) (fun _ _ _ => True) (fun _ _ v _ => v = .bl true)
theorem c_is_whole (T : Txt K mg) : C8.Cal P w K mg base 1 "is_whole" (sp_is_whole K) [] := mk_is_whole T (pr_len (ps := ["value"]) fun _ => rfl) (Bd.bs fun cdv A outer s H Q E hr => by
  have hu := hu_of hr
  have nd := sc_is_whole.nd
  refine ⟨_, (pss_one (ps_ret (pe_and (pe_callB (cbIsi (K := K) rfl) rfl (T.free 49 rfl) bt_isinstance (pa_cons (pv 0) (pa_cons (pe_bltn (v := .ty "int") rfl (T.free 59 rfl) bt_int rfl) pa_nil))) (pe_one (pe_not (pe_callB (cbIsi (K := K) rfl) rfl (T.free 49 rfl) bt_isinstance (pa_cons (pv 0) (pa_cons (pe_bltn (v := .ty "bool") rfl (T.free 60 rfl) bt_bool rfl) pa_nil)))))))), fun g S0 x hp hQ => ?_⟩
  refine g_retP (w_andV (a := true) (b := true) (w_cb (by walk_at "w") (w_isiI (by decide +kernel))) fun _ => w_notV (a := false) (w_cb (by walk_at "w") (w_isiI (by decide +kernel)))) hQ fun v S e hv => hv)

theorem v_is_whole {n : Int} : SpW g (sp_is_whole K) [.int n] S (Is (.bl true)) := w_pr n (fun _ _ => trivial) fun _ _ _ _ _ h => h
def sp_is_between (K : PySem.W.Frag) : Sp := Pr (ι := Int × Int × Int) (fun x => [.int x.1, .int x.2.1, .int x.2.2]) (fun _ _ _ => True) (fun x _ v _ => v = .bl (decide (x.2.1 ≤ x.1) && decide (x.1 ≤ x.2.2)))
theorem c_is_between (T : Txt K mg) : C8.Cal P w K mg base 2 "is_between" (sp_is_between K) [] := mk_is_between T (pr_len (ps := ["value", "least", "most"]) fun _ => rfl) (Bd.bs fun cdv A outer s H Q E hr => by
  have hu := hu_of hr
  have nd := sc_is_between.nd
  refine ⟨_, (pss_one (ps_ret (pe_and (C8.pe_c (c_is_whole (K := K) T) hr (by decide) rfl (pa_cons (pv 0) pa_nil)) (pe_one (pe_chain op_le op_le (pv 1) (pv 0) (pv 2)))))), fun g S0 x hp hQ => ?_⟩
  refine g_retP (w_andVU (a := true) (w_c0 (by walk_at "w") v_is_whole) (by walk_at "w")) hQ fun v S e hv => by rw [Bool.true_and] at hv; exact hv)

theorem v_is_between {n a b : Int} : SpW g (sp_is_between K) [.int n, .int a, .int b] S (Is (.bl (decide (a ≤ n) && decide (n ≤ b)))) := w_pr (n, a, b) (fun _ _ => trivial) fun _ _ _ _ _ h => h
theorem v_between {n a b : Int} (h : a ≤ n ∧ n ≤ b) : SpW g (sp_is_between K) [.int n, .int a, .int b] S (Is (.bl true)) := w_pr (n, a, b) (fun _ _ => trivial) fun _ _ _ _ _ z => by
  have z : _ = V.bl (decide (a ≤ n) && decide (n ≤ b)) := z
  rw [decide_eq_true h.1, decide_eq_true h.2] at z
  exact z
def sp_is_speed (K : PySem.W.Frag) : Sp := Pr (ι := Int) (fun n => [.int n]) (fun _ _ _ => True) (fun n _ v _ => v = .bl (decide (0 ≤ n) && decide (n ≤ 9)))
theorem c_is_speed (T : Txt K mg) : C8.Cal P w K mg base 3 "is_speed" (sp_is_speed K) [] := mk_is_speed T (pr_len (ps := ["value"]) fun _ => rfl) (Bd.bs fun cdv A outer s H Q E hr => by
  have hu := hu_of hr
  have nd := sc_is_speed.nd
  refine ⟨_, (pss_one (ps_ret (C8.pe_c (c_is_between (K := K) T) hr (by decide) rfl (pa_cons (pv 0) (pa_cons pe_int (pa_cons (C8.pe_gc rfl (T.gint 63 rfl)) pa_nil)))))), fun g S0 x hp hQ => ?_⟩
  exact g_retP (w_c0 (by walk_at "w") v_is_between) hQ fun v S e hv => hv)

theorem v_speed {n : Int} (h : 0 ≤ n ∧ n ≤ 9) : SpW g (sp_is_speed K) [.int n] S (Is (.bl true)) := w_pr n (fun _ _ => trivial) fun _ _ _ _ _ z => by
  have z : _ = V.bl (decide (0 ≤ n) && decide (n ≤ 9)) := z
  rw [decide_eq_true h.1, decide_eq_true h.2] at z
  exact z
/-- a figure -/
def isDig (c : Nat) : Bool := decide (c ∈ ("0123456789" : Str).cps.toList)
/-- a trip's text -/
def TripS (z : Str) : Prop := z.length ≤ 2000 ∧ ∀ c ∈ z.cps.toList, isDig c = true
theorem all_dig {z : List Nat} (h : ∀ c ∈ z, isDig c = true) : (z.map isDig).all id = true := by
  rw [List.all_eq_true]
  intro b hb
  obtain ⟨c, hc, e⟩ := List.mem_map.mp hb
  rw [← e]
  exact h c hc
def sp_is_trip (K : PySem.W.Frag) : Sp := Pr (ι := Str) (fun z => [.str z]) (fun _ z _ => TripS z) (fun _ _ v _ => v = .bl true)
theorem c_is_trip (T : Txt K mg) : C8.Cal P w K mg base 1 "is_trip" (sp_is_trip K) [] := mk_is_trip T (pr_len (ps := ["value"]) fun _ => rfl) (Bd.bs fun cdv A outer s H Q E hr => by
  have hu := hu_of hr
  have nd := sc_is_trip.nd
  refine ⟨_, (pss_cons (ps_if (PW.pt (pw_or (pt_not (pt_val (pe_callB (cbIsi (K := K) rfl) rfl (T.free 49 rfl) bt_isinstance (pa_cons (pv 0) (pa_cons (pe_bltn (v := .ty "str") rfl (T.free 58 rfl) bt_str rfl) pa_nil))))) (pw_or1 (pt_cmpR op_gt (pe_callB call_len_str rfl (T.free 51 rfl) bt_len (pa_cons (pv 0) pa_nil)) (C8.pe_gc rfl (T.gint 64 rfl)) (nomark _))))) (pss_one (ps_ret pe_bl)) pss_nil)
      (pss_one (ps_ret (pe_callB (cbAll (K := K) rfl rfl) rfl (T.free 50 rfl) bt_all (pa_cons (pe_lc (own := [("digit", 1)]) (g := gName 1) (tt := tYes) rfl nd (pi_str (pv 0)) (blkOk_by (own := [("digit", 1)]) (N := N_is_trip) (sc := d_is_trip.scope) (by decide +kernel)) (fun _ _ _ _ _ => (pg_name (i := 1) nd rfl (by first | exact .inl rfl | exact .inr rfl))) (fun _ _ _ _ _ => pts_nil) (fun _ _ _ _ _ => (pe_cmpR op_in_sign (pv 1) (C8.pe_gc rfl (T.gstr 73 rfl)) rfl))) pa_nil))))), fun g S0 x hp hQ => ?_⟩
  obtain ⟨h1, h2⟩ := hp
  refine gs_ifF (w_orU (w_not (w_tB (w_cb (by walk_at "w") (w_isiS (b := true) (by decide +kernel))))) (w_test (w_op (w_cb (by walk_at "w") (w_lenS (Nat.le_trans h1 (by decide)))) w_c w_rI0))) ?_ ?_
  · rw [Bool.not_true, Bool.false_or, decide_eq_false_iff_not]
    omega
  refine g_retP (w_cbR (w_consR (w_lcA (h := fun c : Nat => V.str ⟨#[c]⟩) (f := fun c => V.bl (isDig c)) (w_iS (w_var rfl)) (Nat.lt_of_le_of_lt (by rw [Array.length_toList]; exact h1) (by decide)) fun i c S hc e => ⟨_, tg_name, rfl, w_op (w_var rfl) w_c w_inSign⟩)
    (R := fun vs S => ∃ p, vs = [.ref p] ∧ S p = some (.lst (x.cps.toList.map fun c => V.bl (isDig c)))) fun v S e hx => w_nilR fun S2 e2 => ?_) ?_) hQ fun v S e hv => hv
  · obtain ⟨p, ev, _, hp⟩ := hx
    exact ⟨p, by rw [ev], e2 _ _ hp⟩
  rintro vs S e ⟨p, ev, hs⟩
  subst ev
  refine (w_all (bs := x.cps.toList.map isDig) (sq_of (by rw [hs, List.map_map] <;> rfl))).is ?_
  rw [all_dig h2])

theorem v_trip {z : Str} (h : TripS z) : SpW g (sp_is_trip K) [.str z] S (Is (.bl true)) := w_pr z (fun _ _ => h) fun _ _ _ _ _ h => h
def sp_check_trip (K : PySem.W.Frag) : Sp := Pr (ι := Str) (fun z => [.str z]) (fun _ z _ => TripS z) (fun _ _ v _ => v = .non)
theorem c_check_trip (T : Txt K mg) : C8.Cal P w K mg base 2 "check_trip" (sp_check_trip K) [] := mk_check_trip T (pr_len (ps := ["trip"]) fun _ => rfl) (Bd.bs fun cdv A outer s H Q E hr => by
  have hu := hu_of hr
  have nd := sc_check_trip.nd
  refine ⟨_, (pss_one (ps_if (pt_not (pt_val (C8.pe_c (c_is_trip (K := K) T) hr (by decide) rfl (pa_cons (pv 0) pa_nil)))) (pss_one ps_never) pss_nil)), fun g S0 x hp hQ => ?_⟩
  exact g_ifF (w_not (w_tB (w_c0 (by walk_at "w") (v_trip hp)))) rfl (g_endP hQ rfl))

theorem v_check_trip {z : Str} (h : TripS z) : SpW g (sp_check_trip K) [.str z] S (Is .non) := w_pr z (fun _ _ => h) fun _ _ _ _ _ h => h
/-- ten worths -/
def WorthsOk (ws : List Int) : Prop := ws.length = 10 ∧ ∀ v ∈ ws, 0 ≤ v ∧ v ≤ 60
theorem all_btw {a b : Int} {ws : List Int} (h : ∀ v ∈ ws, a ≤ v ∧ v ≤ b) : (ws.map fun v => decide (a ≤ v) && decide (v ≤ b)).all id = true := by
  rw [List.all_eq_true]
  intro x hx
  obtain ⟨v, hv, e⟩ := List.mem_map.mp hx
  rw [← e, decide_eq_true (h v hv).1, decide_eq_true (h v hv).2] <;> rfl
theorem map_bl {α : Type} {ys : List α} {f : α → Bool} : (ys.map fun v => V.bl (f v)) = (ys.map f).map V.bl := by rw [List.map_map] <;> rfl
theorem vint_ne {a b : Int} : (!decide (V.int a = V.int b)) = !decide (a = b) := by
  congr 1
  exact decide_eq_decide.mpr ⟨fun h => V.int.inj h, fun h => by rw [h]⟩
def sp_are_worths (K : PySem.W.Frag) : Sp := Pr (ι := Addr × List Int) (fun x => [.ref x.1]) (fun _ x S => S x.1 = some (.lst (x.2.map V.int)) ∧ WorthsOk x.2) (fun _ _ v _ => v = .bl true)
theorem c_are_worths (T : Txt K mg) : C8.Cal P w K mg base 3 "are_worths" (sp_are_worths K) [] := mk_are_worths T (pr_len (ps := ["value"]) fun _ => rfl) (Bd.bs fun cdv A outer s H Q E hr => by
  have hu := hu_of hr
  have nd := sc_are_worths.nd
  refine ⟨_, (pss_cons (ps_if (PW.pt (pw_or (pt_not (pt_val (pe_callB (cbIsi (K := K) rfl) rfl (T.free 49 rfl) bt_isinstance (pa_cons (pv 0) (pa_cons (pe_bltn (v := .ty "list") rfl (T.free 53 rfl) bt_list rfl) pa_nil))))) (pw_or1 (pt_cmpR op_ne (pe_callB (cbLen (K := K) rfl) rfl (T.free 51 rfl) bt_len (pa_cons (pv 0) pa_nil)) (pe_op op_add (C8.pe_gc rfl (T.gint 63 rfl)) pe_int) (nomark _))))) (pss_one (ps_ret pe_bl)) pss_nil)
      (pss_one (ps_ret (pe_callB (cbAll (K := K) rfl rfl) rfl (T.free 50 rfl) bt_all (pa_cons (pe_lc (own := [("item", 1)]) (g := gName 1) (tt := tYes) rfl nd (piL (K := K) rfl (pv 0)) (blkOk_by (own := [("item", 1)]) (N := N_are_worths) (sc := d_are_worths.scope) (by decide +kernel)) (fun _ _ _ _ _ => (pg_name (i := 1) nd rfl (by first | exact .inl rfl | exact .inr rfl))) (fun _ _ _ _ _ => pts_nil) (fun _ _ _ _ _ => (C8.pe_c (c_is_between (K := K) T) hr (by decide) rfl (pa_cons (pv 1) (pa_cons pe_int (pa_cons (C8.pe_gc rfl (T.gint 65 rfl)) pa_nil)))))) pa_nil))))), fun g S0 x hp hQ => ?_⟩
  obtain ⟨h0, h1, h2⟩ := hp
  refine gs_ifF (w_orU (w_not (w_tB (w_cb (by walk_at "w") (w_isiL (b := true) h0 (by decide +kernel))))) (w_test (w_op (w_cb (by walk_at "w") (w_lenL (sq_of h0))) (by walk_at "w") (w_rNe rfl)))) ?_ ?_
  · rw [List.length_map, h1, vint_ne]
    decide
  refine g_retP (w_cbR (w_consR (w_lcA (h := V.int) (f := fun v => V.bl (decide (0 ≤ v) && decide (v ≤ 60))) (w_iL (w_var rfl) (sq_of h0)) (by rw [h1]; decide) fun i c S hc e => ⟨_, tg_name, rfl, w_c0 (by walk_at "w") v_is_between⟩)
    (R := fun vs S => ∃ p, vs = [.ref p] ∧ S p = some (.lst (x.2.map fun v => V.bl (decide (0 ≤ v) && decide (v ≤ 60))))) fun v S e hx => w_nilR fun S2 e2 => ?_) ?_) hQ fun v S e hv => hv
  · obtain ⟨p, ev, _, hp⟩ := hx
    exact ⟨p, by rw [ev], e2 _ _ hp⟩
  rintro vs S e ⟨p, ev, hs⟩
  subst ev
  refine (w_all (bs := x.2.map fun v => decide (0 ≤ v) && decide (v ≤ 60)) (sq_of (by rw [hs, map_bl]))).is ?_
  rw [all_btw h2])

theorem v_worths {p : Addr} {ws : List Int} (h : S p = some (.lst (ws.map V.int))) (ok : WorthsOk ws) : SpW g (sp_are_worths K) [.ref p] S (Is (.bl true)) := w_pr (p, ws) (fun _ e => ⟨e _ _ h, ok⟩) fun _ _ _ _ _ h => h
def sp_check_numbers (K : PySem.W.Frag) : Sp := Pr (ι := Int × Int) (fun x => [.int x.1, .int x.2]) (fun _ x _ => 0 ≤ x.1 ∧ 0 ≤ x.2) (fun _ _ v _ => v = .non)
theorem c_check_numbers (T : Txt K mg) : C8.Cal P w K mg base 2 "check_numbers" (sp_check_numbers K) [] := mk_check_numbers T (pr_len (ps := ["time", "way"]) fun _ => rfl) (Bd.bs fun cdv A outer s H Q E hr => by
  have hu := hu_of hr
  have nd := sc_check_numbers.nd
  refine ⟨_, (pss_one (ps_for PassesOwn.never rfl (piT (K := K) rfl (pe_tup (pa_cons (pv 0) (pa_cons (pv 1) pa_nil)))) (pg_name (i := 2) nd rfl (by first | exact .inl rfl | exact .inr rfl))
      (pss_one (ps_if (PW.pt (pw_or (pt_not (pt_val (C8.pe_c (c_is_whole (K := K) T) hr (by decide) rfl (pa_cons (pv 2) pa_nil)))) (pw_or1 (pt_cmpR op_lt (pv 2) pe_int (nomark _))))) (pss_one ps_never) pss_nil)))), fun g S0 x hp hQ => ?_⟩
  refine g_for (Rs := fun xs _ => xs = [.int x.1, .int x.2]) (w_iTR (w_tup (by walk_at "w")) fun v S e ⟨p, ev, hs⟩ => ⟨p, _, ev, st_of hs, rfl⟩) fun xs S e ex => ?_
  subst ex
  refine ⟨fun i σ' m' K' => (∃ v, σ' = [some (.int x.1), some (.int x.2), v]) ∧ m' = [] ∧ Ex S K', ⟨⟨_, rfl⟩, rfl, .refl _⟩, fun _ _ _ _ h => h.2.2, ?_, fun σ' m' K' ⟨_, em, e2⟩ => ?_⟩
  · rintro i y σ' m' K' hy ⟨⟨v, es⟩, em, e2⟩
    subst es em
    obtain ⟨n, en, hn⟩ : ∃ n, y = .int n ∧ 0 ≤ n := by
      match i, hy with
      | 0, h => cases h; exact ⟨_, rfl, hp.1⟩
      | 1, h => cases h; exact ⟨_, rfl, hp.2⟩
    subst en
    refine g_name ?_
    refine g_ifF (w_orU (w_not (w_tB (w_c0 (by walk_at "w") v_is_whole))) (by walk_at "w")) ?_ ?_
    rotate_left
    · refine g_turn ?_
      exact ⟨⟨_, rfl⟩, rfl, e2⟩
    rw [Bool.not_true, Bool.false_or, decide_eq_false_iff_not]
    omega
  · subst em
    exact g_weak (e.trans e2) (.refl _) (g_endP hQ rfl))

theorem v_check_numbers {a b : Int} (h : 0 ≤ a ∧ 0 ≤ b) : SpW g (sp_check_numbers K) [.int a, .int b] S (Is .non) := w_pr (a, b) (fun _ _ => h) fun _ _ _ _ _ h => h
def sp_Table_init (K : PySem.W.Frag) : Sp := PrO (ι := Addr × Addr × Addr × List Int) (fun x => [.ref x.1, .ref x.2.2.1]) (fun x => x.1) (fun x => .ins (CT K) x.2.1 []) (fun _ x S => S x.2.2.1 = some (.lst (x.2.2.2.map V.int)) ∧ WorthsOk x.2.2.2) (fun x _ v o S => v = .non ∧ ∃ r, o = .ins (CT K) x.2.1 [("row", .ref r)] ∧ S r = some (.tup (x.2.2.2.map V.int)))
theorem k_Table (T : Txt K mg) : C8.Mak P w K mg base 4 "Table" (He.ga K "Table") (sp_Table_init K) [] := mk_Table_init T (prO_len fun _ => rfl) (BdO.bs fun cdv A outer s H Q E hr => by
  have hu := hu_of hr
  have nd := sc_Table_init.nd
  refine ⟨_, (pss_cons (ps_if (pt_not (pt_val (C8.pe_c (c_are_worths (K := K) T) hr (by decide) rfl (pa_cons (pv 1) pa_nil)))) (pss_one ps_never) pss_nil)
      (pss_one (ps_fld (pv 0) (pe_callTy (cbTuple (K := K) rfl) rfl (T.free 52 rfl) bt_tuple (pa_cons (pv 1) pa_nil)) rfl))), fun g S0 H0 x hp hQ => ?_⟩
  obtain ⟨h0, h1⟩ := hp
  refine gs_ifF (w_not (w_tB (w_c0 (by walk_at "w") (v_worths h0 h1)))) rfl ?_
  refine g_fld (fun e => w_cb (by walk_at "w") (w_tupL (sq_of (e _ _ h0)))) (fun S => w_var rfl) (cl_Table T) (na_Table_row T) (by decide) fun y S e1 e2 hy => ?_
  obtain ⟨r, ey, hr, hs⟩ := hy
  subst ey
  exact fun H s => hQ _ _ _ H s ⟨rfl, r, rfl, drm_new hr hs⟩)

theorem v_Table {p : Addr} {ws : List Int} {x dx : Addr} (h : S p = some (.lst (ws.map V.int))) (ok : WorthsOk ws) (hx : S x = none) : SpO g (sp_Table_init K) x (.ins (CT K) dx []) [.ref x, .ref p] S fun v o' S' => v = .non ∧ (S' x = none → TableAt K (upd S' x o') x ws) :=
  w_prO (x, dx, p, ws) (fun K1 e => ⟨e _ _ h, ok⟩) fun K1 v o' S' e1 e2 ⟨h1, r, h2, h3⟩ => ⟨h1, fun hn => ⟨dx, r, by rw [upd_same, h2], by
    rw [upd_ne (fun z => by rw [z, hn] at h3; cases h3)]; exact h3⟩⟩
def sp_Table_getitem (K : PySem.W.Frag) : Sp := Pr (ι := Addr × Int × List Int) (fun x => [.ref x.1, .int x.2.1]) (fun _ x S => TableAt K S x.1 x.2.2 ∧ x.2.2.length = 10 ∧ 0 ≤ x.2.1 ∧ x.2.1 ≤ 9) (fun x _ v _ => v = .int (x.2.2.getD x.2.1.toNat 0))
theorem m_Table_getitem (T : Txt K mg) : C8.Met P w K mg base 4 (He.ga K "Table") "__getitem__" (sp_Table_getitem K) [] := mk_Table_getitem T (pr_len (ps := ["self", "speed"]) fun _ => rfl) (Bd.bs fun cdv A outer s H Q E hr => by
  have hu := hu_of hr
  have nd := sc_Table_getitem.nd
  refine ⟨_, (pss_cons (ps_if (pt_not (pt_val (C8.pe_c (c_is_speed (K := K) T) hr (by decide) rfl (pa_cons (pv 1) pa_nil)))) (pss_one ps_never) pss_nil)
      (pss_one (ps_ret (pe_ix (ixT (K := K) rfl) (peFld (K := K) rfl (pv 0) rfl) (pv 1) (fun _ _ => rfl))))), fun g S0 x hp hQ => ?_⟩
  obtain ⟨⟨dx, r, h1, h2⟩, h3, h4⟩ := hp
  refine gs_ifF (w_not (w_tB (w_c0 (by walk_at "w") (v_speed h4)))) rfl ?_
  refine g_retI (w_op (w_fld (w_var rfl) h1 (cl_Table T) (na_Table_row T) rfl) (by walk_at "w") (w_ixT (st_of h2) (v := .int (x.2.2.getD x.2.1.toNat 0)) ?_)) hQ fun S e => rfl
  obtain ⟨n, hn⟩ := Int.eq_ofNat_of_zero_le h4.1
  rw [hn] at h4 ⊢
  have hl : n < x.2.2.length := by omega
  exact atI_nat (by rw [List.getElem?_map, List.getElem?_eq_getElem hl, Int.toNat_natCast, List.getD_eq_getElem?_getD, List.getElem?_eq_getElem hl] <;> rfl))

theorem v_worth {q : Addr} {ws : List Int} {s : Nat} (h : TableAt K S q ws) (h1 : ws.length = 10) (h2 : s ≤ 9) : SpW g (sp_Table_getitem K) [.ref q, .int s] S (Is (.int (ws.getD s 0))) := w_pr (q, (s : Int), ws) (fun _ e => ⟨h.mono e, h1, Int.natCast_nonneg _, Int.ofNat_le.mpr h2⟩) fun _ _ _ _ _ h => h
/-- the text of a number -/
abbrev nS (k : Int) : Str := toString k
theorem num_facts : ∀ k : Nat, k < 61 → 0 < k → (1 ≤ (nS k).length ∧ (nS k).length ≤ 2) ∧ (nS k).cps.toList.all isDig = true ∧ (∃ c, (nS k).cps.toList[0]? = some c ∧ c ≠ 48) ∧ PySem.intText? (nS k) = some (k : Int) := by
  have h : ∀ k : Fin 61, 0 < k.val → decide (1 ≤ (nS k.val).length ∧ (nS k.val).length ≤ 2) = true ∧ (nS k.val).cps.toList.all isDig = true ∧ (match (nS k.val).cps.toList[0]? with | some c => decide (c ≠ 48) | none => false) = true ∧ PySem.intText? (nS k.val) = some (k.val : Int) := by decide +kernel
  intro k hk h0
  obtain ⟨h1, h2, h3, h4⟩ := h ⟨k, hk⟩ h0
  refine ⟨of_decide_eq_true h1, h2, ?_, h4⟩
  cases e : (nS k).cps.toList[0]? with
  | none => simp only [] at h3; rw [e] at h3; cases h3
  | some c => simp only [] at h3; rw [e] at h3; exact ⟨c, rfl, of_decide_eq_true h3⟩
def sp_number_in (K : PySem.W.Frag) : Sp := Pr (ι := Nat) (fun k => [.str (nS k), .int 60]) (fun _ k _ => k < 61 ∧ 0 < k) (fun k _ v _ => v = .int k)
theorem c_number_in (T : Txt K mg) : C8.Cal P w K mg base 1 "number_in_trips" (sp_number_in K) [] := mk_number_in T (pr_len (ps := ["word", "most"]) fun _ => rfl) (Bd.bs fun cdv A outer s H Q E hr => by
  have hu := hu_of hr
  have nd := sc_number_in.nd
  refine ⟨_, (pss_cons (ps_if (PW.pt (pw_or (pt_not (pt_chain op_le op_le pe_int (pe_callB call_len_str rfl (T.free 51 rfl) bt_len (pa_cons (pv 0) pa_nil)) (pe_callB call_len_str rfl (T.free 51 rfl) bt_len (pa_cons (pe_callTy call_str_int rfl (T.free 58 rfl) bt_str (pa_cons (pv 1) pa_nil)) pa_nil)))) (pw_or (pt_not (pt_val (pe_callB (cbAll (K := K) rfl rfl) rfl (T.free 50 rfl) bt_all (pa_cons (pe_lc (own := [("sign", 2)]) (g := gName 2) (tt := tYes) rfl nd (pi_str (pv 0)) (blkOk_by (own := [("sign", 2)]) (N := N_number_in) (sc := d_number_in.scope) (by decide +kernel)) (fun _ _ _ _ _ => (pg_name (i := 2) nd rfl (by first | exact .inl rfl | exact .inr rfl))) (fun _ _ _ _ _ => pts_nil) (fun _ _ _ _ _ => (pe_cmpR op_in_sign (pv 2) (C8.pe_gc rfl (T.gstr 73 rfl)) rfl))) pa_nil)))) (pw_or1 (pt_cmpR op_eq (pe_ix ix_str (pv 0) pe_int (fun _ _ => rfl)) pe_str (nomark _)))))) (pss_one (ps_ret pe_int)) pss_nil)
      (pss_one (ps_ret (pe_ifExp (pt_cmpR op_le (pe_callTy call_int_str rfl (T.free 59 rfl) bt_int (pa_cons (pv 0) pa_nil)) (pv 1) (nomark _)) (pe_callTy call_int_str rfl (T.free 59 rfl) bt_int (pa_cons (pv 0) pa_nil)) pe_int)))), fun g S0 x hp hQ => ?_⟩
  obtain ⟨⟨h1, h2⟩, h3, ⟨c, h4, h5⟩, h6⟩ := num_facts x hp.1 hp.2
  refine gs_ifF (w_orU (w_not (w_test (w_chain1 w_c (w_cb (by walk_at "w") (w_lenS (by omega))) (w_cb (w_cons (w_cb (by walk_at "w") (w_str (by decide))) w_nil) (w_lenS (by decide))) w_rI0 w_rI0)))
    (w_orU (w_not (w_tB (w_allLc (h := fun c : Nat => V.str ⟨#[c]⟩) (p := isDig) (w_iS (w_var rfl)) (Nat.lt_of_le_of_lt (by rw [Array.length_toList]; exact h2) (by decide)) fun i c S hc e => ⟨_, tg_name, rfl, w_op (w_var rfl) w_c w_inSign⟩)))
      (w_test (w_op (w_op (w_var rfl) w_c (w_ixS (by omega) (atI_nat (j := 0) h4))) w_c (w_rEq rfl))))) ?_ ?_
  · have e2 : (Str.length (nS 60) : Nat) = 2 := by decide
    simp only [Bool.or_eq_false_iff, Bool.not_eq_false', Bool.and_eq_true, decide_eq_true_eq, decide_eq_false_iff_not]
    refine ⟨⟨by omega, ?_⟩, ?_, fun z => h5 ?_⟩
    · rw [show (Str.length (Str.ofString (toString (60 : Int))) : Nat) = 2 from e2]
      omega
    · rw [← h3, Array.all_toList]
    · injection z with z
      injection z with z
      exact Option.some.inj ((congrArg (fun a : Array Nat => a.toList.head?) z).trans (by decide +kernel))
  exact g_retI (w_if (a := true) ((w_test (w_op (w_cb (by walk_at "w") (w_intS h6 (by omega))) (w_var rfl) w_rI0)).is (decide_eq_true (by omega))) (fun _ => w_cb (by walk_at "w") (w_intS h6 (by omega))) (fun z => by cases z)) hQ fun S e => rfl)

theorem v_number {k : Nat} (h : k < 61 ∧ 0 < k) : SpW g (sp_number_in K) [.str (nS k), .int 60] S (Is (.int k)) := w_pr k (fun _ _ => h) fun _ _ _ _ _ h => h
theorem SpO.imp {sp : Sp} {r : Addr} {o : HO} {vs : List V} {R R' : V → HO → Hp → Prop} (h : SpO g sp r o vs S R) (i : ∀ v o' S', R v o' S' → R' v o' S') : SpO g sp r o vs S R' :=
  fun E K1 H0 H e s Q q => h E K1 H0 H e s Q fun v o' S' H' b hv => q v o' S' H' b (i v o' S' hv)
/-- Table([..]) -/
theorem w_tab {σ : L2.St} {te : TE} {ws : List Int} (h : W g (te σ) S (NewO S (.lst (ws.map V.int)))) (ok : WorthsOk ws) : W g (tMake (CT K) (sp_Table_init K) [] C8.E0 (tCons te tNil) σ) S fun v S' => ∃ q, v = .ref q ∧ TableAt K S' q ws :=
  w_make0 (w_consR (R := fun vs S => ∃ p, vs = [.ref p] ∧ S p = some (.lst (ws.map V.int))) h fun v S e hx => w_nilR fun S2 e2 => by
    obtain ⟨p, ev, _, hp⟩ := hx
    exact ⟨p, by rw [ev], e2 _ _ hp⟩) fun vs S2 e hv x dx hx hk ne => by
    obtain ⟨p, ev, hs⟩ := hv
    subst ev
    exact (v_Table hs ok hx).imp fun v o' S' h => ⟨h.1, fun hn => ⟨x, rfl, h.2 hn⟩⟩
/-- .. of a list that is known -/
theorem w_tabK {σ : L2.St} {te : TE} {ws : List Int} {p : Addr} (h : W g (te σ) S (Is (.ref p))) (hp : S p = some (.lst (ws.map V.int))) (ok : WorthsOk ws) : W g (tMake (CT K) (sp_Table_init K) [] C8.E0 (tCons te tNil) σ) S fun v S' => ∃ q, v = .ref q ∧ TableAt K S' q ws :=
  w_make0 (w_cons h w_nil) fun vs S2 e hv x dx hx hk ne => by
    cases hv
    exact (v_Table (e _ _ hp) ok hx).imp fun v o' S' h => ⟨h.1, fun hn => ⟨x, rfl, h.2 hn⟩⟩
/-! the ways to make a table -/
abbrev rg10 : List Nat := List.range 10
abbrev spTab (K : PySem.W.Frag) (n : Nat) (vals : List Int → Nat → Int) : Sp := Pr (ι := List Int) (fun a => .ref (CT K) :: a.map V.int) (fun _ a _ => a.length = n ∧ (∀ x ∈ a, 0 ≤ x) ∧ (n = 3 → a.getD 2 0 ≤ 9) ∧ WorthsOk (rg10.map (vals a))) (fun a _ v S => ∃ q, v = .ref q ∧ TableAt K S q (rg10.map (vals a)))
def eitherV (a : List Int) (s : Nat) : Int := max (a.getD 0 0) (a.getD 1 0 * s)
def bothV (a : List Int) (s : Nat) : Int := a.getD 0 0 + a.getD 1 0 * s
def changeV (a : List Int) (s : Nat) : Int := if (s : Int) < a.getD 2 0 then a.getD 0 0 else a.getD 1 0 * s
theorem mul_rg {y : Int} {i s : Nat} (h : rg10[i]? = some s) : CMul y (s : Nat) := by
  have := List.mem_range.mp (List.mem_of_getElem? h)
  exact .inr ⟨by omega, by omega⟩
def sp_Table_either (K : PySem.W.Frag) : Sp := spTab K 2 eitherV
theorem fr_Table_either (T : Txt K mg) : FnR P w K mg base C8.CX0 6 (He5.wf K (He.ga K "Table") "classmethod" "either") (sp_Table_either K) := mk_Table_either T (fun vs H Q E ⟨g, K0, a, e, _, h, _⟩ => by rw [e, List.length_cons, List.length_map, h.1]) (fun cdv A outer s H Q E hr => by
  have hu := hu_of hr
  have nd := sc_Table_either.nd
  refine ⟨_, (pss_cons (ps_expr (C8.pe_c (c_check_numbers (K := K) T) hr (by decide) rfl (pa_cons (pv 1) (pa_cons (pv 2) pa_nil))))
      (pss_one (ps_ret (pe_clsL (k_Table (K := K) T) hr (by decide) (i := 0) rfl (pa_cons (pe_lc (own := [("speed", 3)]) (g := gName 3) (tt := tYes) rfl nd (pi_range1 rfl (T.free 54 rfl) (pa_cons (pe_op op_add (C8.pe_gc rfl (T.gint 63 rfl)) pe_int) pa_nil)) (blkOk_by (own := [("speed", 3)]) (N := N_Table_either) (sc := d_Table_either.scope) (by decide +kernel)) (fun _ _ _ _ _ => (pg_name (i := 3) nd rfl (by first | exact .inl rfl | exact .inr rfl))) (fun _ _ _ _ _ => pts_nil) (fun _ _ _ _ _ => (pe_callB (call_max2 rfl) rfl (T.free 55 rfl) bt_max (pa_cons (pv 1) (pa_cons (pe_op op_mul (pv 2) (pv 3)) pa_nil))))) pa_nil))))), fun vs ⟨g, S0, a, e, at0, hp, hQ⟩ => ?_⟩
  obtain ⟨h1, h2, _, h3⟩ := hp
  subst e
  match a, h1 with
  | [t, y], _ =>
  refine (show G ⟨g, S0, H⟩ _ (start N_Table_either [.ref (CT K), .int t, .int y]) [] S0 from ?_) H ⟨at0, fun _ z => absurd z List.not_mem_nil, fun _ z => absurd z List.not_mem_nil, List.nodup_nil⟩
  refine gs_dropI (w_c0 (by walk_at "w") (v_check_numbers ⟨h2 t (by simp), h2 y (by simp)⟩)) ?_
  refine g_retP (w_makeL rfl (w_tab (ws := rg10.map (eitherV [t, y])) ?_ h3)) hQ fun v S e hv => hv
  rw [List.map_map]
  exact w_lcA (h := fun s : Nat => V.int s) (f := fun s => V.int (eitherV [t, y] s)) (w_iN (n := 10) (by walk_at "w") rfl (by decide)) (by decide) fun i s S hs e => ⟨_, tg_name, rfl, w_cb (w_cons (w_var rfl) (w_cons (w_op (w_var rfl) (w_var rfl) (w_rI (mul_rg hs))) w_nil)) w_max2⟩)

def sp_Table_both (K : PySem.W.Frag) : Sp := spTab K 2 bothV
theorem fr_Table_both (T : Txt K mg) : FnR P w K mg base C8.CX0 6 (He5.wf K (He.ga K "Table") "classmethod" "both") (sp_Table_both K) := mk_Table_both T (fun vs H Q E ⟨g, K0, a, e, _, h, _⟩ => by rw [e, List.length_cons, List.length_map, h.1]) (fun cdv A outer s H Q E hr => by
  have hu := hu_of hr
  have nd := sc_Table_both.nd
  refine ⟨_, (pss_cons (ps_expr (C8.pe_c (c_check_numbers (K := K) T) hr (by decide) rfl (pa_cons (pv 1) (pa_cons (pv 2) pa_nil))))
      (pss_one (ps_ret (pe_clsL (k_Table (K := K) T) hr (by decide) (i := 0) rfl (pa_cons (pe_lc (own := [("speed", 3)]) (g := gName 3) (tt := tYes) rfl nd (pi_range1 rfl (T.free 54 rfl) (pa_cons (pe_op op_add (C8.pe_gc rfl (T.gint 63 rfl)) pe_int) pa_nil)) (blkOk_by (own := [("speed", 3)]) (N := N_Table_both) (sc := d_Table_both.scope) (by decide +kernel)) (fun _ _ _ _ _ => (pg_name (i := 3) nd rfl (by first | exact .inl rfl | exact .inr rfl))) (fun _ _ _ _ _ => pts_nil) (fun _ _ _ _ _ => (pe_op op_add (pv 1) (pe_op op_mul (pv 2) (pv 3))))) pa_nil))))), fun vs ⟨g, S0, a, e, at0, hp, hQ⟩ => ?_⟩
  obtain ⟨h1, h2, _, h3⟩ := hp
  subst e
  match a, h1 with
  | [t, y], _ =>
  refine (show G ⟨g, S0, H⟩ _ (start N_Table_both [.ref (CT K), .int t, .int y]) [] S0 from ?_) H ⟨at0, fun _ z => absurd z List.not_mem_nil, fun _ z => absurd z List.not_mem_nil, List.nodup_nil⟩
  refine gs_dropI (w_c0 (by walk_at "w") (v_check_numbers ⟨h2 t (by simp), h2 y (by simp)⟩)) ?_
  refine g_retP (w_makeL rfl (w_tab (ws := rg10.map (bothV [t, y])) ?_ h3)) hQ fun v S e hv => hv
  rw [List.map_map]
  exact w_lcA (h := fun s : Nat => V.int s) (f := fun s => V.int (bothV [t, y] s)) (w_iN (n := 10) (by walk_at "w") rfl (by decide)) (by decide) fun i s S hs e => ⟨_, tg_name, rfl, w_op (w_var rfl) (w_op (w_var rfl) (w_var rfl) (w_rI (mul_rg hs))) w_rI0⟩)

def sp_Table_changing (K : PySem.W.Frag) : Sp := spTab K 3 changeV
theorem fr_Table_changing (T : Txt K mg) : FnR P w K mg base C8.CX0 6 (He5.wf K (He.ga K "Table") "classmethod" "changing") (sp_Table_changing K) := mk_Table_changing T (fun vs H Q E ⟨g, K0, a, e, _, h, _⟩ => by rw [e, List.length_cons, List.length_map, h.1]) (fun cdv A outer s H Q E hr => by
  have hu := hu_of hr
  have nd := sc_Table_changing.nd
  refine ⟨_, (pss_cons (ps_expr (C8.pe_c (c_check_numbers (K := K) T) hr (by decide) rfl (pa_cons (pv 1) (pa_cons (pv 2) pa_nil))))
      (pss_cons (ps_if (pt_not (pt_val (C8.pe_c (c_is_speed (K := K) T) hr (by decide) rfl (pa_cons (pv 3) pa_nil)))) (pss_one ps_never) pss_nil)
      (pss_one (ps_ret (pe_clsL (k_Table (K := K) T) hr (by decide) (i := 0) rfl (pa_cons (pe_lc (own := [("own", 4)]) (g := gName 4) (tt := tYes) rfl nd (pi_range1 rfl (T.free 54 rfl) (pa_cons (pe_op op_add (C8.pe_gc rfl (T.gint 63 rfl)) pe_int) pa_nil)) (blkOk_by (own := [("own", 4)]) (N := N_Table_changing) (sc := d_Table_changing.scope) (by decide +kernel)) (fun _ _ _ _ _ => (pg_name (i := 4) nd rfl (by first | exact .inl rfl | exact .inr rfl))) (fun _ _ _ _ _ => pts_nil) (fun _ _ _ _ _ => (pe_ifExp (pt_cmpR op_lt (pv 4) (pv 3) (nomark _)) (pv 1) (pe_op op_mul (pv 2) (pv 4))))) pa_nil)))))), fun vs ⟨g, S0, a, e, at0, hp, hQ⟩ => ?_⟩
  obtain ⟨h1, h2, h4, h3⟩ := hp
  subst e
  match a, h1 with
  | [t, y, z], _ =>
  refine (show G ⟨g, S0, H⟩ _ (start N_Table_changing [.ref (CT K), .int t, .int y, .int z]) [] S0 from ?_) H ⟨at0, fun _ z => absurd z List.not_mem_nil, fun _ z => absurd z List.not_mem_nil, List.nodup_nil⟩
  refine gs_dropI (w_c0 (by walk_at "w") (v_check_numbers ⟨h2 t (by simp), h2 y (by simp)⟩)) ?_
  refine gs_ifF (w_not (w_tB (w_c0 (by walk_at "w") (v_speed ⟨h2 z (by simp), h4 rfl⟩)))) rfl ?_
  refine g_retP (w_makeL rfl (w_tab (ws := rg10.map (changeV [t, y, z])) ?_ h3)) hQ fun v S e hv => hv
  rw [List.map_map]
  refine w_lcA (h := fun s : Nat => V.int s) (f := fun s => V.int (changeV [t, y, z] s)) (w_iN (n := 10) (by walk_at "w") rfl (by decide)) (by decide) fun i s S hs e => ⟨_, tg_name, rfl, w_if (a := decide ((s : Int) < z)) (by walk_at "w") (fun h => (w_var rfl : W g (tVar 1 _) S (Is (.int t))).is ?_) fun h => (w_op (w_var rfl) (w_var rfl) (w_rI (mul_rg hs))).is ?_⟩
  · show V.int t = V.int (if (s : Int) < z then t else y * s)
    rw [if_pos (of_decide_eq_true h)]
  · show V.int (y * s) = V.int (if (s : Int) < z then t else y * s)
    rw [if_neg (of_decide_eq_false h)])

/-! Table.read -/
theorem num_facts0 : ∀ k : Nat, k < 61 → (nS k).length ≤ 2 ∧ (nS k).cps.toList.all isDig = true := by
  have h : ∀ k : Fin 61, decide ((nS k.val).length ≤ 2) = true ∧ (nS k.val).cps.toList.all isDig = true := by decide +kernel
  intro k hk
  exact ⟨of_decide_eq_true (h ⟨k, hk⟩).1, (h ⟨k, hk⟩).2⟩
theorem worth_facts {ws : List Int} (ok : WorthsOk ws) : ∀ w ∈ ws, ∃ k : Nat, w = k ∧ k < 61 := fun w hw => by
  obtain ⟨h1, h2⟩ := ok.2 w hw
  obtain ⟨k, hk⟩ := Int.eq_ofNat_of_zero_le h1
  exact ⟨k, hk, by omega⟩
theorem dig_bound {c : Nat} (h : isDig c = true) : 48 ≤ c ∧ c ≤ 57 := by
  have h2 : c ∈ ("0123456789" : Str).cps.toList := of_decide_eq_true h
  have e : ("0123456789" : Str).cps.toList = [48, 49, 50, 51, 52, 53, 54, 55, 56, 57] := by decide +kernel
  rw [e] at h2
  simp only [List.mem_cons, List.not_mem_nil, or_false] at h2
  omega
theorem split_nS {ws : List Int} (ok : WorthsOk ws) : Txt.split (Txt.join " " (ws.map nS)) " " = ws.map nS := by
  have e : ws.map nS = (ws.map fun w => (nS w).cps.toList).map SX.S := by
    rw [List.map_map]
    exact List.map_congr_left fun w _ => (SX.S_tl _).symm
  have e2 : (" " : Str) = SX.S [32] := by decide +kernel
  rw [e, e2, SX.join_S, SX.split_S (by simp) (by decide), SX.spl_join (c := 32) (sep := [])]
  · intro z
    have := congrArg List.length z
    rw [List.length_map, ok.1] at this
    cases this
  · intro p hp
    obtain ⟨w, hw, ew⟩ := List.mem_map.mp hp
    obtain ⟨k, ek, hk⟩ := worth_facts ok w hw
    rw [← ew, ek]
    intro z
    have := dig_bound (List.all_eq_true.mp (num_facts0 k hk).2 32 z)
    omega
theorem joinL_len (s : List Nat) : ∀ ps : List (List Nat), (TL.joinL s ps).length ≤ (ps.map List.length).sum + ps.length * s.length
  | [] => Nat.zero_le _
  | [p] => by
    show p.length ≤ _
    simp
  | p :: q :: r => by
    have ih := joinL_len s (q :: r)
    show (p ++ (s ++ TL.joinL s (q :: r))).length ≤ _
    rw [List.length_append, List.length_append]
    simp only [List.map_cons, List.sum_cons, List.length_cons, Nat.add_mul, Nat.one_mul] at ih ⊢
    omega
theorem join_len (a : Str) (ys : List Str) : (Txt.join a ys).length ≤ (ys.map (·.length)).sum + ys.length * a.length := by
  have e : ys = (ys.map fun y => y.cps.toList).map SX.S := by
    rw [List.map_map]
    exact (List.map_id' ys).symm.trans (List.map_congr_left fun w _ => (SX.S_tl _).symm)
  have ea : a = SX.S a.cps.toList := (SX.S_tl _).symm
  have h := joinL_len a.cps.toList (ys.map fun y => y.cps.toList)
  rw [ea, e, SX.join_S, SX.S_len]
  rw [List.map_map, List.length_map] at h
  rw [← e]
  refine Nat.le_trans h (Nat.le_of_eq ?_)
  congr 1
theorem sum_le {b : Nat} : ∀ {l : List Nat}, (∀ x ∈ l, x ≤ b) → l.sum ≤ l.length * b
  | [], _ => Nat.zero_le _
  | x :: l, h => by
    have h1 := h x List.mem_cons_self
    have h2 := sum_le fun y hy => h y (List.mem_cons_of_mem _ hy)
    rw [List.sum_cons, List.length_cons, Nat.add_mul, Nat.one_mul]
    omega
theorem nS_sum {ws : List Int} (ok : WorthsOk ws) : ((ws.map nS).map (·.length)).sum ≤ 20 := by
  have h : ((ws.map nS).map (·.length)).sum ≤ ((ws.map nS).map (·.length)).length * 2 := sum_le fun x hx => by
    obtain ⟨y, hy, e1⟩ := List.mem_map.mp hx
    obtain ⟨w, hw, e2⟩ := List.mem_map.mp hy
    obtain ⟨k, ek, hk⟩ := worth_facts ok w hw
    rw [← e1, ← e2, ek]
    exact (num_facts0 k hk).1
  rw [List.length_map, List.length_map, ok.1] at h
  exact h
theorem num_zero : ∀ k : Nat, k < 61 → (nS k = "0" ↔ k = 0) := by
  have h : ∀ k : Fin 61, decide (nS k.val = "0") = decide (k.val = 0) := by decide +kernel
  exact fun k hk => decide_eq_decide.mp (h ⟨k, hk⟩)
theorem vstr_eq {a b : Str} : decide (V.str a = V.str b) = decide (a = b) := decide_eq_decide.mpr ⟨fun h => V.str.inj h, fun h => by rw [h]⟩
def sp_Table_read (K : PySem.W.Frag) : Sp := Pr (ι := List Int) (fun ws => [.ref (CT K), .str (Txt.join " " (ws.map nS))]) (fun _ ws _ => WorthsOk ws) (fun ws _ v S => ∃ q, v = .ref q ∧ TableAt K S q ws)
theorem fr_Table_read (T : Txt K mg) : FnR P w K mg base C8.CX0 6 (He5.wf K (He.ga K "Table") "classmethod" "read") (sp_Table_read K) := mk_Table_read T (pr_len (ps := ["cls", "text"]) fun _ => rfl) (Bd.bs fun cdv A outer s H Q E hr => by
  have hu := hu_of hr
  have nd := sc_Table_read.nd
  refine ⟨_, (pss_cons (ps_if (pt_not (pt_val (pe_callB (cbIsi (K := K) rfl) rfl (T.free 49 rfl) bt_isinstance (pa_cons (pv 1) (pa_cons (pe_bltn (v := .ty "str") rfl (T.free 58 rfl) bt_str rfl) pa_nil))))) (pss_one ps_never) pss_nil)
      (pss_cons (ps_set (i := 2) nd rfl (by first | exact .inl rfl | exact .inr rfl) (pe_split (pv 1) pe_str))
      (pss_cons (ps_setLc (i := 3) (own := [("word", 4)]) (g := gName 4) (tt := tYes) rfl nd rfl rfl (sw_true rfl rfl rfl (by decide +kernel)) (piL (K := K) rfl (pv 2)) (blkOk_by (own := [("word", 4)]) (N := N_Table_read) (sc := d_Table_read.scope) (by decide +kernel)) (fun _ _ _ _ _ => (pg_name (i := 4) nd rfl (by first | exact .inl rfl | exact .inr rfl))) (fun _ _ _ _ _ => pts_nil) (fun _ _ _ _ _ => (pe_ifExp (pt_cmpR op_eq (pv 4) pe_str (nomark _)) pe_int (C8.pe_c (c_number_in (K := K) T) hr (by decide) rfl (pa_cons (pv 4) (pa_cons (C8.pe_gc rfl (T.gint 65 rfl)) pa_nil))))))
      (pss_cons (ps_if (PW.pt (pw_or (pt_cmpR (opNeD (K := K) rfl hr.units) (pe_lc (own := [("worth", 5)]) (g := gName 5) (tt := tYes) rfl nd (piL (K := K) rfl (pv 3)) (blkOk_by (own := [("worth", 5)]) (N := N_Table_read) (sc := d_Table_read.scope) (by decide +kernel)) (fun _ _ _ _ _ => (pg_name (i := 5) nd rfl (by first | exact .inl rfl | exact .inr rfl))) (fun _ _ _ _ _ => pts_nil) (fun _ _ _ _ _ => (pe_callTy call_str_int rfl (T.free 58 rfl) bt_str (pa_cons (pv 5) pa_nil)))) (pv 2) (nomark _)) (pw_or1 (pt_not (pt_val (C8.pe_c (c_are_worths (K := K) T) hr (by decide) rfl (pa_cons (pv 3) pa_nil))))))) (pss_one ps_never) pss_nil)
      (pss_one (ps_ret (pe_clsL (k_Table (K := K) T) hr (by decide) (i := 0) rfl (pa_cons (pv 3) pa_nil)))))))), fun g S0 x hp hQ => ?_⟩
  have hl : (Txt.join " " (x.map nS)).length ≤ 100 := by
    refine Nat.le_trans (join_len _ _) ?_
    have h1 := nS_sum hp
    rw [List.length_map, hp.1]
    have h2 : (" " : Str).length = 1 := by decide
    rw [h2]
    omega
  refine gs_ifF (w_not (w_tB (w_cb (by walk_at "w") (w_isiS (b := true) (by decide +kernel))))) rfl ?_
  refine gs_asg (R := NewO S0 (.lst ((x.map nS).map V.str))) (w_m1 (w_var rfl) w_c ?_) fun v S e ⟨p, ev, _, hs⟩ => ?_
  · refine w_new fun H e Q q => ⟨_, _, rfl, rfl, by decide, sz_of (by omega), ?_⟩
    rw [split_nS hp]
    exact q
  subst ev
  refine gs_asg (R := NewO S (.lst (x.map V.int))) (w_lcA (ys := x) (h := fun w => V.str (nS w)) (f := V.int) (w_iL (w_var rfl) (sq_of (by rw [hs, List.map_map] <;> rfl))) (by rw [hp.1]; decide) fun i w S hw e => ⟨_, tg_name, rfl, ?_⟩) fun v S2 e2 ⟨q, ev, _, hq⟩ => ?_
  · obtain ⟨k, ek, hk⟩ := worth_facts hp w (List.mem_of_getElem? hw)
    subst ek
    refine w_if (a := decide (V.str (nS k) = V.str "0")) (w_test (w_op (w_var rfl) w_c (w_rEq rfl))) (fun h => w_c.is ?_) fun h => w_c0 (by walk_at "w") (v_number ⟨hk, ?_⟩)
    · rw [vstr_eq] at h
      rw [(num_zero k hk).mp (of_decide_eq_true h)] <;> rfl
    · rw [vstr_eq] at h
      have := mt (num_zero k hk).mpr (of_decide_eq_false h)
      omega
  subst ev
  refine gs_ifF (w_orU (w_test (w_opN1 (o := .lst ((x.map nS).map V.str)) ((w_lcA (ys := x) (h := V.int) (f := fun w => V.str (nS w)) (w_iL (w_var rfl) (sq_of hq)) (by rw [hp.1]; decide) fun i w S hw e => ⟨_, tg_name, rfl, w_cb (by walk_at "w") (w_str ?_)⟩).imp fun v S _ hv => ?_) (fun S e => w_var rfl) fun p2 S3 e3 h3 => w_neLS h3 (e3 _ _ (e2 _ _ hs)) ?_)) (w_not (w_tB (w_c0 (by walk_at "w") (v_worths hq hp))))) rfl ?_
  · obtain ⟨k, ek, hk⟩ := worth_facts hp w (List.mem_of_getElem? hw)
    rw [ek]
    exact Nat.lt_of_le_of_lt (Nat.log2_le_self k) (by omega)
  · obtain ⟨r, h1, h2, h3⟩ := hv
    exact ⟨r, h1, h2, by rw [h3, List.map_map] <;> rfl⟩
  · intro y hy c hc
    obtain ⟨w, hw, ew⟩ := List.mem_map.mp hy
    obtain ⟨k, ek, hk⟩ := worth_facts hp w hw
    rw [← ew, ek] at hc
    have := dig_bound (List.all_eq_true.mp (num_facts0 k hk).2 c hc)
    omega
  exact g_retP (w_makeL rfl (w_tabK (w_var rfl) hq hp)) hQ fun v S e hv => hv)

end
end Cm

/-! ## E2 -/
set_option maxHeartbeats 4000000
/-! The defs: meters. -/
namespace Cm
open PySem PySem.Spec PyProof.Rows L2 Evl
local macro_rules | `(tactic| walk_at "w") => `(tactic| first
  | exact w_c
  | ((refine w_var ?_); rfl)
  | exact w_nil
  | ((refine w_cons (x := ?x) (xs := ?xs) ?h1 ?h2); (case h1 => walk_at "w"); (case h2 => walk_at "w"))
  | ((refine w_op (x := ?x) (y := ?y) ?h1 ?h2 ?h3); (case h1 => walk_at "w"); (case h2 => walk_at "w"); (case h3 => walk_at "w"))
  | exact w_rI0
  | exact w_rU
  | ((refine w_un (x := ?x) ?h1 ?h2); (case h1 => walk_at "w"); (case h2 => walk_at "w"))
  | ((refine w_rEq ?_); rfl)
  | ((refine w_rNe ?_); rfl)
  | ((refine w_test (b := ?b) ?h1); (case h1 => walk_at "w"))
  | ((refine w_tB (b := ?b) ?h1); (case h1 => walk_at "w"))
  | ((refine w_not (a := ?a) ?h1); (case h1 => walk_at "w"))
  | ((refine w_orU (a := ?a) (b := ?b) ?h1 ?h2); (case h1 => walk_at "w"); (case h2 => walk_at "w"))
  | ((refine w_andU (a := ?a) (b := ?b) ?h1 ?h2); (case h1 => walk_at "w"); (case h2 => walk_at "w"))
  | ((refine w_notV (a := ?a) ?h1); (case h1 => walk_at "w"))
  | ((refine w_orVU (a := ?a) (b := ?b) ?h1 ?h2); (case h1 => walk_at "w"); (case h2 => walk_at "w"))
  | ((refine w_andVU (a := ?a) (b := ?b) ?h1 ?h2); (case h1 => walk_at "w"); (case h2 => walk_at "w"))
  | ((refine w_chain1 (x := ?x) (y := ?y) (z := ?z) (p := ?p) (q := ?q) ?h1 ?h2 ?h3 ?h4 ?h5); (case h1 => walk_at "w"); (case h2 => walk_at "w"); (case h3 => walk_at "w"); (case h4 => walk_at "w"); (case h5 => walk_at "w"))
  | exact w_isN
  | exact w_max2
  | exact w_min2
  | exact w_int1
  | exact w_abs
  | (refine w_rI ?_; decide)
  | assumption)

section
variable {P : Program} {w : World} {K : PySem.W.Frag} {mg : Str → Option Value} {base : Heap} {g : Bg} {S : Hp}
def sp_check_number (K : PySem.W.Frag) : Sp := Pr (ι := Int × Int × Int) (fun x => [.int x.1, .int x.2.1, .int x.2.2]) (fun _ x _ => x.2.1 ≤ x.1 ∧ x.1 ≤ x.2.2) (fun _ _ v _ => v = .non)
theorem c_check_number (T : Txt K mg) : C8.Cal P w K mg base 3 "check_number" (sp_check_number K) [] := mk_check_number T (pr_len (ps := ["value", "least", "most"]) fun _ => rfl) (Bd.bs fun cdv A outer s H Q E hr => by
  have hu := hu_of hr
  have nd := sc_check_number.nd
  refine ⟨_, (pss_one (ps_if (pt_not (pt_val (C8.pe_c (c_is_between (K := K) T) hr (by decide) rfl (pa_cons (pv 0) (pa_cons (pv 1) (pa_cons (pv 2) pa_nil)))))) (pss_one ps_never) pss_nil)), fun g S0 x hp hQ => ?_⟩
  exact g_ifF (w_not (w_tB (w_c0 (by walk_at "w") (v_between hp)))) rfl (g_endP hQ rfl))

theorem v_check_number {n a b : Int} (h : a ≤ n ∧ n ≤ b) : SpW g (sp_check_number K) [.int n, .int a, .int b] S (Is .non) := w_pr (n, a, b) (fun _ _ => h) fun _ _ _ _ _ h => h
def sp_check_top (K : PySem.W.Frag) : Sp := Pr (ι := Int) (fun x => [.int x]) (fun _ x _ => 0 ≤ x ∧ x ≤ 9) (fun _ _ v _ => v = .non)
theorem c_check_top (T : Txt K mg) : C8.Cal P w K mg base 3 "check_top" (sp_check_top K) [] := mk_check_top T (pr_len (ps := ["top"]) fun _ => rfl) (Bd.bs fun cdv A outer s H Q E hr => by
  have hu := hu_of hr
  have nd := sc_check_top.nd
  refine ⟨_, (pss_one (ps_if (pt_not (pt_val (C8.pe_c (c_is_between (K := K) T) hr (by decide) rfl (pa_cons (pv 0) (pa_cons pe_int (pa_cons (pe_op op_sub (C8.pe_gc rfl (T.gint 71 rfl)) pe_int) pa_nil)))))) (pss_one ps_never) pss_nil)), fun g S0 x hp hQ => ?_⟩
  exact g_ifF (w_not (w_tB (w_c0 (by walk_at "w") (v_between ⟨hp.1, by omega⟩)))) rfl (g_endP hQ rfl))

theorem v_check_top {n : Int} (h : 0 ≤ n ∧ n ≤ 9) : SpW g (sp_check_top K) [.int n] S (Is .non) := w_pr n (fun _ _ => h) fun _ _ _ _ _ h => h
/-- a list or a tuple of these -/
def SeqO (S : Hp) (p : Addr) (xs : List V) : Prop := S p = some (.lst xs) ∨ S p = some (.tup xs)
theorem SeqO.mono {S S' : Hp} {p : Addr} {xs : List V} (e : Ex S S') (h : SeqO S p xs) : SeqO S' p xs := h.imp (e _ _) (e _ _)
theorem SeqO.sq {S : Hp} {p : Addr} {xs : List V} (h : SeqO S p xs) : SqL K S p xs ∨ SqT K S p xs := h.imp sq_of st_of
theorem SeqO.ty {S : Hp} {p : Addr} {xs : List V} (h : SeqO S p xs) : ∃ t : String, (∀ H, Ex S H → TyX K H (.ref p) (.type t)) ∧ (t = "list" ∨ t = "tuple") := by
  rcases h with h | h
  · exact ⟨_, fun H e => .base (.lst (e _ _ h)), .inl rfl⟩
  · exact ⟨_, fun H e => .base (.tup (e _ _ h)), .inr rfl⟩
theorem pair_lt {us : List Int} (h : us.Pairwise (· < ·)) {j : Nat} {a b : Int} (h1 : us[j]? = some a) (h2 : us[j + 1]? = some b) : a < b := by
  obtain ⟨l1, e1⟩ := List.getElem?_eq_some_iff.mp h1
  obtain ⟨l2, e2⟩ := List.getElem?_eq_some_iff.mp h2
  rw [← e1, ← e2]
  exact List.pairwise_iff_getElem.mp h j (j + 1) l1 l2 (Nat.lt_succ_self j)
def sp_are_turns (K : PySem.W.Frag) : Sp := Pr (ι := Addr × List Int) (fun x => [.ref x.1, .int x.2.length]) (fun _ x S => SeqO S x.1 (x.2.map V.int) ∧ (∀ y ∈ x.2, 1 ≤ y ∧ y ≤ 9) ∧ x.2.Pairwise (· < ·) ∧ x.2.length ≤ 9) (fun _ _ v _ => v = .bl true)
theorem c_are_turns (T : Txt K mg) : C8.Cal P w K mg base 3 "are_turns" (sp_are_turns K) [] := mk_are_turns T (pr_len (ps := ["turns", "many"]) fun _ => rfl) (Bd.bs fun cdv A outer s H Q E hr => by
  have hu := hu_of hr
  have nd := sc_are_turns.nd
  refine ⟨_, (pss_cons (ps_if (PW.pt (pw_or (pt_not (pt_val (pe_callB (cbIsiT (K := K) rfl) rfl (T.free 49 rfl) bt_isinstance (pa_cons (pv 0) (pa_cons (pe_tup (pa_cons (pe_bltn (v := .ty "list") rfl (T.free 53 rfl) bt_list rfl) (pa_cons (pe_bltn (v := .ty "tuple") rfl (T.free 52 rfl) bt_tuple rfl) pa_nil))) pa_nil))))) (pw_or1 (pt_cmpR op_ne (pe_callB (cbLen (K := K) rfl) rfl (T.free 51 rfl) bt_len (pa_cons (pv 0) pa_nil)) (pv 1) (nomark _))))) (pss_one (ps_ret pe_bl)) pss_nil)
      (pss_cons (ps_if (pt_not (pt_val (pe_callB (cbAll (K := K) rfl rfl) rfl (T.free 50 rfl) bt_all (pa_cons (pe_lc (own := [("turn", 3)]) (g := gName 3) (tt := tYes) rfl nd (piQ (K := K) rfl (pv 0)) (blkOk_by (own := [("turn", 3)]) (N := N_are_turns) (sc := d_are_turns.scope) (by decide +kernel)) (fun _ _ _ _ _ => (pg_name (i := 3) nd rfl (by first | exact .inl rfl | exact .inr rfl))) (fun _ _ _ _ _ => pts_nil) (fun _ _ _ _ _ => (C8.pe_c (c_is_between (K := K) T) hr (by decide) rfl (pa_cons (pv 3) (pa_cons pe_int (pa_cons (C8.pe_gc rfl (T.gint 69 rfl)) pa_nil)))))) pa_nil)))) (pss_one (ps_ret pe_bl)) pss_nil)
      (pss_one (ps_ret (pe_callB (cbAll (K := K) rfl rfl) rfl (T.free 50 rfl) bt_all (pa_cons (pe_lc (own := [("place", 2)]) (g := gName 2) (tt := tYes) rfl nd (pi_range1 rfl (T.free 54 rfl) (pa_cons (pe_op op_sub (pv 1) pe_int) pa_nil)) (blkOk_by (own := [("place", 2)]) (N := N_are_turns) (sc := d_are_turns.scope) (by decide +kernel)) (fun _ _ _ _ _ => (pg_name (i := 2) nd rfl (by first | exact .inl rfl | exact .inr rfl))) (fun _ _ _ _ _ => pts_nil) (fun _ _ _ _ _ => (pe_cmpR op_lt (pe_ix (ixQ (K := K) rfl) (pv 0) (pv 2) (fun _ _ => rfl)) (pe_ix (ixQ (K := K) rfl) (pv 0) (pe_op op_add (pv 2) pe_int) (fun _ _ => rfl)) (nomark _)))) pa_nil)))))), fun g S0 x hp hQ => ?_⟩
  obtain ⟨h0, h1, h2, h3⟩ := hp
  obtain ⟨t, ht, hk⟩ := h0.ty (K := K)
  refine gs_ifF (w_orU (w_not (w_tB (w_isiLT (w_var rfl) w_c w_c ht hk))) (w_test (w_op (w_cb (by walk_at "w") (w_lenQ h0.sq)) (w_var rfl) (w_rNe rfl)))) ?_ ?_
  · rw [List.length_map, vint_ne]
    simp
  refine gs_ifF (w_not (w_tB (w_allLc (ys := x.2) (h := V.int) (p := fun v => decide (1 ≤ v) && decide (v ≤ 9)) (w_iQ (w_var rfl) h0.sq) (by omega) fun i c S hc e => ⟨_, tg_name, rfl, w_c0 (by walk_at "w") v_is_between⟩))) ?_ ?_
  · rw [Bool.not_eq_false', List.all_eq_true]
    intro v hv
    rw [decide_eq_true (h1 v hv).1, decide_eq_true (h1 v hv).2] <;> rfl
  refine g_retI ((w_allLc (ys := List.range (x.2.length - 1)) (h := fun i : Nat => V.int i) (p := fun i => decide (x.2.getD i 0 < x.2.getD (i + 1) 0)) (w_iNT (by walk_at "w") (by omega) (by omega)) (by rw [List.length_range]; omega) fun i c S hc e => ⟨_, tg_name, rfl, w_op (w_op (w_var rfl) (w_var rfl) (w_ixQ (h0.mono e).sq (at_map (getD_at ?_)))) (w_op (w_var rfl) (by walk_at "w") (w_ixQ (h0.mono e).sq (at_map (j := c + 1) (getD_at ?_)))) w_rI0⟩).is ?_) hQ fun S e => rfl
  · have := List.mem_range.mp (List.mem_of_getElem? hc)
    omega
  · have := List.mem_range.mp (List.mem_of_getElem? hc)
    omega
  · congr 1
    rw [List.all_eq_true]
    intro j hj
    have := List.mem_range.mp hj
    exact decide_eq_true (pair_lt h2 (getD_at (by omega)) (getD_at (by omega))))

theorem v_turns {p : Addr} {us : List Int} {n : Int} (h : SeqO S p (us.map V.int)) (h1 : ∀ y ∈ us, 1 ≤ y ∧ y ≤ 9) (h2 : us.Pairwise (· < ·)) (h3 : us.length ≤ 9) (e : n = us.length) : SpW g (sp_are_turns K) [.ref p, .int n] S (Is (.bl true)) := by
  subst e
  exact w_pr (p, us) (fun _ e => ⟨h.mono e, h1, h2, h3⟩) fun _ _ _ _ _ h => h
def sp_Meter_table_at (K : PySem.W.Frag) : Sp := Pr (ι := Addr × Int × Mtr) (fun x => [.ref x.1, .int x.2.1]) (fun _ x S => MtrAt K S x.1 x.2.2 ∧ x.2.2.Ok) (fun x _ v S => ∃ q, v = .ref q ∧ TableAt K S q (x.2.2.tabAt x.2.1))
theorem m_Meter_table_at (T : Txt K mg) : C8.Met P w K mg base 1 (He.ga K "Meter") "table_at" (sp_Meter_table_at K) [] := mk_Meter_table_at T (pr_len (ps := ["self", "jumps"]) fun _ => rfl) (Bd.bs fun cdv A outer s H Q E hr => by
  have hu := hu_of hr
  have nd := sc_Meter_table_at.nd
  refine ⟨_, (pss_one (ps_ret (pe_ix (ixT (K := K) rfl) (peFld (K := K) rfl (pv 0) rfl) (pe_callB (cbLen (K := K) rfl) rfl (T.free 51 rfl) bt_len (pa_cons (pe_lc (own := [("turn", 2)]) (g := gName 2) rfl nd (piT (K := K) rfl (peFld (K := K) rfl (pv 0) rfl)) (blkOk_by (own := [("turn", 2)]) (N := N_Meter_table_at) (sc := d_Meter_table_at.scope) (by decide +kernel)) (fun _ _ _ _ _ => (pg_name (i := 2) nd rfl (by first | exact .inl rfl | exact .inr rfl))) (fun _ _ _ _ _ => (pts_one (pt_cmpR op_le (pv 2) (pv 1) (nomark _)))) (fun _ _ _ _ _ => (pv 2))) pa_nil)) (fun _ _ => rfl)))), fun g S0 x hp hQ => ?_⟩
  obtain ⟨⟨dx, n, t, u, d, h1, h2, ⟨ts, h3, h4⟩, h5⟩, ok⟩ := hp
  have hl : (x.2.2.turns.filter fun y => decide (y ≤ x.2.1)).length < x.2.2.tables.length := by
    have := List.length_filter_le (fun y => decide (y ≤ x.2.1)) x.2.2.turns
    have := ok.ul
    omega
  have hl2 : (x.2.2.turns.filter fun y => decide (y ≤ x.2.1)).length < ts.length := by rw [h4.1]; exact hl
  refine g_retI (v := .ref (ts.getD (x.2.2.turns.filter fun y => decide (y ≤ x.2.1)).length 0)) (w_op (w_fld (w_var rfl) h1 (cl_Meter T) (na_Meter_own_tables T) rfl) (w_lenLcF (ys := x.2.2.turns) (h := V.int) (p := fun y => decide (y ≤ x.2.1)) (f := V.int) (w_iT (w_fld (w_var rfl) h1 (cl_Meter T) (na_Meter_own_turns T) rfl) (st_of h5)) ?_ fun i c S hc e => ⟨_, tg_name, rfl, by walk_at "w", fun _ => w_var rfl⟩) (w_ixT (st_of h3) (at_map ?_))) hQ fun S e => ⟨_, rfl, ?_⟩
  · have := ok.ul
    have := ok.tl
    omega
  · rw [List.getD_eq_getElem?_getD, List.getElem?_eq_getElem hl2] <;> rfl
  · refine (h4.2 _ _ _ (by rw [List.getD_eq_getElem?_getD, List.getElem?_eq_getElem hl2] <;> rfl) ?_).mono e
    unfold Mtr.tabAt
    rw [List.getD_eq_getElem?_getD, List.getElem?_eq_getElem hl] <;> rfl)

theorem v_table_at {p : Addr} {j : Int} {M : Mtr} (h : MtrAt K S p M) (ok : M.Ok) : SpW g (sp_Meter_table_at K) [.ref p, .int j] S (fun v S => ∃ q, v = .ref q ∧ TableAt K S q (M.tabAt j)) := w_pr (p, j, M) (fun _ e => ⟨h.mono e, ok⟩) fun _ _ _ _ _ h => h
def sp_Meter_jumps_at (K : PySem.W.Frag) : Sp := Pr (ι := Addr × Int × Mtr) (fun x => [.ref x.1, .int x.2.1]) (fun _ x S => MtrAt K S x.1 x.2.2 ∧ x.2.2.Ok) (fun x _ v _ => v = .int (x.2.2.jumpsAt x.2.1))
theorem m_Meter_jumps_at (T : Txt K mg) : C8.Met P w K mg base 1 (He.ga K "Meter") "jumps_at" (sp_Meter_jumps_at K) [] := mk_Meter_jumps_at T (pr_len (ps := ["self", "count"]) fun _ => rfl) (Bd.bs fun cdv A outer s H Q E hr => by
  have hu := hu_of hr
  have nd := sc_Meter_jumps_at.nd
  refine ⟨_, (pss_cons (ps_asg (pe_slice (slT (K := K) rfl) (peFld (K := K) rfl (pv 0) rfl) po_none (po_some pe_int)) (pgTup (K := K) rfl rfl (pgs_cons (pg_name (i := 2) nd rfl (by first | exact .inl rfl | exact .inr rfl)) (pgs_cons (pg_name (i := 3) nd rfl (by first | exact .inl rfl | exact .inr rfl)) pgs_nil))))
      (pss_one (ps_ret (pe_ifExp (pt_cmpR op_lt (pv 1) (pv 2) (nomark _)) pe_int (pe_op op_add pe_int (pe_op op_fdivN (pe_op op_sub (pv 1) (pv 2)) (pv 3))))))), fun g S0 x hp hQ => ?_⟩
  obtain ⟨⟨dx, n, t, u, d, h1, h2, _, _⟩, ok⟩ := hp
  refine gs_un2N (x := .int x.2.2.first) (y := .int x.2.2.drop) ((w_sl (w_fld (w_var rfl) h1 (cl_Meter T) (na_Meter_own_numbers T) rfl) w_po0 (w_po1 w_c) (w_slT (st_of h2) (fun z => absurd (show HT.sIx 4 4 (some 2) = 4 from z.2) (by decide)))).imp fun v S e ⟨q, ev, _, hq⟩ => ⟨q, ev, st_of hq⟩) fun S e => ?_
  have hd := ok.d1
  refine g_retI (v := .int (x.2.2.jumpsAt x.2.1)) (w_if (a := decide (x.2.1 < x.2.2.first)) (by walk_at "w") (fun h => w_c.is ?_) fun h => (w_op w_c (w_op (w_op (w_var rfl) (w_var rfl) w_rI0) (w_var rfl) (w_rI ⟨by omega, by omega⟩)) w_rI0).is ?_) hQ fun S e => rfl
  · unfold Mtr.jumpsAt
    rw [if_pos (of_decide_eq_true h)]
  · unfold Mtr.jumpsAt
    rw [if_neg (of_decide_eq_false h)])

theorem v_jumps_at {p : Addr} {c : Int} {M : Mtr} (h : MtrAt K S p M) (ok : M.Ok) : SpW g (sp_Meter_jumps_at K) [.ref p, .int c] S (Is (.int (M.jumpsAt c))) := w_pr (p, c, M) (fun _ e => ⟨h.mono e, ok⟩) fun _ _ _ _ _ h => h
theorem tabAt_len {M : Mtr} (ok : M.Ok) {j : Int} : (M.tabAt j).length = 10 := by
  have h := List.length_filter_le (fun y => decide (y ≤ j)) M.turns
  have h2 := ok.ul
  have hl : (M.turns.filter fun y => decide (y ≤ j)).length < M.tables.length := by omega
  unfold Mtr.tabAt
  rw [List.getD_eq_getElem?_getD, List.getElem?_eq_getElem hl]
  exact (ok.ts _ (List.getElem_mem hl)).1
def sp_Meter_count_on (K : PySem.W.Frag) : Sp := Pr (ι := Addr × Int × Nat × Mtr) (fun x => [.ref x.1, .int x.2.1, .int x.2.2.1]) (fun _ x S => MtrAt K S x.1 x.2.2.2 ∧ x.2.2.2.Ok ∧ x.2.2.1 ≤ 9) (fun x _ v _ => v = .int (x.2.2.2.countOn x.2.1 x.2.2.1))
theorem m_Meter_count_on (T : Txt K mg) : C8.Met P w K mg base 6 (He.ga K "Meter") "count_on" (sp_Meter_count_on K) [] := mk_Meter_count_on T (pr_len (ps := ["self", "count", "speed"]) fun _ => rfl) (Bd.bs fun cdv A outer s H Q E hr => by
  have hu := hu_of hr
  have nd := sc_Meter_count_on.nd
  refine ⟨_, (pss_one (ps_ret (pe_op op_add (pv 1) (pe_ownIx (m_Table_getitem (K := K) T) (ix_Table (K := K) T) hr (by decide) (C8.pe_mt (m_Meter_table_at (K := K) T) hr (by decide) (pv 0) (pa_cons (C8.pe_mt (m_Meter_jumps_at (K := K) T) hr (by decide) (pv 0) (pa_cons (pv 1) pa_nil)) pa_nil)) (pv 2))))), fun g S0 x hp hQ => ?_⟩
  obtain ⟨h, ok, hs⟩ := hp
  obtain ⟨dx, n, t, u, d, h1, _⟩ := id h
  refine g_retI (v := .int (x.2.2.2.countOn x.2.1 x.2.2.1)) (w_op (w_var rfl) (w_ownIxR (Ra := fun v S => ∃ q, v = .ref q ∧ TableAt K S q (x.2.2.2.tabAt (x.2.2.2.jumpsAt x.2.1))) (R := Is (.int ((x.2.2.2.tabAt (x.2.2.2.jumpsAt x.2.1)).getD x.2.2.1 0))) (w_m0 (w_var rfl) h1 rfl (w_cons (w_m0 (w_var rfl) h1 rfl (by walk_at "w") (v_jumps_at h ok)) w_nil) (v_table_at h ok)) (fun S e => w_var rfl) fun v S e ⟨q, ev, hq⟩ => ?_) w_rI0) hQ fun S e => rfl
  obtain ⟨dx, r, k1, k2⟩ := id hq
  refine ⟨q, dx, _, ev, k1, v_worth hq ?_ hs⟩
  exact tabAt_len ok)

theorem v_count_on {p : Addr} {c : Int} {s : Nat} {M : Mtr} (h : MtrAt K S p M) (ok : M.Ok) (hs : s ≤ 9) : SpW g (sp_Meter_count_on K) [.ref p, .int c, .int s] S (Is (.int (M.countOn c s))) := w_pr (p, c, s, M) (fun _ e => ⟨h.mono e, ok, hs⟩) fun _ _ _ _ _ h => h
abbrev spProp (K : PySem.W.Frag) (f : Mtr → Int) : Sp := Pr (ι := Addr × Mtr) (fun x => [.ref x.1]) (fun _ x S => MtrAt K S x.1 x.2) (fun x _ v _ => v = .int (f x.2))
def sp_Meter_drop (K : PySem.W.Frag) : Sp := spProp K Mtr.drop
theorem p_Meter_drop (T : Txt K mg) : Prp P w K mg base 1 (He.ga K "Meter") "drop" (sp_Meter_drop K) := mk_Meter_drop T (pr_len (ps := ["self"]) fun _ => rfl) (Bd.bs fun cdv A outer s H Q E hr => by
  have hu := hu_of hr
  have nd := sc_Meter_drop.nd
  refine ⟨_, (pss_one (ps_ret (pe_ix (ixT (K := K) rfl) (peFld (K := K) rfl (pv 0) rfl) pe_int (fun _ _ => rfl)))), fun g S0 x hp hQ => ?_⟩
  obtain ⟨dx, n, t, u, d, h1, h2, _, _⟩ := hp
  exact g_retI (v := .int x.2.drop) (w_op (w_fld (w_var rfl) h1 (cl_Meter T) (na_Meter_own_numbers T) rfl) w_c (w_ixT (st_of h2) rfl)) hQ fun S e => rfl)

def sp_Meter_flag (K : PySem.W.Frag) : Sp := spProp K Mtr.flag
theorem p_Meter_flag (T : Txt K mg) : Prp P w K mg base 1 (He.ga K "Meter") "flag" (sp_Meter_flag K) := mk_Meter_flag T (pr_len (ps := ["self"]) fun _ => rfl) (Bd.bs fun cdv A outer s H Q E hr => by
  have hu := hu_of hr
  have nd := sc_Meter_flag.nd
  refine ⟨_, (pss_one (ps_ret (pe_ix (ixT (K := K) rfl) (peFld (K := K) rfl (pv 0) rfl) pe_int (fun _ _ => rfl)))), fun g S0 x hp hQ => ?_⟩
  obtain ⟨dx, n, t, u, d, h1, h2, _, _⟩ := hp
  exact g_retI (v := .int x.2.flag) (w_op (w_fld (w_var rfl) h1 (cl_Meter T) (na_Meter_own_numbers T) rfl) w_c (w_ixT (st_of h2) rfl)) hQ fun S e => rfl)

def sp_Meter_each (K : PySem.W.Frag) : Sp := spProp K Mtr.each
theorem p_Meter_each (T : Txt K mg) : Prp P w K mg base 1 (He.ga K "Meter") "each" (sp_Meter_each K) := mk_Meter_each T (pr_len (ps := ["self"]) fun _ => rfl) (Bd.bs fun cdv A outer s H Q E hr => by
  have hu := hu_of hr
  have nd := sc_Meter_each.nd
  refine ⟨_, (pss_one (ps_ret (pe_ix (ixT (K := K) rfl) (peFld (K := K) rfl (pv 0) rfl) pe_int (fun _ _ => rfl)))), fun g S0 x hp hQ => ?_⟩
  obtain ⟨dx, n, t, u, d, h1, h2, _, _⟩ := hp
  exact g_retI (v := .int x.2.each) (w_op (w_fld (w_var rfl) h1 (cl_Meter T) (na_Meter_own_numbers T) rfl) w_c (w_ixT (st_of h2) rfl)) hQ fun S e => rfl)

theorem v_drop {p : Addr} {M : Mtr} (h : MtrAt K S p M) : SpW g (sp_Meter_drop K) [.ref p] S (Is (.int M.drop)) := w_pr (p, M) (fun _ e => h.mono e) fun _ _ _ _ _ h => h
theorem v_flag {p : Addr} {M : Mtr} (h : MtrAt K S p M) : SpW g (sp_Meter_flag K) [.ref p] S (Is (.int M.flag)) := w_pr (p, M) (fun _ e => h.mono e) fun _ _ _ _ _ h => h
theorem v_each {p : Addr} {M : Mtr} (h : MtrAt K S p M) : SpW g (sp_Meter_each K) [.ref p] S (Is (.int M.each)) := w_pr (p, M) (fun _ e => h.mono e) fun _ _ _ _ _ h => h
def sp_Meter_start (K : PySem.W.Frag) : Sp := Pr (ι := Addr × Mtr) (fun x => [.ref x.1]) (fun _ x S => MtrAt K S x.1 x.2) (fun x _ v S => ∃ q, v = .ref q ∧ S q = some (.tup [.int 0, .int x.2.first]))
theorem p_Meter_start (T : Txt K mg) : Prp P w K mg base 1 (He.ga K "Meter") "start" (sp_Meter_start K) := mk_Meter_start T (pr_len (ps := ["self"]) fun _ => rfl) (Bd.bs fun cdv A outer s H Q E hr => by
  have hu := hu_of hr
  have nd := sc_Meter_start.nd
  refine ⟨_, (pss_one (ps_ret (pe_tup (pa_cons pe_int (pa_cons (pe_ix (ixT (K := K) rfl) (peFld (K := K) rfl (pv 0) rfl) pe_int (fun _ _ => rfl)) pa_nil))))), fun g S0 x hp hQ => ?_⟩
  obtain ⟨dx, n, t, u, d, h1, h2, _, _⟩ := hp
  exact g_retP (w_tup (xs := [.int 0, .int x.2.first]) (w_cons w_c (w_cons (w_op (w_fld (w_var rfl) h1 (cl_Meter T) (na_Meter_own_numbers T) rfl) w_c (w_ixT (st_of h2) rfl)) w_nil))) hQ fun v S e hv => hv)

theorem v_start {p : Addr} {M : Mtr} (h : MtrAt K S p M) : SpW g (sp_Meter_start K) [.ref p] S (fun v S => ∃ q, v = .ref q ∧ S q = some (.tup [.int 0, .int M.first])) := w_pr (p, M) (fun _ e => h.mono e) fun _ _ _ _ _ h => h
def sp_Meter_price_at (K : PySem.W.Frag) : Sp := Pr (ι := Addr × Int × Mtr) (fun x => [.ref x.1, .int x.2.1]) (fun _ x S => MtrAt K S x.1 x.2.2 ∧ x.2.2.Ok ∧ 0 ≤ x.2.1) (fun x _ v _ => v = .int (x.2.2.priceAt x.2.1))
theorem m_Meter_price_at (T : Txt K mg) : C8.Met P w K mg base 3 (He.ga K "Meter") "price_at" (sp_Meter_price_at K) [] := mk_Meter_price_at T (pr_len (ps := ["self", "count"]) fun _ => rfl) (Bd.bs fun cdv A outer s H Q E hr => by
  have hu := hu_of hr
  have nd := sc_Meter_price_at.nd
  refine ⟨_, (pss_cons (ps_if (PW.pt (pw_or (pt_not (pt_val (C8.pe_c (c_is_whole (K := K) T) hr (by decide) rfl (pa_cons (pv 1) pa_nil)))) (pw_or1 (pt_cmpR op_lt (pv 1) pe_int (nomark _))))) (pss_one ps_never) pss_nil)
      (pss_one (ps_ret (pe_op op_add (pe_pr (p_Meter_flag (K := K) T) hr (by decide) (pv 0)) (pe_op op_mul (pe_pr (p_Meter_each (K := K) T) hr (by decide) (pv 0)) (C8.pe_mt (m_Meter_jumps_at (K := K) T) hr (by decide) (pv 0) (pa_cons (pv 1) pa_nil))))))), fun g S0 x hp hQ => ?_⟩
  obtain ⟨h, ok, hs⟩ := hp
  obtain ⟨dx, n, t, u, d, h1, _⟩ := id h
  refine gs_ifF (w_orU (w_not (w_tB (w_c0 (by walk_at "w") v_is_whole))) (by walk_at "w")) ?_ ?_
  · rw [Bool.not_true, Bool.false_or, decide_eq_false_iff_not]
    omega
  exact g_retI (v := .int (x.2.2.priceAt x.2.1)) (w_op (w_prop (w_var rfl) h1 (v_flag h)) (w_op (w_prop (w_var rfl) h1 (v_each h)) (w_m0 (w_var rfl) h1 rfl (by walk_at "w") (v_jumps_at h ok)) (w_rI (.inl ⟨by have := ok.e1; omega, by have := ok.e1; omega⟩))) w_rI0) hQ fun S e => rfl)

theorem v_price_at {p : Addr} {c : Int} {M : Mtr} (h : MtrAt K S p M) (ok : M.Ok) (hc : 0 ≤ c) : SpW g (sp_Meter_price_at K) [.ref p, .int c] S (Is (.int (M.priceAt c))) := w_pr (p, c, M) (fun _ e => ⟨h.mono e, ok, hc⟩) fun _ _ _ _ _ h => h
/-- the last turn, 0 where there is none -/
def Mtr.lastTurn (M : Mtr) : Int := M.turns.getLast?.getD 0
theorem Mtr.Ok.last {M : Mtr} (ok : M.Ok) : 0 ≤ M.lastTurn ∧ M.lastTurn ≤ 9 := by
  unfold Mtr.lastTurn
  cases e : M.turns.getLast? with
  | none => exact ⟨Int.le_refl _, by decide⟩
  | some y =>
    have := ok.us y (List.mem_of_getLast? e)
    show 0 ≤ y ∧ y ≤ 9
    omega
def sp_Meter_last_turn (K : PySem.W.Frag) : Sp := Pr (ι := Addr × Mtr) (fun x => [.ref x.1]) (fun _ x S => MtrAt K S x.1 x.2) (fun x _ v _ => v = .int x.2.lastTurn)
theorem m_Meter_last_turn (T : Txt K mg) : C8.Met P w K mg base 1 (He.ga K "Meter") "last_turn" (sp_Meter_last_turn K) [] := mk_Meter_last_turn T (pr_len (ps := ["self"]) fun _ => rfl) (Bd.bs fun cdv A outer s H Q E hr => by
  have hu := hu_of hr
  have nd := sc_Meter_last_turn.nd
  refine ⟨_, (pss_one (ps_ret (pe_ifExp (pt_cmpR (opEqD (K := K) rfl hr.units) (peFld (K := K) rfl (pv 0) rfl) (pe_tup pa_nil) (nomark _)) pe_int (pe_ix (ixT (K := K) rfl) (peFld (K := K) rfl (pv 0) rfl) (pe_un un_neg pe_int) (fun _ _ => rfl))))), fun g S0 x hp hQ => ?_⟩
  obtain ⟨dx, n, t, u, d, h1, _, _, h5⟩ := hp
  refine g_retI (v := .int x.2.lastTurn) (w_if (a := decide (x.2.turns = [])) (w_test (w_opN2 (o := .tup ([].map V.int)) (w_fld (w_var rfl) h1 (cl_Meter T) (na_Meter_own_turns T) rfl) (w_tupO w_nil) fun p S e hs => w_eqTI (e _ _ h5) hs)) (fun h => w_c.is ?_) fun h => w_op (w_fld (w_var rfl) h1 (cl_Meter T) (na_Meter_own_turns T) rfl) (w_un w_c w_rU) (w_ixT (st_of h5) ?_)) hQ fun S e => rfl
  · have e := of_decide_eq_true h
    unfold Mtr.lastTurn
    rw [e] <;> rfl
  · have e := of_decide_eq_false h
    obtain ⟨us, y, hu⟩ : ∃ us y, x.2.turns = us ++ [y] := ⟨_, _, (List.dropLast_concat_getLast e).symm⟩
    unfold Mtr.lastTurn
    rw [hu, List.map_append, List.getLast?_append, List.map_cons, List.map_nil]
    have := atI_last (us.map V.int) (V.int y)
    exact this)

theorem v_last_turn {p : Addr} {M : Mtr} (h : MtrAt K S p M) : SpW g (sp_Meter_last_turn K) [.ref p] S (Is (.int M.lastTurn)) := w_pr (p, M) (fun _ e => h.mono e) fun _ _ _ _ _ h => h
theorem v_table_ix {q : Addr} {M : Mtr} {j : Int} {s : Nat} {σ : L2.St} {ta tb : TE} (ok : M.Ok) (hs : s ≤ 9) (h : W g (ta σ) S (fun v S => ∃ q, v = .ref q ∧ TableAt K S q (M.tabAt j))) (hb : ∀ S', Ex S S' → W g (tb σ) S' (Is (.int s))) : W g (tOwnIx (CT K) (sp_Table_getitem K) ta tb σ) S (Is (.int ((M.tabAt j).getD s 0))) :=
  w_ownIxR h hb fun v S e ⟨q, ev, hq⟩ => by
    obtain ⟨dx, r, k1, k2⟩ := id hq
    exact ⟨q, dx, _, ev, k1, v_worth hq (tabAt_len ok) hs⟩
theorem worth_in {M : Mtr} (ok : M.Ok) {j : Int} {s : Nat} (hs : s ≤ 9) : 0 ≤ (M.tabAt j).getD s 0 ∧ (M.tabAt j).getD s 0 ≤ 60 := by
  have hl := tabAt_len (j := j) ok
  have h := List.length_filter_le (fun y => decide (y ≤ j)) M.turns
  have h2 := ok.ul
  have hl2 : (M.turns.filter fun y => decide (y ≤ j)).length < M.tables.length := by omega
  have hm : M.tabAt j ∈ M.tables := by
    unfold Mtr.tabAt
    rw [List.getD_eq_getElem?_getD, List.getElem?_eq_getElem hl2]
    exact List.getElem_mem hl2
  rw [List.getD_eq_getElem?_getD, List.getElem?_eq_getElem (by omega)]
  exact (ok.ts _ hm).2 _ (List.getElem_mem (by omega))
theorem fdm {b d : Int} (hd : 0 < d) : 0 ≤ b.fmod d ∧ b.fmod d < d := by
  rw [Int.fmod_eq_emod_of_nonneg _ (by omega)]
  exact ⟨Int.emod_nonneg _ (by omega), Int.emod_lt_of_pos _ hd⟩
def sp_Meter_step_from (K : PySem.W.Frag) : Sp := Pr (ι := Addr × Addr × Int × Int × Nat × Mtr) (fun x => [.ref x.1, .ref x.2.1, .int x.2.2.2.2.1]) (fun _ x S => MtrAt K S x.1 x.2.2.2.2.2 ∧ x.2.2.2.2.2.Ok ∧ S x.2.1 = some (.tup [.int x.2.2.1, .int x.2.2.2.1]) ∧ (0 ≤ x.2.2.1 ∧ x.2.2.1 ≤ 9) ∧ (1 ≤ x.2.2.2.1 ∧ x.2.2.2.1 ≤ 60) ∧ x.2.2.2.2.1 ≤ 9) (fun x _ v S => ∃ r r1 a b n, v = .ref r ∧ S r = some (.tup [.ref r1, .int n]) ∧ S r1 = some (.tup [.int a, .int b]) ∧ (0 ≤ a ∧ a ≤ 9) ∧ (1 ≤ b ∧ b ≤ 60))
theorem m_Meter_step_from (T : Txt K mg) : C8.Met P w K mg base 6 (He.ga K "Meter") "step_from" (sp_Meter_step_from K) [] := mk_Meter_step_from T (pr_len (ps := ["self", "stand", "speed"]) fun _ => rfl) (Bd.bs fun cdv A outer s H Q E hr => by
  have hu := hu_of hr
  have nd := sc_Meter_step_from.nd
  refine ⟨_, (pss_cons (ps_asg (pv 1) (pgTup (K := K) rfl rfl (pgs_cons (pg_name (i := 3) nd rfl (by first | exact .inl rfl | exact .inr rfl)) (pgs_cons (pg_name (i := 4) nd rfl (by first | exact .inl rfl | exact .inr rfl)) pgs_nil))))
      (pss_cons (ps_set (i := 5) nd rfl (by first | exact .inl rfl | exact .inr rfl) (pe_ownIx (m_Table_getitem (K := K) T) (ix_Table (K := K) T) hr (by decide) (C8.pe_mt (m_Meter_table_at (K := K) T) hr (by decide) (pv 0) (pa_cons (pv 3) pa_nil)) (pv 2)))
      (pss_cons (ps_if (pt_cmpR op_lt (pv 5) (pv 4) (nomark _)) (pss_one (ps_ret (pe_tup (pa_cons (pe_tup (pa_cons (pv 3) (pa_cons (pe_op op_sub (pv 4) (pv 5)) pa_nil))) (pa_cons pe_int pa_nil))))) pss_nil)
      (pss_cons (ps_set (i := 6) nd rfl (by first | exact .inl rfl | exact .inr rfl) (pe_op op_sub (pv 5) (pv 4)))
      (pss_cons (ps_set (i := 7) nd rfl (by first | exact .inl rfl | exact .inr rfl) (pe_op op_add pe_int (pe_op op_fdivN (pv 6) (pe_pr (p_Meter_drop (K := K) T) hr (by decide) (pv 0)))))
      (pss_one (ps_ret (pe_tup (pa_cons (pe_tup (pa_cons (pe_callB (call_min2 rfl) rfl (T.free 56 rfl) bt_min (pa_cons (pe_op op_add (pv 3) (pv 7)) (pa_cons (C8.pe_mt0 (m_Meter_last_turn (K := K) T) hr (by decide) (pv 0)) pa_nil))) (pa_cons (pe_op op_sub (pe_pr (p_Meter_drop (K := K) T) hr (by decide) (pv 0)) (pe_op op_modN (pv 6) (pe_pr (p_Meter_drop (K := K) T) hr (by decide) (pv 0)))) pa_nil))) (pa_cons (pv 7) pa_nil)))))))))), fun g S0 x hp hQ => ?_⟩
  obtain ⟨p, q, stage, left, s, M⟩ := x
  obtain ⟨h, ok, hq, h1, h2, hs⟩ := hp
  dsimp only at h ok hq h1 h2 hs
  obtain ⟨dx, n, t, u, d, hk, _⟩ := id h
  have hw := worth_in (j := stage) ok hs
  have hd := ok.d1
  have hL := ok.last
  refine gs_un2 (w_var rfl) (st_of hq) ?_
  refine gs_asgI (v_table_ix (q := p) (j := stage) ok hs (w_m0 (w_var rfl) hk rfl (by walk_at "w") (v_table_at h ok)) fun S e => w_var rfl) ?_
  refine gs_ifN (b := decide ((M.tabAt stage).getD s 0 < left)) (by walk_at "w") (fun hlt => ?_) fun hlt => ?_
  · refine g_retP (w_tupIn (xs := [.int stage, .int (left - (M.tabAt stage).getD s 0)]) (y := .int 0) (by walk_at "w") w_c) hQ fun v S e ⟨r, r1, ev, hr, hr1⟩ => ⟨r, r1, _, _, _, ev, hr, hr1, h1, ?_⟩
    have := of_decide_eq_true hlt
    omega
  have hge := of_decide_eq_false hlt
  have hm := fdm (b := (M.tabAt stage).getD s 0 - left) (d := M.drop) (by omega)
  refine gs_asgI (v := .int ((M.tabAt stage).getD s 0 - left)) (by walk_at "w") ?_
  refine gs_asgI (v := .int (1 + ((M.tabAt stage).getD s 0 - left).fdiv M.drop)) (w_op w_c (w_op (w_var rfl) (w_prop (w_var rfl) hk (v_drop h)) (w_rI ⟨by omega, by omega⟩)) w_rI0) ?_
  have hdiv : 0 ≤ ((M.tabAt stage).getD s 0 - left).fdiv M.drop := Int.fdiv_nonneg (by omega) (by omega)
  refine g_retP (w_tupIn (xs := [.int (min (stage + (1 + ((M.tabAt stage).getD s 0 - left).fdiv M.drop)) M.lastTurn), .int (M.drop - ((M.tabAt stage).getD s 0 - left).fmod M.drop)]) (y := .int (1 + ((M.tabAt stage).getD s 0 - left).fdiv M.drop))
    (w_cons (w_cb (w_cons (w_op (w_var rfl) (w_var rfl) w_rI0) (w_cons (w_m0 (w_var rfl) hk rfl w_nil (v_last_turn h)) w_nil)) w_min2) (w_cons (w_op (w_prop (w_var rfl) hk (v_drop h)) (w_op (w_var rfl) (w_prop (w_var rfl) hk (v_drop h)) (w_rI (by omega))) w_rI0) w_nil)) (w_var rfl)) hQ fun v S e ⟨r, r1, ev, hr, hr1⟩ => ⟨r, r1, _, _, _, ev, hr, hr1, ?_, ?_⟩
  · omega
  · omega)

end
end Cm

/-! ## E3 -/
set_option maxHeartbeats 4000000
/-! A meter is made. -/
namespace Cm
open PySem PySem.Spec PyProof.Rows L2 Evl
local macro_rules | `(tactic| walk_at "w") => `(tactic| first
  | exact w_c
  | ((refine w_var ?_); rfl)
  | exact w_nil
  | ((refine w_cons (x := ?x) (xs := ?xs) ?h1 ?h2); (case h1 => walk_at "w"); (case h2 => walk_at "w"))
  | ((refine w_op (x := ?x) (y := ?y) ?h1 ?h2 ?h3); (case h1 => walk_at "w"); (case h2 => walk_at "w"); (case h3 => walk_at "w"))
  | exact w_rI0
  | exact w_rU
  | ((refine w_un (x := ?x) ?h1 ?h2); (case h1 => walk_at "w"); (case h2 => walk_at "w"))
  | ((refine w_rEq ?_); rfl)
  | ((refine w_rNe ?_); rfl)
  | ((refine w_test (b := ?b) ?h1); (case h1 => walk_at "w"))
  | ((refine w_tB (b := ?b) ?h1); (case h1 => walk_at "w"))
  | ((refine w_not (a := ?a) ?h1); (case h1 => walk_at "w"))
  | ((refine w_orU (a := ?a) (b := ?b) ?h1 ?h2); (case h1 => walk_at "w"); (case h2 => walk_at "w"))
  | ((refine w_andU (a := ?a) (b := ?b) ?h1 ?h2); (case h1 => walk_at "w"); (case h2 => walk_at "w"))
  | ((refine w_notV (a := ?a) ?h1); (case h1 => walk_at "w"))
  | ((refine w_orVU (a := ?a) (b := ?b) ?h1 ?h2); (case h1 => walk_at "w"); (case h2 => walk_at "w"))
  | ((refine w_andVU (a := ?a) (b := ?b) ?h1 ?h2); (case h1 => walk_at "w"); (case h2 => walk_at "w"))
  | ((refine w_chain1 (x := ?x) (y := ?y) (z := ?z) (p := ?p) (q := ?q) ?h1 ?h2 ?h3 ?h4 ?h5); (case h1 => walk_at "w"); (case h2 => walk_at "w"); (case h3 => walk_at "w"); (case h4 => walk_at "w"); (case h5 => walk_at "w"))
  | exact w_isN
  | exact w_max2
  | exact w_min2
  | exact w_int1
  | exact w_abs
  | (refine w_rI ?_; decide)
  | assumption)

section
variable {P : Program} {w : World} {K : PySem.W.Frag} {mg : Str → Option Value} {base : Heap} {g : Bg} {S : Hp}
/-- a stand's tuple -/
def StandAt (S : Hp) (v : V) (ky : List Key) : Prop := ∃ q a b, v = .ref q ∧ S q = some (.tup [.int a, .int b]) ∧ ky = [.inl a, .inl b] ∧ (0 ≤ a ∧ a ≤ 9) ∧ (1 ≤ b ∧ b ≤ 60)
def KeyOk (ky : List Key) : Prop := ∃ a b : Int, ky = [.inl a, .inl b] ∧ (0 ≤ a ∧ a ≤ 9) ∧ (1 ≤ b ∧ b ≤ 60)
theorem StandAt.mono {S S' : Hp} {v : V} {ky : List Key} (e : Ex S S') (h : StandAt S v ky) : StandAt S' v ky := by
  obtain ⟨q, a, b, h1, h2, h3⟩ := h
  exact ⟨q, a, b, h1, e _ _ h2, h3⟩
def keyN : List Key → Nat
  | [.inl a, .inl b] => a.toNat * 60 + (b - 1).toNat
  | _ => 0
theorem keys_few {kvs : List (List Key × V)} (nd : (kvs.map (·.1)).Nodup) (h : ∀ p ∈ kvs, KeyOk p.1) : kvs.length ≤ 600 := by
  have h1 := nodup_lt 600 ((kvs.map (·.1)).map keyN) ?_ ?_
  · rw [List.length_map, List.length_map] at h1
    exact h1
  · refine List.pairwise_map.mpr (List.Pairwise.imp_of_mem ?_ nd)
    intro x y hx hy ne e
    refine ne ?_
    obtain ⟨p, hp, ep⟩ := List.mem_map.mp hx
    obtain ⟨q, hq, eq⟩ := List.mem_map.mp hy
    obtain ⟨a, b, e1, ha, hb⟩ := h p hp
    obtain ⟨a2, b2, e2, ha2, hb2⟩ := h q hq
    rw [← ep, ← eq, e1, e2] at e ⊢
    have e : a.toNat * 60 + (b - 1).toNat = a2.toNat * 60 + (b2 - 1).toNat := e
    have : a = a2 ∧ b = b2 := by omega
    rw [this.1, this.2]
  · intro x hx
    obtain ⟨y, hy, ey⟩ := List.mem_map.mp hx
    obtain ⟨p, hp, ep⟩ := List.mem_map.mp hy
    obtain ⟨a, b, e1, ha, hb⟩ := h p hp
    rw [← ey, ← ep, e1]
    show a.toNat * 60 + (b - 1).toNat < 600
    omega
structure MArg where
  self : Addr
  dx : Addr
  M : Mtr
  tp : Addr
  ts : List Addr
  up : Addr
theorem putF_ne {f h : Str} {v x : V} {fs : List (Str × V)} (n : ¬ h = f) : putF f v ((h, x) :: fs) = (h, x) :: putF f v fs := by
  show (if h = f then _ else _) = _
  rw [if_neg n]
theorem putF_eq {f : Str} {v x : V} {fs : List (Str × V)} : putF f v ((f, x) :: fs) = (f, v) :: fs := by
  show (if f = f then _ else _) = _
  rw [if_pos rfl]
def mF1 (n : Addr) : List (Str × V) := [("own_numbers", .ref n)]
def mF2 (n t : Addr) : List (Str × V) := [("own_numbers", .ref n), ("own_tables", .ref t)]
def mF3 (n t u : Addr) : List (Str × V) := [("own_numbers", .ref n), ("own_tables", .ref t), ("own_turns", .ref u)]
theorem mtr_2 {n t : Addr} : putF "own_tables" (.ref t) (putF "own_numbers" (.ref n) []) = mF2 n t := putF_ne (by decide +kernel)
theorem mtr_3 {n t u : Addr} : putF "own_turns" (.ref u) (mF2 n t) = mF3 n t u := by
  unfold mF2 mF3
  rw [putF_ne (by decide +kernel), putF_ne (by decide +kernel)] <;> rfl
theorem mtr_4 {n t u d : Addr} : putF "own_steps" (.ref d) (mF3 n t u) = mtrF n t u d := by
  unfold mF3 mtrF
  rw [putF_ne (by decide +kernel), putF_ne (by decide +kernel), putF_ne (by decide +kernel)] <;> rfl
theorem gs_dputT {c : Ct} {m : List (Addr × HO)} {K : Hp} {σ : L2.St} {D : Ends} {z : TS} {ta tb tv : TE} {R : V → Hp → Prop} {d q : Addr} {ky : List Key} {kvs : List (List Key × V)} (hv : Ex K (ov ((d, .dT kvs) :: m) K) → W c.g (tv σ) (ov ((d, .dT kvs) :: m) K) R) (ho : ∀ S, Ex K S → W c.g (ta σ) S (Is (.ref d))) (hi : ∀ S, Ex K S → W c.g (tb σ) S (Is (.ref q))) (hq : K q = some (.tup (ky.map kV))) (hl : kvs.length < 100000)
    (k : ∀ y S, Ex (ov ((d, .dT kvs) :: m) K) S → Ex K (drm ((d, .dT kvs) :: m) S) → R y S → G c (z D) σ ((d, .dT (putK kvs ky y)) :: m) (drm ((d, .dT kvs) :: m) S)) : G c (tSeq (sDPut ta tb tv) z D) σ ((d, .dT kvs) :: m) K :=
  fun H s => hv s.ovK _ H (.refl _) s.hereM _ fun y S H1 d1 hy => by
    have s1 := s.toMV d1
    have eK := drm_ex s d1.kk
    refine ho _ eK _ H1 (.refl _) s1.a.here _ fun x S2 H2 d2 hx => ?_
    cases hx
    have s2 := (s1.to d2).weak s1.a.kk d2.kk
    refine hi _ eK _ H2 (.refl _) s2.a.here _ fun x S3 H3 d3 hx => ?_
    cases hx
    have s3 := (s2.to d3).weak s1.a.kk d3.kk
    exact ⟨d, _, rfl, DPut.t (s3.mu _ List.mem_cons_self).1 (s3.a.kh _ _ (eK _ _ hq)) (Nat.lt_of_lt_of_le hl (by decide)), k y S d1.kk eK hy _ s3.wrote⟩
theorem g_nd {c : Ct} {m : List (Addr × HO)} {K : Hp} {σ : L2.St} {P : L2.St → Hp → Prop} (k : (m.map (·.1)).Nodup → G c P σ m K) : G c P σ m K := fun H s => k s.nd H s
theorem lt10 {i s : Nat} (h : (List.range 10)[i]? = some s) : s ≤ 9 := by
  have := List.mem_range.mp (List.mem_of_getElem? h)
  omega
theorem StandAt.drm {m : List (Addr × HO)} {K0 S0 : Hp} {v : V} {ky : List Key} (e : Ex (ov m K0) S0) (nt : ∀ q ∈ m, NotT q.2) (h : StandAt S0 v ky) : StandAt (drm m S0) v ky := by
  obtain ⟨q, a, b, h1, h2, h3⟩ := h
  exact ⟨q, a, b, h1, drm_tup e nt h2, h3⟩
def sp_Meter_init (K : PySem.W.Frag) : Sp := PrO (ι := MArg) (fun x => [.ref x.self, .int x.M.first, .int x.M.drop, .ref x.tp, .ref x.up, .int x.M.flag, .int x.M.each]) (fun x => x.self) (fun x => .ins (CM K) x.dx []) (fun _ x S => x.M.Ok ∧ S x.tp = some (.lst (x.ts.map V.ref)) ∧ TabsAt K S x.ts x.M.tables ∧ SeqO S x.up (x.M.turns.map V.int)) (fun x _ v o S => v = .non ∧ ∃ n t u d, o = .ins (CM K) x.dx (mtrF n t u d) ∧ MtrP K S n t u x.M)
theorem k_Meter (T : Txt K mg) : MakM P w K mg base 7 "Meter" (He.ga K "Meter") (sp_Meter_init K) := mk_Meter_init T (prO_len fun _ => rfl) (BdO.bs fun cdv A outer s H Q E hr => by
  have hu := hu_of hr
  have nd := sc_Meter_init.nd
  refine ⟨_, (pss_cons (ps_expr (C8.pe_c (c_check_number (K := K) T) hr (by decide) rfl (pa_cons (pv 1) (pa_cons pe_int (pa_cons (C8.pe_gc rfl (T.gint 66 rfl)) pa_nil)))))
      (pss_cons (ps_expr (C8.pe_c (c_check_number (K := K) T) hr (by decide) rfl (pa_cons (pv 2) (pa_cons pe_int (pa_cons (C8.pe_gc rfl (T.gint 66 rfl)) pa_nil)))))
      (pss_cons (ps_if (PW.pt (pw_or (pt_not (pt_val (pe_callB (cbIsi (K := K) rfl) rfl (T.free 49 rfl) bt_isinstance (pa_cons (pv 3) (pa_cons (pe_bltn (v := .ty "list") rfl (T.free 53 rfl) bt_list rfl) pa_nil))))) (pw_or1 (pt_not (pt_chain op_le op_le pe_int (pe_callB (cbLen (K := K) rfl) rfl (T.free 51 rfl) bt_len (pa_cons (pv 3) pa_nil)) (C8.pe_gc rfl (T.gint 70 rfl))))))) (pss_one ps_never) pss_nil)
      (pss_cons (ps_if (pt_not (pt_val (pe_callB (cbAll (K := K) rfl rfl) rfl (T.free 50 rfl) bt_all (pa_cons (pe_lc (own := [("table", 9)]) (g := gName 9) (tt := tYes) rfl nd (piL (K := K) rfl (pv 3)) (blkOk_by (own := [("table", 9)]) (N := N_Meter_init) (sc := d_Meter_init.scope) (by decide +kernel)) (fun _ _ _ _ _ => (pg_name (i := 9) nd rfl (by first | exact .inl rfl | exact .inr rfl))) (fun _ _ _ _ _ => pts_nil) (fun _ _ _ _ _ => (pe_callB (C8.call_isC (insC_Table (K := K) T)) rfl (T.free 49 rfl) bt_isinstance (pa_cons (pv 9) (pa_cons (C8.pe_gc (v := .ref (He.ga K "Table")) rfl ⟨_, T.glo 45 rfl, rfl⟩) pa_nil))))) pa_nil)))) (pss_one ps_never) pss_nil)
      (pss_cons (ps_if (pt_not (pt_val (C8.pe_c (c_are_turns (K := K) T) hr (by decide) rfl (pa_cons (pv 4) (pa_cons (pe_op op_sub (pe_callB (cbLen (K := K) rfl) rfl (T.free 51 rfl) bt_len (pa_cons (pv 3) pa_nil)) pe_int) pa_nil))))) (pss_one ps_never) pss_nil)
      (pss_cons (ps_expr (C8.pe_c (c_check_number (K := K) T) hr (by decide) rfl (pa_cons (pv 5) (pa_cons pe_int (pa_cons (C8.pe_gc rfl (T.gint 67 rfl)) pa_nil)))))
      (pss_cons (ps_expr (C8.pe_c (c_check_number (K := K) T) hr (by decide) rfl (pa_cons (pv 6) (pa_cons pe_int (pa_cons (C8.pe_gc rfl (T.gint 68 rfl)) pa_nil)))))
      (pss_cons (ps_fld (pv 0) (pe_tup (pa_cons (pv 1) (pa_cons (pv 2) (pa_cons (pv 5) (pa_cons (pv 6) pa_nil))))) rfl)
      (pss_cons (ps_fld (pv 0) (pe_callTy (cbTuple (K := K) rfl) rfl (T.free 52 rfl) bt_tuple (pa_cons (pv 3) pa_nil)) rfl)
      (pss_cons (ps_fld (pv 0) (pe_callTy (cbTuple (K := K) rfl) rfl (T.free 52 rfl) bt_tuple (pa_cons (pv 4) pa_nil)) rfl)
      (pss_cons (ps_fld (pv 0) pe_dnewT rfl)
      (pss_cons (ps_set (i := 7) nd rfl (by first | exact .inl rfl | exact .inr rfl) (pe_lst (pa_cons (pe_pr (p_Meter_start (K := K) T) hr (by decide) (pv 0)) pa_nil)))
      (pss_one (ps_while PassesOwn.never (ptTruth (K := K) rfl (pv 7) (by intro _; rfl)) (pss_cons (ps_set (i := 8) nd rfl (by first | exact .inl rfl | exact .inr rfl) (peBm0 (K := K) rfl PySem.F.plainAttrs_list PySem.F.slot_list_pop PySem.F.type_list_pop mt_pop (pv 7)))
      (pss_one (ps_if (pt_cmp (pc_dnotin hu (pv 8) (peFld (K := K) rfl (pv 0) rfl))) (pss_cons (ps_dput hu (peFld (K := K) rfl (pv 0) rfl) (pv 8) (pe_lc (own := [("speed", 10)]) (g := gName 10) (tt := tYes) rfl nd (pi_range1 rfl (T.free 54 rfl) (pa_cons (C8.pe_gc rfl (T.gint 71 rfl)) pa_nil)) (blkOk_by (own := [("speed", 10)]) (N := N_Meter_init) (sc := d_Meter_init.scope) (by decide +kernel)) (fun _ _ _ _ _ => (pg_name (i := 10) nd rfl (by first | exact .inl rfl | exact .inr rfl))) (fun _ _ _ _ _ => pts_nil) (fun _ _ _ _ _ => (C8.pe_mt (m_Meter_step_from (K := K) T) hr (by decide) (pv 0) (pa_cons (pv 8) (pa_cons (pv 10) pa_nil))))) rfl)
      (pss_one (ps_expr (peBm (K := K) rfl PySem.F.plainAttrs_list PySem.F.slot_list_extend PySem.F.type_list_extend mt_extend (pv 7) (pa_cons (pe_lc (own := [("goal", 11), ("many", 12)]) (g := gTup K 2 (gCons (gName 11) (gCons (gName 12) gNil))) (tt := tYes) rfl nd (piL (K := K) rfl (pe_dget hu (peFld (K := K) rfl (pv 0) rfl) (pv 8) (fun _ _ => rfl))) (blkOk_by (own := [("goal", 11), ("many", 12)]) (N := N_Meter_init) (sc := d_Meter_init.scope) (by decide +kernel)) (fun _ _ _ _ _ => (pgTup (K := K) rfl rfl (pgs_cons (pg_name (i := 11) nd rfl (by first | exact .inl rfl | exact .inr rfl)) (pgs_cons (pg_name (i := 12) nd rfl (by first | exact .inl rfl | exact .inr rfl)) pgs_nil)))) (fun _ _ _ _ _ => pts_nil) (fun _ _ _ _ _ => (pv 11))) pa_nil))))) pss_nil))))))))))))))))), fun g S0 H0 x hp hQ => ?_⟩
  obtain ⟨self, dx, M, tp, ts, up⟩ := x
  obtain ⟨ok, h1, h2, h3⟩ := hp
  dsimp only at ok h1 h2 h3
  have hl : ts.length = M.tables.length := h2.1
  refine gs_dropI (w_c0 (by walk_at "w") (v_check_number ok.f1)) ?_
  refine gs_dropI (w_c0 (by walk_at "w") (v_check_number ok.d1)) ?_
  refine gs_ifF (w_orU (w_not (w_tB (w_cb (by walk_at "w") (w_isiL (b := true) h1 (by decide +kernel))))) (w_not (w_test (w_chain1 w_c (w_cb (by walk_at "w") (w_lenL (sq_of h1))) w_c w_rI0 w_rI0)))) ?_ ?_
  · rw [List.length_map, hl, decide_eq_true (by have := ok.tl; omega), decide_eq_true (by have := ok.tl; omega)] <;> rfl
  refine gs_ifF (w_not (w_tB (w_allLc (ys := ts) (h := V.ref) (p := fun _ => true) (w_iL (w_var rfl) (sq_of h1)) (by have := ok.tl; omega) fun i q S hq e => ⟨_, tg_name, rfl, w_cb (w_cons (w_var rfl) (w_cons w_c w_nil)) ?_⟩))) (by simp) ?_
  · refine w_val fun H e2 Q k => ?_
    have hi : i < M.tables.length := by rw [← hl]; exact (List.getElem?_eq_some_iff.mp hq).1
    obtain ⟨dx, r, k1, _⟩ := h2.2 i q _ hq (List.getElem?_eq_getElem hi)
    exact ⟨q, dx, _, rfl, e2 _ _ (e _ _ k1), k⟩
  refine gs_ifF (w_not (w_tB (w_c0 (w_cons (w_var rfl) (w_cons (w_op (w_cb (by walk_at "w") (w_lenL (sq_of h1))) w_c w_rI0) w_nil)) (v_turns h3 ok.us ok.ua ?_ ?_)))) rfl ?_
  · have := ok.ul
    have := ok.tl
    omega
  · rw [List.length_map, hl, ← ok.ul]
    omega
  refine gs_dropI (w_c0 (by walk_at "w") (v_check_number ok.g1)) ?_
  refine gs_dropI (w_c0 (by walk_at "w") (v_check_number ok.e1)) ?_
  refine gs_fld (fun e => w_tupO (xs := [.int M.first, .int M.drop, .int M.flag, .int M.each]) (by walk_at "w")) (fun S => w_var rfl) (cl_Meter T) (na_Meter_own_numbers T) (by decide) fun y S1 i1 e1 ⟨n, ey, hn, hs⟩ => ?_
  subst ey
  have n1 := drm_new hn hs
  refine gs_fld (fun e => w_cb (by walk_at "w") (w_tupL (sq_of (e _ _ (e1 _ _ h1))))) (fun S => w_var rfl) (cl_Meter T) (na_Meter_own_tables T) (show 1 < 1000 by decide) fun y S2 i2 e2 ⟨t, ey, ht, hs⟩ => ?_
  subst ey
  have t2 := drm_new ht hs
  rw [mtr_2]
  have h3' := h3.mono (e1.trans e2)
  refine gs_fld (R := fun v S => ∃ u, v = .ref u ∧ drm [(self, .ins (CM K) dx (mF2 n t))] S u = some (.tup (M.turns.map V.int))) (fun e => ?_) (fun S => w_var rfl) (cl_Meter T) (na_Meter_own_turns T) (show 2 < 1000 by decide) fun y S3 i3 e3 ⟨u, ey, u3⟩ => ?_
  · rcases h3' with hu | hu
    · exact (w_cb (by walk_at "w") (w_tupL (sq_of (e _ _ hu)))).imp fun v S e9 ⟨u, ev, hn, hs⟩ => ⟨u, ev, drm_new hn hs⟩
    · exact (w_cb (by walk_at "w") (w_tupT (st_of (e _ _ hu)))).imp fun v S e9 hv => by
        cases hv
        exact ⟨_, rfl, drm_tup e9 (fun q hq ys => by rw [List.mem_singleton.mp hq]; intro z; cases z) (e9 _ _ (e _ _ hu))⟩
  subst ey
  rw [mtr_3]
  refine gs_fld (fun e => w_dnewT) (fun S => w_var rfl) (cl_Meter T) (na_Meter_own_steps T) (show 3 < 1000 by decide) fun y S4 i4 e4 ⟨d, ey, hd, hs⟩ => ?_
  subst ey
  have d4 := drm_new hd hs
  rw [mtr_4]
  have P4 : MtrP K (drm _ S4) n t u M := ⟨e4 _ _ (e3 _ _ (e2 _ _ n1)), ⟨ts, e4 _ _ (e3 _ _ t2), h2.mono (((e1.trans e2).trans e3).trans e4)⟩, e4 _ _ u3⟩
  have E4 := ((e1.trans e2).trans e3).trans e4
  have t4 := e4 _ _ (e3 _ _ t2)
  have hd3 := hd
  generalize hK4 : drm _ S4 = K4 at P4 d4 E4 t4 ⊢
  generalize drm _ S3 = K3 at hd3 e4
  clear hK4
  refine g_keepH fun k4 h0 => ?_
  have nsd : d ≠ self := fun z => by rw [z, k4] at d4; cases d4
  have k0s : S0 self = none := E4.free k4
  have d5 : upd K4 self (.ins (CM K) dx (mtrF n t u d)) d = some (.dT []) := by rw [upd_ne nsd]; exact d4
  have k0d : S0 d = none := by
    refine Ex.free ((e1.trans e2).trans e3) ?_
    exact (upd_ne nsd).symm.trans hd
  have ntd : NotT (.dT []) := fun ys h => by cases h
  refine g_take d5 k0d ntd ?_
  have tupK : ∀ a ys, K4 a = some (.tup ys) → cut1 (upd K4 self (.ins (CM K) dx (mtrF n t u d))) d a = some (.tup ys) := fun a ys h => cut_tup d5 ntd (by rw [upd_ne (fun z => by rw [z, k4] at h; cases h)]; exact h)
  have E6 : Ex S0 (cut1 (upd K4 self (.ins (CM K) dx (mtrF n t u d))) d) := fun a o h => by
    rw [cut_ne (fun z => by rw [z, k0d] at h; cases h), upd_ne (fun z => by rw [z, k0s] at h; cases h)]
    exact E4 _ _ h
  have self6 : cut1 (upd K4 self (.ins (CM K) dx (mtrF n t u d))) d self = some (.ins (CM K) dx (mtrF n t u d)) := by rw [cut_ne (fun z => nsd z.symm)]; exact upd_same
  have P6 : MtrP K (cut1 (upd K4 self (.ins (CM K) dx (mtrF n t u d))) d) n t u M := ⟨tupK _ _ P4.num, ⟨ts, tupK _ _ t4, h2.mono E6⟩, tupK _ _ P4.tur⟩
  have t6 := tupK _ _ t4
  generalize cut1 (upd K4 self (.ins (CM K) dx (mtrF n t u d))) d = K6 at E6 self6 P6 t6 ⊢
  have MA : MtrAt K K6 self M := ⟨dx, n, t, u, d, self6, P6⟩
  refine gs_newLR (Ra := fun xs S => ∃ v, xs = [v] ∧ StandAt S v [.inl 0, .inl M.first]) (w_consR (R := fun xs S => ∃ v, xs = [v] ∧ StandAt S v [.inl 0, .inl M.first]) (w_prop (w_var rfl) self6 (v_start MA)) fun v S e ⟨q, ev, hv⟩ => w_nilR fun S2 e2 => ⟨v, rfl, q, 0, M.first, ev, e2 _ _ hv, rfl, by omega, ok.f1⟩) fun xs S7 e7 ⟨v, ex, hv⟩ => ⟨by rw [ex]; exact (by decide : 1 ≤ 1000), fun p k7 hp0 => ?_⟩
  subst ex
  refine g_nd fun ne => ?_
  have ne : p ≠ d := by simpa using ne
  refine g_while (fun N σ' m' K' => ∃ kvs xs v8, σ' = [some (.ref self), some (.int M.first), some (.int M.drop), some (.ref tp), some (.ref up), some (.int M.flag), some (.int M.each), some (.ref p), v8, none, none, none, none] ∧
    m' = [(p, .lst xs), (d, .dT kvs)] ∧ Ex S7 K' ∧ (kvs.map (·.1)).Nodup ∧ (∀ q ∈ kvs, KeyOk q.1) ∧ (∀ x ∈ xs, ∃ ky, StandAt K' x ky) ∧ xs.length ≤ 10 * kvs.length + 1 ∧ N = 11 * (600 - kvs.length) + xs.length) (n0 := 6601)
    ⟨[], [v], none, rfl, rfl, .refl _, List.nodup_nil, fun q h => absurd h List.not_mem_nil, fun x h => by rw [List.mem_singleton.mp h]; exact ⟨_, hv⟩, Nat.le_refl 1, rfl⟩ ?_
  rintro N σ' m' K' ⟨kvs, xs, v8, es, em, e8, ndk, hk, hx, hlen, hN⟩
  subst es em
  have self8 : K' self = some (.ins (CM K) dx (mtrF n t u d)) := e8 _ _ (e7 _ _ self6)
  have MA8 := (MA.mono e7).mono e8
  have few := keys_few ndk hk
  refine ⟨!xs.isEmpty, w_tru (w_var rfl) fun H e => .inl ⟨xs, sq_of (e _ _ ov_cons), rfl⟩, fun hb => ⟨_, fun _ _ => Iff.rfl, ?_⟩, fun hb => fun H s => ?_⟩
  rotate_left
  · have s9 := (s.drop.drop).again self8 (fun ys h => by cases h) h0 k0s
    refine hQ _ _ _ _ s9 ⟨rfl, n, t, u, d, rfl, ?_⟩
    have nti : NotT (.ins (CM K) dx (mtrF n t u d)) := fun ys h => by cases h
    have P8 := (P6.mono e7).mono e8
    refine ⟨cut_tup self8 nti P8.num, ⟨ts, cut_tup self8 nti ?_, h2.mono ?_⟩, cut_tup self8 nti P8.tur⟩
    · exact e8 _ _ (e7 _ _ t6)
    · intro a o h
      rw [cut_ne (fun z => by rw [z, k0s] at h; cases h)]
      exact e8 _ _ (e7 _ _ (E6 _ _ h))
  have hne : xs ≠ [] := fun z => by rw [z] at hb; cases hb
  obtain ⟨xs', y, exs⟩ : ∃ xs' y, xs = xs' ++ [y] := ⟨_, _, (List.dropLast_concat_getLast hne).symm⟩
  subst exs
  rw [List.length_append, List.length_singleton] at hlen hN
  refine gs_pop (y := y) (w_var rfl) (by simp) ?_
  rw [List.dropLast_concat]
  obtain ⟨ky, q, a, b, ey, hq, eky, ha, hbb⟩ := hx y (by simp)
  subst ey eky
  have hx' : ∀ x ∈ xs', ∃ ky, StandAt K' x ky := fun x h => hx x (List.mem_append_left _ h)
  refine g_ifM (b := !(valV kvs [.inl a, .inl b]).isSome) (fun e => w_test (w_dnotin (w_var rfl) (w_fld (w_var rfl) (e _ _ self8) (cl_Meter T) (na_Meter_own_steps T) rfl) fun H e9 => DGet.t (e9 _ _ ((upd_ne (Ne.symm ne)).trans upd_same)) (e9 _ _ (e _ _ hq)))) (fun hbt => ?_) fun hbf => ?_
  rotate_left
  · refine g_wturn (n2 := 11 * (600 - kvs.length) + xs'.length) ⟨kvs, xs', _, rfl, rfl, e8, ndk, hk, hx', by omega, rfl⟩ (by omega)
  have hnone : valV kvs [.inl a, .inl b] = none := by
    cases q : valV kvs [.inl a, .inl b] with
    | none => rfl
    | some _ => rw [q] at hbt; cases hbt
  have few2 := keys_few (kvs := kvs ++ [([.inl a, .inl b], V.non)]) (by
    rw [List.map_append, List.nodup_append]
    refine ⟨ndk, by simp, fun x hx y hy z => ?_⟩
    rw [List.mem_singleton.mp hy] at z
    exact valV_not hnone (by rw [z] at hx; exact hx)) (fun w hw => by
    rcases List.mem_append.mp hw with h | h
    · exact hk w h
    · rw [List.mem_singleton.mp h]; exact ⟨a, b, rfl, ha, hbb⟩)
  rw [List.length_append, List.length_singleton] at few2
  refine g_swap ?_
  refine gs_dputT (ky := [.inl a, .inl b]) (fun e => w_lcN (ys := List.range 10) (h := fun i : Nat => V.int i) (Pv := fun _ v S => ∃ r r1 n ky, v = .ref r ∧ S r = some (.tup [.ref r1, n]) ∧ StandAt S (.ref r1) ky) (w_iN (n := 10) (by walk_at "w") rfl (by decide)) (by decide) (fun y v S S' e ⟨r, r1, n, ky, h1, h2, h3⟩ => ⟨r, r1, n, ky, h1, e _ _ h2, h3.mono e⟩)
    fun i s S hs e9 => ⟨_, tg_name, rfl, (w_m0 (w_var rfl) (e9 _ _ (e _ _ self8)) rfl (by walk_at "w") (w_pr (self, q, a, b, s, M) (fun _ e10 => ⟨((MA8.mono e).mono e9).mono e10, ok, e10 _ _ (e9 _ _ (e _ _ hq)), ha, hbb, lt10 hs⟩) fun _ _ _ _ _ h => h)).imp ?_⟩) (fun S e => w_fld (w_var rfl) (e _ _ self8) (cl_Meter T) (na_Meter_own_steps T) rfl) (fun S e => w_var rfl) hq (by omega) ?_
  · rintro v S9 e9 ⟨r, r1, a2, b2, n2, ev, h1, h2, ha2, hb2⟩
    exact ⟨r, r1, _, _, ev, h1, r1, a2, b2, rfl, h2, rfl, ha2, hb2⟩
  rintro y S9 e9 e9' ⟨l, zs, ey, hl, hzs, hzl, hP⟩
  subst ey
  have ntm : ∀ w ∈ [(d, HO.dT kvs), (p, HO.lst xs')], NotT w.2 := fun w hw ys => by
    rcases List.mem_cons.mp hw with h | h
    · rw [h]; intro z; cases z
    · rw [List.mem_singleton.mp h]; intro z; cases z
  have hz9 := drm_new hl hzs
  have hel : ∀ z ∈ zs, ∃ r r1 n ky, z = .ref r ∧ drm [(d, HO.dT kvs), (p, HO.lst xs')] S9 r = some (.tup [.ref r1, n]) ∧ StandAt (drm [(d, HO.dT kvs), (p, HO.lst xs')] S9) (.ref r1) ky := fun z hz => by
    obtain ⟨i, hi, ez⟩ := List.mem_iff_getElem.mp hz
    obtain ⟨r, r1, n, ky, h1, h2, h3⟩ := hP i i z (List.getElem?_eq_some_iff.mpr ⟨by rw [List.length_range]; rw [hzl, List.length_range] at hi; exact hi, List.getElem_range _⟩) (List.getElem?_eq_some_iff.mpr ⟨hi, ez⟩)
    exact ⟨r, r1, n, ky, h1, drm_tup e9 ntm h2, h3.drm e9 ntm⟩
  rw [List.length_range] at hzl
  generalize drm [(d, HO.dT kvs), (p, HO.lst xs')] S9 = K9 at e9' hz9 hel ⊢
  refine g_swap ?_
  refine g_extV (R := fun zs' S => zs'.length = 10 ∧ ∀ x ∈ zs', ∃ ky, StandAt S x ky) (w_var rfl) (by omega) (fun e => (w_lcN (ys := zs) (h := fun x => x) (Pv := fun _ v S => ∃ ky, StandAt S v ky) ((w_iL (w_dget (w_fld (w_var rfl) (e _ _ (e9' _ _ self8)) (cl_Meter T) (na_Meter_own_steps T) rfl) (w_var rfl) fun H e10 => ?_) (sq_of (e _ _ hz9))).imp fun J S e ⟨ys, h1, h2⟩ => ⟨ys, h1, by rw [h2, List.map_id']⟩) (by rw [hzl]; decide) (fun _ _ _ _ e ⟨ky, h⟩ => ⟨ky, h.mono e⟩) fun i z S hz e10 => ?_).imp fun v S e10 hv => ?_) fun zs' S10 e10 e10' ⟨hzl', hzs'⟩ => ?_
  · have := DGet.t (k := [.inl a, .inl b]) (e10 _ _ ((upd_ne (Ne.symm ne)).trans upd_same)) (e10 _ _ (e _ _ (e9' _ _ hq)))
    rw [valV_put, if_pos rfl] at this
    exact this
  · obtain ⟨r, r1, n, ky, h1, h2, h3⟩ := hel z (List.mem_of_getElem? hz)
    subst h1
    exact ⟨_, tg_t2 (st_of (e10 _ _ (e _ _ h2))), rfl, (w_var rfl : W _ _ _ (Is (.ref r1))).imp fun v S11 e11 hv => by cases hv; exact ⟨ky, ((h3.mono e).mono e10).mono e11⟩⟩
  · obtain ⟨b', zs', ev, hb', hs', hl', hP'⟩ := hv
    refine ⟨b', zs', ev, hb', hs', by omega, by omega, fun x hx => ?_⟩
    obtain ⟨i, hi, ez⟩ := List.mem_iff_getElem.mp hx
    have hi2 : i < zs.length := by omega
    exact hP' i zs[i] x (List.getElem?_eq_getElem hi2) (List.getElem?_eq_some_iff.mpr ⟨hi, ez⟩)
  have ntm2 : ∀ w ∈ [(p, HO.lst xs'), (d, HO.dT (putK kvs [.inl a, .inl b] (V.ref l)))], NotT w.2 := fun w hw ys => by
    rcases List.mem_cons.mp hw with h | h
    · rw [h]; intro z; cases z
    · rw [List.mem_singleton.mp h]; intro z; cases z
  refine g_wturn (n2 := 11 * (600 - (kvs.length + 1)) + (xs'.length + 10)) ⟨putK kvs [.inl a, .inl b] (V.ref l), xs' ++ zs', _, rfl, rfl, (e8.trans e9').trans e10', ?_, ?_, ?_, ?_, ?_⟩ (by omega)
  · rw [putK_new _ hnone, List.map_append, List.nodup_append]
    refine ⟨ndk, by simp, fun x hx y hy z => ?_⟩
    rw [List.mem_singleton.mp hy] at z
    exact valV_not hnone (by rw [z] at hx; exact hx)
  · rw [putK_new _ hnone]
    intro w hw
    rcases List.mem_append.mp hw with h | h
    · exact hk w h
    · rw [List.mem_singleton.mp h]; exact ⟨a, b, rfl, ha, hbb⟩
  · intro x hx
    rcases List.mem_append.mp hx with h | h
    · obtain ⟨ky, h1⟩ := hx' x h
      exact ⟨ky, (h1.mono e9').mono e10'⟩
    · obtain ⟨ky, h1⟩ := hzs' x h
      exact ⟨ky, h1.drm e10 ntm2⟩
  · rw [putK_new _ hnone, List.length_append, List.length_append, List.length_singleton]
    omega
  · rw [putK_new _ hnone, List.length_append, List.length_append, List.length_singleton]
    omega)

end
end Cm

/-! ## P1 -/
set_option maxHeartbeats 4000000
/-! Figures as texts; small laws of lists; rules for compares. -/
namespace Cm
open PySem PySem.Spec PyProof.Rows L2 Evl
/-- one figure's text -/
def dg1 (d : Nat) : Str := ⟨#[48 + d]⟩
theorem dgS_cps (l : List Nat) : (dgS l).cps.toList = l.map fun d => 48 + d := by simp [dgS, SX.S]
theorem dgS_len (l : List Nat) : (dgS l).length = l.length := by rw [dgS, SX.S_len, List.length_map]
theorem dgS_sgL (l : List Nat) : sgL (dgS l) = l.map fun d => V.str (dg1 d) := by
  rw [sgL, dgS_cps, List.map_map]
  rfl
theorem joinL_nil : ∀ ys : List (List Nat), TL.joinL [] ys = ys.flatten
  | [] => rfl
  | [x] => by simp [TL.joinL]
  | x :: y :: r => by
    have ih := joinL_nil (y :: r)
    rw [List.flatten_cons, ← ih]
    rfl
theorem flat_one : ∀ l : List Nat, (l.map fun d => [48 + d]).flatten = l.map fun d => 48 + d
  | [] => rfl
  | x :: l => by rw [List.map_cons, List.flatten_cons, flat_one l]; rfl
theorem join_dg (l : List Nat) : Txt.join (Str.ofString "") (l.map dg1) = dgS l := by
  have h := SX.join_S [] (l.map fun d => [48 + d])
  rw [joinL_nil, List.map_map] at h
  rw [flat_one] at h
  exact h
theorem dg_in {d : Nat} {l : List Nat} : decide (48 + d ∈ (dgS l).cps.toList) = decide (d ∈ l) := by
  rw [dgS_cps]
  congr 1
  apply propext
  constructor
  · intro h
    obtain ⟨x, hx, e⟩ := List.mem_map.mp h
    have : x = d := by omega
    rw [← this]; exact hx
  · exact fun h => List.mem_map.mpr ⟨d, h, rfl⟩
theorem slice_dig : ∀ k : Nat, k ≤ 9 → Txt.slice "0123456789" none (some ((k : Int) + 1)) = dgS (List.range (k + 1)) := by
  have h : ∀ k : Fin 10, Txt.slice "0123456789" none (some ((k.val : Int) + 1)) = dgS (List.range (k.val + 1)) := by decide +kernel
  exact fun k hk => h ⟨k, by omega⟩
theorem int_dg : ∀ d : Nat, d ≤ 9 → PySem.intText? (dg1 d) = some (d : Int) := by
  have h : ∀ k : Fin 10, PySem.intText? (dg1 k.val) = some (k.val : Int) := by decide +kernel
  exact fun k hk => h ⟨k, by omega⟩
theorem digs : ("0123456789" : Str) = dgS (List.range 10) := by decide +kernel
theorem SpdOk.few {l : List Nat} (h : SpdOk l) : l.length ≤ 10 := nodup_lt 10 l (h.2.1.imp fun x => Nat.ne_of_lt x) fun x hx => by have := h.2.2 x hx; omega
theorem cnt_one {c : Nat} : ∀ {l : List Nat}, l.Nodup → c ∈ l → PyProof.Rows.cnt c l = 1
  | x :: l, nd, h => by
    rw [cnt_cons]
    have nd := List.nodup_cons.mp nd
    by_cases e : x = c
    · rw [if_pos e, cnt_none c l (by rw [← e]; exact nd.1)]; rfl
    · rw [if_neg e, cnt_one nd.2 ((List.mem_cons.mp h).resolve_left fun z => e z.symm)]; rfl
theorem count_dg {l : List Nat} (h : SpdOk l) {d : Nat} (hd : d ∈ l) : Txt.count (dgS l) (dg1 d) = 1 := by
  refine (count_cnt (dgS l) (48 + d)).trans (cnt_one ?_ ?_)
  · rw [dgS_cps]
    exact List.pairwise_map.mpr (h.2.1.imp fun {a b} x => by omega)
  · rw [dgS_cps]
    exact List.mem_map.mpr ⟨d, hd, rfl⟩
theorem lt_dg {a b : Nat} : ltCps (dg1 a).cps.toList (dg1 b).cps.toList = decide (a < b) := by
  show ltCps [48 + a] [48 + b] = _
  simp only [ltCps]
  by_cases h : a < b
  · simp [h]
  · by_cases h2 : a = b
    · simp [h2]
    · simp [h, h2]
theorem rising_dg : ∀ (p : Nat) (l : List Nat), risingS (dg1 p) (l.map dg1) = true → (p :: l).Pairwise (· ≤ ·)
  | p, [], _ => by simp
  | p, x :: r, h => by
    rw [List.map_cons, risingS, lt_dg, Bool.and_eq_true] at h
    have hx := rising_dg x r h.2
    have hp : p ≤ x := by
      have := h.1
      simp at this
      exact this
    refine List.Pairwise.cons (fun y hy => ?_) hx
    rcases List.mem_cons.mp hy with e | e
    · rw [e]; exact hp
    · exact Nat.le_trans hp ((List.pairwise_cons.mp hx).1 y e)
theorem dg1_of (d : Nat) : (dg1 d).cps.toList.headD 0 - 48 = d := by
  show 48 + d - 48 = d
  omega
theorem sorted_dg {l : List Nat} (h : SpdOk l) {ss : List Str} (hp : ss.Perm ((dgS l).cps.toList.map fun c => ⟨#[c]⟩)) (hs : sortedS ss = true) : ss = l.map dg1 := by
  rw [dgS_cps, List.map_map] at hp
  have hp : ss.Perm (l.map dg1) := hp
  have e1 : ss = (ss.map fun s => s.cps.toList.headD 0 - 48).map dg1 := by
    rw [List.map_map]
    refine ((List.map_congr_left fun s hs => ?_).trans (List.map_id _)).symm
    obtain ⟨d, _, e⟩ := List.mem_map.mp (hp.subset hs)
    show dg1 (s.cps.toList.headD 0 - 48) = s
    rw [← e, dg1_of]
  have e2 : (ss.map fun s => s.cps.toList.headD 0 - 48).Perm l := by
    have := hp.map fun s => s.cps.toList.headD 0 - 48
    rw [List.map_map] at this
    exact this.trans (List.Perm.of_eq ((List.map_congr_left fun d _ => dg1_of d).trans (List.map_id _)))
  generalize ss.map (fun s => s.cps.toList.headD 0 - 48) = ds at e1 e2
  subst e1
  congr 1
  have h1 : ds.Pairwise (· ≤ ·) := by
    cases ds with
    | nil => exact List.Pairwise.nil
    | cons x r => exact rising_dg x r hs
  exact List.Perm.eq_of_pairwise (fun a b _ _ x y => Nat.le_antisymm x y) h1 (h.2.1.imp fun x => Nat.le_of_lt x) e2
theorem sum_dg1 : ∀ l : List Nat, ((l.map dg1).map (·.length)).sum = l.length
  | [] => rfl
  | x :: l => by rw [List.map_cons, List.map_cons, List.sum_cons, sum_dg1 l, List.length_cons]; exact Nat.add_comm 1 _
/-! lists -/
theorem take_next {α : Type} {l : List α} {i : Nat} {x : α} (h : l[i]? = some x) : l.take (i + 1) = l.take i ++ [x] := by
  obtain ⟨hi, e⟩ := List.getElem?_eq_some_iff.mp h
  rw [List.take_succ, h]
  rfl
theorem all_next {α : Type} {l : List α} {p : α → Bool} {i : Nat} {x : α} (h : l[i]? = some x) (h1 : (l.take i).all p = true) (h2 : p x = true) : (l.take (i + 1)).all p = true := by
  rw [take_next h, List.all_append, h1]
  simp [h2]
theorem all_stop {α : Type} {l : List α} {p : α → Bool} {i : Nat} {x : α} (h : l[i]? = some x) (h2 : p x = false) : l.all p = false := by
  rw [List.all_eq_false]
  exact ⟨x, List.mem_of_getElem? h, by simp [h2]⟩
theorem FactsAt.get {S : Hp} {qs : List Addr} {fs : List Fact} (h : FactsAt S qs fs) {i : Nat} {y : V} (hy : (qs.map V.ref)[i]? = some y) : ∃ q f, y = .ref q ∧ fs[i]? = some f ∧ S q = some (.tup f.vs) := by
  rw [List.getElem?_map] at hy
  cases e : qs[i]? with
  | none => rw [e] at hy; cases hy
  | some q =>
    rw [e] at hy
    have hi := (List.getElem?_eq_some_iff.mp e).1
    have hf := List.getElem?_eq_getElem (h.1 ▸ hi : i < fs.length)
    exact ⟨q, _, (Option.some.inj hy).symm, hf, h.2 i q _ e hf⟩
/-! compares -/
section
variable {g : Bg} {K : Hp}
theorem w_eqI {a b : Int} : W g (rEq (.int a) (.int b)) K (Is (.bl (decide (a = b)))) := (w_rEq rfl).is (by
  congr 1
  by_cases h : a = b
  · rw [h]; simp
  · rw [decide_eq_false h]; exact decide_eq_false fun z => h (V.int.inj z))
theorem w_neI {a b : Int} : W g (rNe (.int a) (.int b)) K (Is (.bl (!decide (a = b)))) := (w_rNe rfl).is (by
  congr 2
  by_cases h : a = b
  · rw [h]; simp
  · rw [decide_eq_false h]; exact decide_eq_false fun z => h (V.int.inj z))
theorem w_eqN {a b : Nat} : W g (rEq (.int (a : Int)) (.int (b : Int))) K (Is (.bl (decide (a = b)))) := w_eqI.is (by
  congr 1
  by_cases h : a = b
  · rw [h]; simp
  · rw [decide_eq_false h]; exact decide_eq_false fun z => h (Int.ofNat.inj z))
theorem w_eqS {a b : Str} {c : Bool} (h : decide (a = b) = c) : W g (rEq (.str a) (.str b)) K (Is (.bl c)) := (w_rEq rfl).is (by
  congr 1
  rw [← h]
  by_cases h : a = b
  · rw [h]; simp
  · rw [decide_eq_false h]; exact decide_eq_false fun z => h (V.str.inj z))
theorem w_eqB {a b : Bool} : W g (rEq (.bl a) (.bl b)) K (Is (.bl (a == b))) := (w_rEq rfl).is (by
  cases a <;> cases b <;> rfl)
end
end Cm

/-! ## E4 -/
set_option maxHeartbeats 4000000
/-! Records: made, told, asked. -/
namespace Cm
open PySem PySem.Spec PyProof.Rows L2 Evl
local macro_rules | `(tactic| walk_at "w") => `(tactic| first
  | exact w_c
  | ((refine w_var ?_); rfl)
  | exact w_nil
  | ((refine w_cons (x := ?x) (xs := ?xs) ?h1 ?h2); (case h1 => walk_at "w"); (case h2 => walk_at "w"))
  | ((refine w_op (x := ?x) (y := ?y) ?h1 ?h2 ?h3); (case h1 => walk_at "w"); (case h2 => walk_at "w"); (case h3 => walk_at "w"))
  | exact w_rI0
  | exact w_rU
  | ((refine w_un (x := ?x) ?h1 ?h2); (case h1 => walk_at "w"); (case h2 => walk_at "w"))
  | ((refine w_rEq ?_); rfl)
  | ((refine w_rNe ?_); rfl)
  | ((refine w_test (b := ?b) ?h1); (case h1 => walk_at "w"))
  | ((refine w_tB (b := ?b) ?h1); (case h1 => walk_at "w"))
  | ((refine w_not (a := ?a) ?h1); (case h1 => walk_at "w"))
  | ((refine w_orU (a := ?a) (b := ?b) ?h1 ?h2); (case h1 => walk_at "w"); (case h2 => walk_at "w"))
  | ((refine w_andU (a := ?a) (b := ?b) ?h1 ?h2); (case h1 => walk_at "w"); (case h2 => walk_at "w"))
  | ((refine w_notV (a := ?a) ?h1); (case h1 => walk_at "w"))
  | ((refine w_orVU (a := ?a) (b := ?b) ?h1 ?h2); (case h1 => walk_at "w"); (case h2 => walk_at "w"))
  | ((refine w_andVU (a := ?a) (b := ?b) ?h1 ?h2); (case h1 => walk_at "w"); (case h2 => walk_at "w"))
  | ((refine w_chain1 (x := ?x) (y := ?y) (z := ?z) (p := ?p) (q := ?q) ?h1 ?h2 ?h3 ?h4 ?h5); (case h1 => walk_at "w"); (case h2 => walk_at "w"); (case h3 => walk_at "w"); (case h4 => walk_at "w"); (case h5 => walk_at "w"))
  | exact w_isN
  | exact w_max2
  | exact w_min2
  | exact w_int1
  | exact w_abs
  | (refine w_rI ?_; decide)
  | assumption)

section
variable {P : Program} {w : World} {K : PySem.W.Frag} {mg : Str → Option Value} {base : Heap} {g : Bg} {S : Hp}
def sp_is_speeds (K : PySem.W.Frag) : Sp := Pr (ι := List Nat) (fun l => [.str (dgS l)]) (fun _ l _ => SpdOk l) (fun _ _ v _ => v = .bl true)
theorem c_is_speeds (T : Txt K mg) : C8.Cal P w K mg base 1 "is_speeds" (sp_is_speeds K) [] := mk_is_speeds T (pr_len (ps := ["value"]) fun _ => rfl) (Bd.bs fun cdv A outer s H Q E hr => by
  have hu := hu_of hr
  have nd := sc_is_speeds.nd
  refine ⟨_, (pss_cons (ps_if (PW.pt (pw_or (pt_not (pt_val (pe_callB (cbIsi (K := K) rfl) rfl (T.free 49 rfl) bt_isinstance (pa_cons (pv 0) (pa_cons (pe_bltn (v := .ty "str") rfl (T.free 58 rfl) bt_str rfl) pa_nil))))) (pw_or1 (pt_not (pt_chain op_le op_le pe_int (pe_callB call_len_str rfl (T.free 51 rfl) bt_len (pa_cons (pv 0) pa_nil)) (pe_callB call_len_str rfl (T.free 51 rfl) bt_len (pa_cons (C8.pe_gc rfl (T.gstr 73 rfl)) pa_nil))))))) (pss_one (ps_ret pe_bl)) pss_nil)
      (pss_one (ps_ret (pe_and (pe_callB (cbAll (K := K) rfl rfl) rfl (T.free 50 rfl) bt_all (pa_cons (pe_lc (own := [("digit", 1)]) (g := gName 1) (tt := tYes) rfl nd (pi_str (pv 0)) (blkOk_by (own := [("digit", 1)]) (N := N_is_speeds) (sc := d_is_speeds.scope) (by decide +kernel)) (fun _ _ _ _ _ => (pg_name (i := 1) nd rfl (by first | exact .inl rfl | exact .inr rfl))) (fun _ _ _ _ _ => pts_nil) (fun _ _ _ _ _ => (pe_cmpR op_eq (pe_m1 PySem.F.slot_str_count PySem.F.type_str_count mt_count (pv 0) (pv 1)) pe_int (nomark _)))) pa_nil)) (pe_one (pe_callB (cbAll (K := K) rfl rfl) rfl (T.free 50 rfl) bt_all (pa_cons (pe_lc (own := [("digit", 1)]) (g := gName 1) (tt := tYes) rfl nd (pi_str (pv 0)) (blkOk_by (own := [("digit", 1)]) (N := N_is_speeds) (sc := d_is_speeds.scope) (by decide +kernel)) (fun _ _ _ _ _ => (pg_name (i := 1) nd rfl (by first | exact .inl rfl | exact .inr rfl))) (fun _ _ _ _ _ => pts_nil) (fun _ _ _ _ _ => (pe_cmpR op_in_sign (pv 1) (C8.pe_gc rfl (T.gstr 73 rfl)) rfl))) pa_nil))))))), fun g S0 x hp hQ => ?_⟩
  have hl := hp.few
  refine gs_ifF (w_orU (w_not (w_tB (w_cb (by walk_at "w") (w_isiS (b := true) (by decide +kernel))))) (w_not (w_test (w_chain1 w_c (w_cb (by walk_at "w") (w_lenS (by rw [dgS_len]; omega))) (w_cb (by walk_at "w") (w_lenS (by decide +kernel))) w_rI0 w_rI0)))) ?_ ?_
  · have h1 : 1 ≤ x.length := by
      cases e : x with
      | nil => exact absurd e hp.1
      | cons _ _ => simp
    have h10 : ("0123456789" : Str).length = 10 := by decide +kernel
    rw [dgS_len, decide_eq_true (by omega), decide_eq_true (by omega)]
    rfl
  have hw : ∀ {σ : L2.St} {te : TE} {S : Hp}, W g (te σ) S (Is (.str (dgS x))) → W g (iStr te σ) S (fun J S => ∃ ys, Wk S J ys ∧ ys = x.map fun d => V.str (dg1 d)) := fun h => (w_iS h).imp fun J S e ⟨ys, h1, h2⟩ => ⟨ys, h1, h2.trans (dgS_sgL x)⟩
  refine g_retI (v := .bl (x.all (fun d => decide (Txt.count (dgS x) (dg1 d) = 1)) && x.all fun d => decide (d ∈ List.range 10))) (w_andVU (w_allLc (ys := x) (h := fun d => V.str (dg1 d)) (hw (w_var rfl)) (by omega) fun i d S hd e => ⟨_, tg_name, rfl, w_op (w_m1 (w_var rfl) (w_var rfl) w_count) w_c w_eqI⟩)
    (w_allLc (ys := x) (h := fun d => V.str (dg1 d)) (hw (w_var rfl)) (by omega) fun i d S hd e => ⟨_, tg_name, rfl, w_op (w_var rfl) w_c ((w_inSign (c := 48 + d)).is (by rw [digs, dg_in]))⟩)) hQ fun S e => ?_
  congr 1
  rw [Bool.and_eq_true, List.all_eq_true, List.all_eq_true]
  refine ⟨fun d hd => decide_eq_true (count_dg hp hd), fun d hd => decide_eq_true (List.mem_range.mpr ?_)⟩
  have := hp.2.2 d hd
  omega)

theorem v_is_speeds {l : List Nat} (h : SpdOk l) : SpW g (sp_is_speeds K) [.str (dgS l)] S (Is (.bl true)) := w_pr l (fun _ _ => h) fun _ _ _ _ _ h => h
structure RArg where
  self : Addr
  dx : Addr
  p : Addr
  n : Nat
  top : Nat
  M : Mtr
def rF1 (p : Addr) : List (Str × V) := [("own_meter", .ref p)]
def rF2 (p q : Addr) : List (Str × V) := [("own_meter", .ref p), ("own_ticks", .ref q)]
def rF3 (p q : Addr) (t : Int) : List (Str × V) := [("own_meter", .ref p), ("own_ticks", .ref q), ("own_top", .int t)]
theorem rec_1 {p : Addr} : putF "own_meter" (.ref p) [] = rF1 p := rfl
theorem rec_2 {p q : Addr} : putF "own_ticks" (.ref q) (rF1 p) = rF2 p q := putF_ne (by decide +kernel)
theorem rec_3 {p q : Addr} {t : Int} : putF "own_top" (.int t) (rF2 p q) = rF3 p q t := by
  unfold rF2 rF3
  rw [putF_ne (by decide +kernel), putF_ne (by decide +kernel)] <;> rfl
theorem rec_4 {p q f : Addr} {t : Int} : putF "own_facts" (.ref f) (rF3 p q t) = recF p q t f := by
  unfold rF3 recF
  rw [putF_ne (by decide +kernel), putF_ne (by decide +kernel), putF_ne (by decide +kernel)] <;> rfl
theorem rec_5 {p q f f' : Addr} {t : Int} : putF "own_facts" (.ref f') (recF p q t f) = recF p q t f' := by
  unfold recF
  rw [putF_ne (by decide +kernel), putF_ne (by decide +kernel), putF_ne (by decide +kernel), putF_eq]
def sp_Record_init (K : PySem.W.Frag) : Sp := PrO (ι := RArg) (fun x => [.ref x.self, .ref x.p, .int x.n, .int x.top]) (fun x => x.self) (fun x => .ins (CR K) x.dx []) (fun _ x S => MtrAt K S x.p x.M ∧ x.n ≤ 40 ∧ x.top ≤ 9) (fun x _ v o S => v = .non ∧ ∃ q t, o = .ins (CR K) x.dx (recF x.p q x.top t) ∧ RecP K S x.p q t ⟨x.M, x.n, x.top, []⟩)
theorem k_Record (T : Txt K mg) : C8.Mak P w K mg base 4 "Record" (He.ga K "Record") (sp_Record_init K) [] := mk_Record_init T (prO_len fun _ => rfl) (BdO.bs fun cdv A outer s H Q E hr => by
  have hu := hu_of hr
  have nd := sc_Record_init.nd
  refine ⟨_, (pss_cons (ps_if (pt_not (pt_val (C8.pe_c (c_is_between (K := K) T) hr (by decide) rfl (pa_cons (pv 2) (pa_cons pe_int (pa_cons (C8.pe_gc rfl (T.gint 72 rfl)) pa_nil)))))) (pss_one ps_never) pss_nil)
      (pss_cons (ps_expr (C8.pe_c (c_check_top (K := K) T) hr (by decide) rfl (pa_cons (pv 3) pa_nil)))
      (pss_cons (ps_fld (pv 0) (pv 1) rfl)
      (pss_cons (ps_fld (pv 0) (pe_tupRg rfl rfl (T.free 52 rfl) (prg_1 rfl (T.free 54 rfl) (pv 2))) rfl)
      (pss_cons (ps_fld (pv 0) (pv 3) rfl)
      (pss_one (ps_fld (pv 0) (pe_tup pa_nil) rfl))))))), fun g S0 H0 x hp hQ => ?_⟩
  obtain ⟨self, dx, p, n, top, M⟩ := x
  obtain ⟨h0, h1, h2⟩ := hp
  dsimp only at h0 h1 h2
  refine gs_ifF (w_not (w_tB (w_c0 (by walk_at "w") v_is_between))) ?_ ?_
  · dsimp only
    rw [decide_eq_true (by omega), decide_eq_true (by omega)]
    rfl
  refine gs_dropI (w_c0 (by walk_at "w") (v_check_top (show 0 ≤ (top : Int) ∧ (top : Int) ≤ 9 by omega))) ?_
  refine gs_fld (R := Is (.ref p)) (fun e => w_var rfl) (fun S => w_var rfl) (cl_Record T) (na_Record_own_meter T) (by decide) fun y S1 i1 e1 ey => ?_
  cases ey
  rw [rec_1]
  refine gs_fld (fun e => w_tupRg (n := n) (w_var rfl) (by unfold RgOk; omega)) (fun S => w_var rfl) (cl_Record T) (na_Record_own_ticks T) (show 1 < 1000 by decide) fun y S2 i2 e2 ⟨q, ey, hq, hs⟩ => ?_
  subst ey
  have q2 := drm_new hq hs
  rw [rec_2]
  refine gs_fld (R := Is (.int top)) (fun e => w_var rfl) (fun S => w_var rfl) (cl_Record T) (na_Record_own_top T) (show 2 < 1000 by decide) fun y S3 i3 e3 ey => ?_
  cases ey
  rw [rec_3]
  refine g_fld (fun e => w_tupO w_nil) (fun S => w_var rfl) (cl_Record T) (na_Record_own_facts T) (show 3 < 1000 by decide) fun y S4 i4 e4 ⟨t, ey, ht, hs⟩ => ?_
  subst ey
  have t4 := drm_new ht hs
  rw [rec_4]
  exact fun H s => hQ _ _ _ H s ⟨rfl, q, t, rfl, h0.mono (((e1.trans e2).trans e3).trans e4), e4 _ _ (e3 _ _ q2), [], t4, rfl, fun i q f h => by cases h⟩)

/-- a record, bare -/
structure RB where
  r : Addr
  dx : Addr
  p : Addr
  q : Addr
  top : Int
  t : Addr
def RB.o (K : PySem.W.Frag) (x : RB) : HO := .ins (CR K) x.dx (recF x.p x.q x.top x.t)
def sp_Record_len (K : PySem.W.Frag) : Sp := Pr (ι := RB × Nat) (fun x => [.ref x.1.r]) (fun _ x S => S x.1.r = some (x.1.o K) ∧ S x.1.q = some (.tup (rgV 0 x.2))) (fun x _ v S => v = .int x.2)
theorem m_Record_len (T : Txt K mg) : C8.Met P w K mg base 1 (He.ga K "Record") "__len__" (sp_Record_len K) [] := mk_Record_len T (pr_len (ps := ["self"]) fun _ => rfl) (Bd.bs fun cdv A outer s H Q E hr => by
  have hu := hu_of hr
  have nd := sc_Record_len.nd
  refine ⟨_, (pss_one (ps_ret (pe_callB (cbLen (K := K) rfl) rfl (T.free 51 rfl) bt_len (pa_cons (peFld (K := K) rfl (pv 0) rfl) pa_nil)))), fun g S0 x hp hQ => ?_⟩
  exact g_retI (v := .int x.2) (w_cb (w_cons (w_fld (w_var rfl) hp.1 (cl_Record T) (na_Record_own_ticks T) rfl) w_nil) ((w_lenT (st_of hp.2)).is (by rw [rgV_length]; simp))) hQ fun S e => rfl)

def sp_Record_meter (K : PySem.W.Frag) : Sp := Pr (ι := RB) (fun x => [.ref x.r]) (fun _ x S => S x.r = some (x.o K)) (fun x _ v S => v = .ref x.p)
theorem p_Record_meter (T : Txt K mg) : Prp P w K mg base 1 (He.ga K "Record") "meter" (sp_Record_meter K) := mk_Record_meter T (pr_len (ps := ["self"]) fun _ => rfl) (Bd.bs fun cdv A outer s H Q E hr => by
  have hu := hu_of hr
  have nd := sc_Record_meter.nd
  refine ⟨_, (pss_one (ps_ret (peFld (K := K) rfl (pv 0) rfl))), fun g S0 x hp hQ => ?_⟩
  exact g_retI (w_fld (w_var rfl) hp (cl_Record T) (na_Record_own_meter T) rfl) hQ fun S e => rfl)

def sp_Record_top (K : PySem.W.Frag) : Sp := Pr (ι := RB) (fun x => [.ref x.r]) (fun _ x S => S x.r = some (x.o K)) (fun x _ v S => v = .int x.top)
theorem p_Record_top (T : Txt K mg) : Prp P w K mg base 1 (He.ga K "Record") "top" (sp_Record_top K) := mk_Record_top T (pr_len (ps := ["self"]) fun _ => rfl) (Bd.bs fun cdv A outer s H Q E hr => by
  have hu := hu_of hr
  have nd := sc_Record_top.nd
  refine ⟨_, (pss_one (ps_ret (peFld (K := K) rfl (pv 0) rfl))), fun g S0 x hp hQ => ?_⟩
  exact g_retI (w_fld (w_var rfl) hp (cl_Record T) (na_Record_own_top T) rfl) hQ fun S e => rfl)

def sp_Record_check_tick (K : PySem.W.Frag) : Sp := Pr (ι := Addr × Int × Int) (fun x => [.ref x.1, .int x.2.1, .int x.2.2]) (fun _ x S => 0 ≤ x.2.1 ∧ x.2.1 ≤ x.2.2) (fun x _ v S => v = .non)
theorem m_Record_check_tick (T : Txt K mg) : C8.Met P w K mg base 3 (He.ga K "Record") "check_tick" (sp_Record_check_tick K) [] := mk_Record_check_tick T (pr_len (ps := ["self", "tick", "last"]) fun _ => rfl) (Bd.bs fun cdv A outer s H Q E hr => by
  have hu := hu_of hr
  have nd := sc_Record_check_tick.nd
  refine ⟨_, (pss_one (ps_if (pt_not (pt_val (C8.pe_c (c_is_between (K := K) T) hr (by decide) rfl (pa_cons (pv 1) (pa_cons pe_int (pa_cons (pv 2) pa_nil)))))) (pss_one ps_never) pss_nil)), fun g S0 x hp hQ => ?_⟩
  refine g_ifF (w_not (w_tB (w_c0 (by walk_at "w") v_is_between))) ?_ ?_
  · rw [decide_eq_true hp.1, decide_eq_true hp.2]
    rfl
  exact g_endP hQ rfl)

theorem v_check_tick {r : Addr} {a b : Int} (h : 0 ≤ a ∧ a ≤ b) : SpW g (sp_Record_check_tick K) [.ref r, .int a, .int b] S (Is .non) := w_pr (r, a, b) (fun _ _ => h) fun _ _ _ _ _ h => h
theorem v_rlen {x : RB} {n : Nat} (h : S x.r = some (x.o K)) (h2 : S x.q = some (.tup (rgV 0 n))) : SpW g (sp_Record_len K) [.ref x.r] S (Is (.int n)) := w_pr (x, n) (fun _ e => ⟨e _ _ h, e _ _ h2⟩) fun _ _ _ _ _ h => h
theorem v_rmeter {x : RB} (h : S x.r = some (x.o K)) : SpW g (sp_Record_meter K) [.ref x.r] S (Is (.ref x.p)) := w_pr x (fun _ e => e _ _ h) fun _ _ _ _ _ h => h
theorem v_rtop {x : RB} (h : S x.r = some (x.o K)) : SpW g (sp_Record_top K) [.ref x.r] S (Is (.int x.top)) := w_pr x (fun _ e => e _ _ h) fun _ _ _ _ _ h => h
/-- what a record's object holds -/
structure RecB (K : PySem.W.Frag) (S : Hp) (x : RB) (R : Rec) : Prop where
  top : x.top = R.top
  pp : RecP K S x.p x.q x.t R
theorem RecB.mono {S S' : Hp} {x : RB} {R : Rec} (e : Ex S S') (h : RecB K S x R) : RecB K S' x R := ⟨h.top, h.pp.mono e⟩
theorem RecAt.b {r : Addr} {R : Rec} (h : RecAt K S r R) : ∃ x : RB, x.r = r ∧ S r = some (x.o K) ∧ RecB K S x R := by
  obtain ⟨o, h1, dx, p, q, t, h2, h3⟩ := h
  exact ⟨⟨r, dx, p, q, R.top, t⟩, rfl, by rw [h1, h2]; rfl, rfl, h3⟩
theorem RecB.at {x : RB} {R : Rec} (h1 : S x.r = some (x.o K)) (h : RecB K S x R) : RecAt K S x.r R := ⟨_, h1, x.dx, x.p, x.q, x.t, by rw [← h.top]; rfl, h.pp⟩
def sp_Record_take_in (K : PySem.W.Frag) : Sp := PrO (ι := RB × Rec × Addr × Fact) (fun x => [.ref x.1.r, .ref x.2.2.1]) (fun x => x.1.r) (fun x => x.1.o K) (fun _ x S => RecB K S x.1 x.2.1 ∧ S x.2.2.1 = some (.tup x.2.2.2.vs) ∧ x.2.1.fs.length ≤ 100) (fun x S0 v o S => v = .non ∧ ∃ t, o = RB.o K { x.1 with t := t } ∧ RecB K S { x.1 with t := t } { x.2.1 with fs := x.2.1.fs ++ [x.2.2.2] })
theorem m_Record_take_in (T : Txt K mg) : C8.Met P w K mg base 1 (He.ga K "Record") "take_in" (sp_Record_take_in K) [] := mk_Record_take_in T (prO_len fun _ => rfl) (BdO.bs fun cdv A outer s H Q E hr => by
  have hu := hu_of hr
  have nd := sc_Record_take_in.nd
  refine ⟨_, (pss_one (ps_fld (pv 0) (pe_tup (paStar (K := K) rfl (peFld (K := K) rfl (pv 0) rfl) (pa_cons (pv 1) pa_nil))) rfl)), fun g S0 H0 x hp hQ => ?_⟩
  obtain ⟨⟨r, dx, p, q, top, t⟩, R, b, f⟩ := x
  obtain ⟨⟨htop, h1, h2, qs, h3, h4⟩, hb, hf⟩ := hp
  dsimp only at htop h1 h2 h3 h4 hb hf
  refine g_fld (R := NewO (ov [(r, .ins (CR K) dx (recF p q top t))] S0) (.tup ((qs ++ [b]).map V.ref))) (fun e => ?_) (fun S => w_var rfl) (cl_Record T) (na_Record_own_facts T) (show 4 < 1000 by decide) fun y S1 i1 e1 ⟨t', ey, ht, hs⟩ => ?_
  · refine w_tupO (xs := (qs ++ [b]).map V.ref) (w_star (w_fld (w_var rfl) ov_cons (cl_Record T) (na_Record_own_facts T) rfl) fun x S e9 ex => ⟨t, _, ex, .inl (st_of (e9 _ _ (e _ _ h3))), (w_cons (w_var rfl) w_nil).imp fun ys S2 _ hy => ?_⟩) ?_
    · cases hy
      rw [List.map_append]
      rfl
    · rw [List.length_map, List.length_append, List.length_singleton, h4.1]
      omega
  subst ey
  have t1 := drm_new ht hs
  rw [rec_5]
  refine fun H s => hQ _ _ _ H s ⟨rfl, t', rfl, htop, h1.mono e1, e1 _ _ h2, qs ++ [b], t1, ?_, ?_⟩
  · rw [List.length_append, List.length_append, h4.1]
    rfl
  · intro i q f' hi hj
    by_cases z : i < qs.length
    · rw [List.getElem?_append_left z] at hi
      rw [List.getElem?_append_left (by rw [← h4.1]; exact z)] at hj
      exact e1 _ _ (h4.2 i q f' hi hj)
    · rw [List.getElem?_append_right (by omega)] at hi
      rw [List.getElem?_append_right (by rw [← h4.1]; omega), ← h4.1] at hj
      have h0 : i - qs.length = 0 := by
        have := (List.getElem?_eq_some_iff.mp hi).1
        rw [List.length_singleton] at this
        omega
      rw [h0] at hi hj
      cases hi
      cases hj
      exact e1 _ _ hb)

theorem v_take_in {x : RB} {R : Rec} {b : Addr} {f : Fact} (h : RecB K S x R) (hb : S b = some (.tup f.vs)) (hl : R.fs.length ≤ 100) : SpO g (sp_Record_take_in K) x.r (x.o K) [.ref x.r, .ref b] S fun v o S' => v = .non ∧ ∃ t, o = RB.o K { x with t := t } ∧ RecB K S' { x with t := t } { R with fs := R.fs ++ [f] } :=
  w_prO (x, R, b, f) (fun _ e => ⟨h.mono e, e _ _ hb, hl⟩) fun _ _ _ _ _ _ h => h
def sp_Record_only (K : PySem.W.Frag) : Sp := PrO (ι := RB × Rec × Nat × List Nat) (fun x => [.ref x.1.r, .int x.2.2.1, .str (dgS x.2.2.2)]) (fun x => x.1.r) (fun x => x.1.o K) (fun _ x S => RecB K S x.1 x.2.1 ∧ (Fact.speeds x.2.2.1 x.2.2.2).Ok x.2.1.n ∧ x.2.1.fs.length ≤ 100) (fun x S0 v o S => v = .non ∧ ∃ t, o = RB.o K { x.1 with t := t } ∧ RecB K S { x.1 with t := t } { x.2.1 with fs := x.2.1.fs ++ [.speeds x.2.2.1 x.2.2.2] })
theorem m_Record_only (T : Txt K mg) : C8.Met P w K mg base 4 (He.ga K "Record") "only" (sp_Record_only K) [] := mk_Record_only T (prO_len fun _ => rfl) (BdO.bs fun cdv A outer s H Q E hr => by
  have hu := hu_of hr
  have nd := sc_Record_only.nd
  refine ⟨_, (pss_cons (ps_expr (C8.pe_mt (m_Record_check_tick (K := K) T) hr (by decide) (pv 0) (pa_cons (pv 1) (pa_cons (pe_op op_sub (pe_callB (cbLen (K := K) rfl) rfl (T.free 51 rfl) bt_len (pa_cons (peFld (K := K) rfl (pv 0) rfl) pa_nil)) pe_int) pa_nil))))
      (pss_cons (ps_if (pt_not (pt_val (C8.pe_c (c_is_speeds (K := K) T) hr (by decide) rfl (pa_cons (pv 2) pa_nil)))) (pss_one ps_never) pss_nil)
      (pss_one (ps_expr (C8.pe_mt (m_Record_take_in (K := K) T) hr (by decide) (pv 0) (pa_cons (pe_tup (pa_cons pe_str (pa_cons (pv 1) (pa_cons (peJoin (K := K) rfl pe_str (pe_callB (call_sortedTxt rfl) rfl (T.free 62 rfl) bt_sorted (pa_cons (pv 2) pa_nil))) pa_nil)))) pa_nil)))))), fun g S0 H0 x hp hQ => ?_⟩
  obtain ⟨y, R, tk, l⟩ := x
  obtain ⟨hB, hf, hl⟩ := hp
  dsimp only at hB hf hl
  obtain ⟨hf1, hf2⟩ := id hf
  show G ⟨g, S0, H0⟩ _ (start N_Record_only [.ref y.r, .int tk, .str (dgS l)]) [(y.r, y.o K)] S0
  refine gs_dropVI (fun e => w_m0 (w_var rfl) ov_cons rfl (w_cons (w_var rfl) (w_cons (w_op (w_cb (w_cons (w_fld (w_var rfl) ov_cons (cl_Record T) (na_Record_own_ticks T) rfl) w_nil) ((w_lenT (st_of (e _ _ hB.pp.tic))).is (show _ = V.int (R.n : Nat) by rw [rgV_length]; simp))) w_c w_rI0) w_nil)) (v_check_tick (by omega))) ?_
  refine gs_ifF (w_not (w_tB (w_c0 (by walk_at "w") (v_is_speeds hf2)))) rfl ?_
  refine g_dropO (wo_m0 (w_var rfl) rfl (Ra := fun vs S => ∃ b, vs = [.ref b] ∧ S b = some (.tup (Fact.speeds tk l).vs)) (w_consR (w_tup (xs := [.str "speeds", .int tk, .str (dgS l)]) (w_cons w_c (w_cons (w_var rfl) (w_cons (w_m1R w_c (Ra := fun v S => ∃ p, v = .ref p ∧ S p = some (.lst ((l.map dg1).map V.str))) (w_cb (w_cons (w_var rfl) w_nil) (w_sortedTxt (by rw [dgS_len]; have := hf2.few; omega) fun ss p S h1 h2 h3 => ⟨p, rfl, by rw [h3, sorted_dg hf2 h1 h2]⟩)) fun y S e ⟨p, ey, hs⟩ => by
      rw [ey]
      exact (w_join (sq_of hs) (by rw [sum_dg1, List.length_map]; have := hf2.few; show _ + _ * 0 ≤ _; omega)).is (by rw [join_dg])) w_nil)))) fun v S e ⟨b, ev, hb⟩ => w_nilR fun S2 e2 => ⟨b, by rw [ev], e2 _ _ hb⟩) fun vs S e ⟨b, ev, hb⟩ => ev ▸ v_take_in (hB.mono e) hb hl) fun v o' S e ⟨hv, t, eo, hR⟩ => fun H s => ?_
  exact hQ _ _ _ H s ⟨rfl, t, eo, hR⟩)


def sp_Record_passed (K : PySem.W.Frag) : Sp := PrO (ι := RB × Rec × Nat × Int) (fun x => [.ref x.1.r, .int x.2.2.1, .int x.2.2.2]) (fun x => x.1.r) (fun x => x.1.o K) (fun _ x S => RecB K S x.1 x.2.1 ∧ (Fact.passed x.2.2.1 x.2.2.2).Ok x.2.1.n ∧ x.2.1.fs.length ≤ 100) (fun x S0 v o S => v = .non ∧ ∃ t, o = RB.o K { x.1 with t := t } ∧ RecB K S { x.1 with t := t } { x.2.1 with fs := x.2.1.fs ++ [.passed x.2.2.1 x.2.2.2] })
theorem m_Record_passed (T : Txt K mg) : C8.Met P w K mg base 4 (He.ga K "Record") "passed" (sp_Record_passed K) [] := mk_Record_passed T (prO_len fun _ => rfl) (BdO.bs fun cdv A outer s H Q E hr => by
  have hu := hu_of hr
  have nd := sc_Record_passed.nd
  refine ⟨_, (pss_cons (ps_expr (C8.pe_mt (m_Record_check_tick (K := K) T) hr (by decide) (pv 0) (pa_cons (pv 1) (pa_cons (pe_callB (cbLen (K := K) rfl) rfl (T.free 51 rfl) bt_len (pa_cons (peFld (K := K) rfl (pv 0) rfl) pa_nil)) pa_nil))))
      (pss_cons (ps_if (PW.pt (pw_or (pt_not (pt_val (C8.pe_c (c_is_whole (K := K) T) hr (by decide) rfl (pa_cons (pv 2) pa_nil)))) (pw_or1 (pt_cmpR op_lt (pv 2) pe_int (nomark _))))) (pss_one ps_never) pss_nil)
      (pss_one (ps_expr (C8.pe_mt (m_Record_take_in (K := K) T) hr (by decide) (pv 0) (pa_cons (pe_tup (pa_cons pe_str (pa_cons (pv 1) (pa_cons (pv 2) pa_nil)))) pa_nil)))))), fun g S0 H0 x hp hQ => ?_⟩
  obtain ⟨y, R, tk, l⟩ := x
  obtain ⟨hB, hf, hl⟩ := hp
  dsimp only at hB hf hl
  obtain ⟨hf1, hf2⟩ := id hf
  show G ⟨g, S0, H0⟩ _ (start N_Record_passed [.ref y.r, .int tk, .int l]) [(y.r, y.o K)] S0
  refine gs_dropVI (fun e => w_m0 (w_var rfl) ov_cons rfl (w_cons (w_var rfl) (w_cons (w_cb (w_cons (w_fld (w_var rfl) ov_cons (cl_Record T) (na_Record_own_ticks T) rfl) w_nil) ((w_lenT (st_of (e _ _ hB.pp.tic))).is (show _ = V.int (R.n : Nat) by rw [rgV_length]; simp))) w_nil)) (v_check_tick (by omega))) ?_
  refine gs_ifF (w_orU (w_not (w_tB (w_c0 (by walk_at "w") v_is_whole))) (by walk_at "w")) ?_ ?_
  · rw [Bool.not_true, Bool.false_or, decide_eq_false_iff_not]
    omega
  refine g_dropO (wo_m0 (w_var rfl) rfl (Ra := fun vs S => ∃ b, vs = [.ref b] ∧ S b = some (.tup (Fact.passed tk l).vs)) (w_consR (w_tup (xs := [.str "passed", .int tk, .int l]) (by walk_at "w")) fun v S e ⟨b, ev, hb⟩ => w_nilR fun S2 e2 => ⟨b, by rw [ev], e2 _ _ hb⟩) fun vs S e ⟨b, ev, hb⟩ => ev ▸ v_take_in (hB.mono e) hb hl) fun v o' S e ⟨hv, t, eo, hR⟩ => fun H s => ?_
  exact hQ _ _ _ H s ⟨rfl, t, eo, hR⟩)


def sp_Record_showed (K : PySem.W.Frag) : Sp := PrO (ι := RB × Rec × Nat × Int) (fun x => [.ref x.1.r, .int x.2.2.1, .int x.2.2.2]) (fun x => x.1.r) (fun x => x.1.o K) (fun _ x S => RecB K S x.1 x.2.1 ∧ (Fact.showed x.2.2.1 x.2.2.2).Ok x.2.1.n ∧ x.2.1.fs.length ≤ 100) (fun x S0 v o S => v = .non ∧ ∃ t, o = RB.o K { x.1 with t := t } ∧ RecB K S { x.1 with t := t } { x.2.1 with fs := x.2.1.fs ++ [.showed x.2.2.1 x.2.2.2] })
theorem m_Record_showed (T : Txt K mg) : C8.Met P w K mg base 4 (He.ga K "Record") "showed" (sp_Record_showed K) [] := mk_Record_showed T (prO_len fun _ => rfl) (BdO.bs fun cdv A outer s H Q E hr => by
  have hu := hu_of hr
  have nd := sc_Record_showed.nd
  refine ⟨_, (pss_cons (ps_expr (C8.pe_mt (m_Record_check_tick (K := K) T) hr (by decide) (pv 0) (pa_cons (pv 1) (pa_cons (pe_callB (cbLen (K := K) rfl) rfl (T.free 51 rfl) bt_len (pa_cons (peFld (K := K) rfl (pv 0) rfl) pa_nil)) pa_nil))))
      (pss_cons (ps_if (PW.pt (pw_or (pt_not (pt_val (C8.pe_c (c_is_whole (K := K) T) hr (by decide) rfl (pa_cons (pv 2) pa_nil)))) (pw_or1 (pt_cmpR op_lt (pv 2) pe_int (nomark _))))) (pss_one ps_never) pss_nil)
      (pss_one (ps_expr (C8.pe_mt (m_Record_take_in (K := K) T) hr (by decide) (pv 0) (pa_cons (pe_tup (pa_cons pe_str (pa_cons (pv 1) (pa_cons (pv 2) pa_nil)))) pa_nil)))))), fun g S0 H0 x hp hQ => ?_⟩
  obtain ⟨y, R, tk, l⟩ := x
  obtain ⟨hB, hf, hl⟩ := hp
  dsimp only at hB hf hl
  obtain ⟨hf1, hf2⟩ := id hf
  show G ⟨g, S0, H0⟩ _ (start N_Record_showed [.ref y.r, .int tk, .int l]) [(y.r, y.o K)] S0
  refine gs_dropVI (fun e => w_m0 (w_var rfl) ov_cons rfl (w_cons (w_var rfl) (w_cons (w_cb (w_cons (w_fld (w_var rfl) ov_cons (cl_Record T) (na_Record_own_ticks T) rfl) w_nil) ((w_lenT (st_of (e _ _ hB.pp.tic))).is (show _ = V.int (R.n : Nat) by rw [rgV_length]; simp))) w_nil)) (v_check_tick (by omega))) ?_
  refine gs_ifF (w_orU (w_not (w_tB (w_c0 (by walk_at "w") v_is_whole))) (by walk_at "w")) ?_ ?_
  · rw [Bool.not_true, Bool.false_or, decide_eq_false_iff_not]
    omega
  refine g_dropO (wo_m0 (w_var rfl) rfl (Ra := fun vs S => ∃ b, vs = [.ref b] ∧ S b = some (.tup (Fact.showed tk l).vs)) (w_consR (w_tup (xs := [.str "showed", .int tk, .int l]) (by walk_at "w")) fun v S e ⟨b, ev, hb⟩ => w_nilR fun S2 e2 => ⟨b, by rw [ev], e2 _ _ hb⟩) fun vs S e ⟨b, ev, hb⟩ => ev ▸ v_take_in (hB.mono e) hb hl) fun v o' S e ⟨hv, t, eo, hR⟩ => fun H s => ?_
  exact hQ _ _ _ H s ⟨rfl, t, eo, hR⟩)


def sp_Record_jumped (K : PySem.W.Frag) : Sp := PrO (ι := RB × Rec × Nat × Bool) (fun x => [.ref x.1.r, .int x.2.2.1, .bl x.2.2.2]) (fun x => x.1.r) (fun x => x.1.o K) (fun _ x S => RecB K S x.1 x.2.1 ∧ (Fact.jumped x.2.2.1 x.2.2.2).Ok x.2.1.n ∧ x.2.1.fs.length ≤ 100) (fun x S0 v o S => v = .non ∧ ∃ t, o = RB.o K { x.1 with t := t } ∧ RecB K S { x.1 with t := t } { x.2.1 with fs := x.2.1.fs ++ [.jumped x.2.2.1 x.2.2.2] })
theorem m_Record_jumped (T : Txt K mg) : C8.Met P w K mg base 4 (He.ga K "Record") "jumped" (sp_Record_jumped K) [] := mk_Record_jumped T (prO_len fun _ => rfl) (BdO.bs fun cdv A outer s H Q E hr => by
  have hu := hu_of hr
  have nd := sc_Record_jumped.nd
  refine ⟨_, (pss_cons (ps_expr (C8.pe_mt (m_Record_check_tick (K := K) T) hr (by decide) (pv 0) (pa_cons (pv 1) (pa_cons (pe_op op_sub (pe_callB (cbLen (K := K) rfl) rfl (T.free 51 rfl) bt_len (pa_cons (peFld (K := K) rfl (pv 0) rfl) pa_nil)) pe_int) pa_nil))))
      (pss_cons (ps_if (pt_not (pt_val (pe_callB (cbIsi (K := K) rfl) rfl (T.free 49 rfl) bt_isinstance (pa_cons (pv 2) (pa_cons (pe_bltn (v := .ty "bool") rfl (T.free 60 rfl) bt_bool rfl) pa_nil))))) (pss_one ps_never) pss_nil)
      (pss_one (ps_expr (C8.pe_mt (m_Record_take_in (K := K) T) hr (by decide) (pv 0) (pa_cons (pe_tup (pa_cons pe_str (pa_cons (pv 1) (pa_cons (pv 2) pa_nil)))) pa_nil)))))), fun g S0 H0 x hp hQ => ?_⟩
  obtain ⟨y, R, tk, l⟩ := x
  obtain ⟨hB, hf, hl⟩ := hp
  dsimp only at hB hf hl
  have hf1 : tk < R.n := hf
  show G ⟨g, S0, H0⟩ _ (start N_Record_jumped [.ref y.r, .int tk, .bl l]) [(y.r, y.o K)] S0
  refine gs_dropVI (fun e => w_m0 (w_var rfl) ov_cons rfl (w_cons (w_var rfl) (w_cons (w_op (w_cb (w_cons (w_fld (w_var rfl) ov_cons (cl_Record T) (na_Record_own_ticks T) rfl) w_nil) ((w_lenT (st_of (e _ _ hB.pp.tic))).is (show _ = V.int (R.n : Nat) by rw [rgV_length]; simp))) w_c w_rI0) w_nil)) (v_check_tick (by omega))) ?_
  refine gs_ifF (w_not (w_tB (w_cb (by walk_at "w") (w_isiB (b := true) (by decide +kernel))))) rfl ?_
  refine g_dropO (wo_m0 (w_var rfl) rfl (Ra := fun vs S => ∃ b, vs = [.ref b] ∧ S b = some (.tup (Fact.jumped tk l).vs)) (w_consR (w_tup (xs := [.str "jumped", .int tk, .bl l]) (by walk_at "w")) fun v S e ⟨b, ev, hb⟩ => w_nilR fun S2 e2 => ⟨b, by rw [ev], e2 _ _ hb⟩) fun vs S e ⟨b, ev, hb⟩ => ev ▸ v_take_in (hB.mono e) hb hl) fun v o' S e ⟨hv, t, eo, hR⟩ => fun H s => ?_
  exact hQ _ _ _ H s ⟨rfl, t, eo, hR⟩)


end
end Cm

/-! ## E5 -/
set_option maxHeartbeats 4000000
/-! Records: asked. -/
namespace Cm
open PySem PySem.Spec PyProof.Rows L2 Evl
local macro_rules | `(tactic| walk_at "w") => `(tactic| first
  | exact w_c
  | ((refine w_var ?_); rfl)
  | exact w_nil
  | ((refine w_cons (x := ?x) (xs := ?xs) ?h1 ?h2); (case h1 => walk_at "w"); (case h2 => walk_at "w"))
  | ((refine w_op (x := ?x) (y := ?y) ?h1 ?h2 ?h3); (case h1 => walk_at "w"); (case h2 => walk_at "w"); (case h3 => walk_at "w"))
  | exact w_rI0
  | exact w_rU
  | ((refine w_un (x := ?x) ?h1 ?h2); (case h1 => walk_at "w"); (case h2 => walk_at "w"))
  | ((refine w_rEq ?_); rfl)
  | ((refine w_rNe ?_); rfl)
  | ((refine w_test (b := ?b) ?h1); (case h1 => walk_at "w"))
  | ((refine w_tB (b := ?b) ?h1); (case h1 => walk_at "w"))
  | ((refine w_not (a := ?a) ?h1); (case h1 => walk_at "w"))
  | ((refine w_orU (a := ?a) (b := ?b) ?h1 ?h2); (case h1 => walk_at "w"); (case h2 => walk_at "w"))
  | ((refine w_andU (a := ?a) (b := ?b) ?h1 ?h2); (case h1 => walk_at "w"); (case h2 => walk_at "w"))
  | ((refine w_notV (a := ?a) ?h1); (case h1 => walk_at "w"))
  | ((refine w_orVU (a := ?a) (b := ?b) ?h1 ?h2); (case h1 => walk_at "w"); (case h2 => walk_at "w"))
  | ((refine w_andVU (a := ?a) (b := ?b) ?h1 ?h2); (case h1 => walk_at "w"); (case h2 => walk_at "w"))
  | ((refine w_chain1 (x := ?x) (y := ?y) (z := ?z) (p := ?p) (q := ?q) ?h1 ?h2 ?h3 ?h4 ?h5); (case h1 => walk_at "w"); (case h2 => walk_at "w"); (case h3 => walk_at "w"); (case h4 => walk_at "w"); (case h5 => walk_at "w"))
  | exact w_isN
  | exact w_max2
  | exact w_min2
  | exact w_int1
  | exact w_abs
  | (refine w_rI ?_; decide)
  | assumption)

section
variable {P : Program} {w : World} {K : PySem.W.Frag} {mg : Str → Option Value} {base : Heap} {g : Bg} {S : Hp}
def sp_Record_facts (K : PySem.W.Frag) : Sp := Pr (ι := Addr × Rec) (fun x => [.ref x.1]) (fun _ x S => RecAt K S x.1 x.2) (fun x S0 v S => ∃ p qs, v = .ref p ∧ S p = some (.lst (qs.map V.ref)) ∧ FactsAt S qs x.2.fs)
theorem m_Record_facts (T : Txt K mg) : C8.Met P w K mg base 1 (He.ga K "Record") "facts" (sp_Record_facts K) [] := mk_Record_facts T (pr_len (ps := ["self"]) fun _ => rfl) (Bd.bs fun cdv A outer s H Q E hr => by
  have hu := hu_of hr
  have nd := sc_Record_facts.nd
  refine ⟨_, (pss_one (ps_ret (pe_callTy (cbList (K := K) rfl) rfl (T.free 53 rfl) bt_list (pa_cons (peFld (K := K) rfl (pv 0) rfl) pa_nil)))), fun g S0 x hp hQ => ?_⟩
  obtain ⟨r, R⟩ := x
  obtain ⟨y, er, hr1, hB⟩ := RecAt.b hp
  dsimp only at er hr1 hB
  subst er
  obtain ⟨qs, h3, h4⟩ := hB.pp.fac
  exact g_retP (w_cb (w_cons (w_fld (w_var rfl) hr1 (cl_Record T) (na_Record_own_facts T) rfl) w_nil) (w_listT (st_of h3))) hQ fun v S e ⟨p, ev, hn, hs⟩ => ⟨p, qs, ev, hs, h4.mono e⟩)

def sp_Record_getitem (K : PySem.W.Frag) : Sp := Pr (ι := Addr × Rec × Nat) (fun x => [.ref x.1, .int x.2.2]) (fun _ x S => RecAt K S x.1 x.2.1 ∧ x.2.2 < x.2.1.n ∧ x.2.1.top ≤ 9) (fun x _ v _ => v = .str (dgS (x.2.1.left x.2.2)))
theorem m_Record_getitem (T : Txt K mg) : C8.Met P w K mg base 4 (He.ga K "Record") "__getitem__" (sp_Record_getitem K) [] := mk_Record_getitem T (pr_len (ps := ["self", "tick"]) fun _ => rfl) (Bd.bs fun cdv A outer s H Q E hr => by
  have hu := hu_of hr
  have nd := sc_Record_getitem.nd
  refine ⟨_, (pss_cons (ps_expr (C8.pe_mt (m_Record_check_tick (K := K) T) hr (by decide) (pv 0) (pa_cons (pv 1) (pa_cons (pe_op op_sub (pe_callB (cbLen (K := K) rfl) rfl (T.free 51 rfl) bt_len (pa_cons (peFld (K := K) rfl (pv 0) rfl) pa_nil)) pe_int) pa_nil))))
      (pss_cons (ps_set (i := 2) nd rfl (by first | exact .inl rfl | exact .inr rfl) (pe_slice C8.sl_txt (C8.pe_gc rfl (T.gstr 73 rfl)) po_none (po_some (pe_op op_add (peFld (K := K) rfl (pv 0) rfl) pe_int))))
      (pss_cons (ps_for PassesOwn.never rfl (piT (K := K) rfl (peFld (K := K) rfl (pv 0) rfl)) (pgTup (K := K) rfl rfl (pgs_cons (pg_name (i := 3) nd rfl (by first | exact .inl rfl | exact .inr rfl)) (pgs_cons (pg_name (i := 4) nd rfl (by first | exact .inl rfl | exact .inr rfl)) (pgs_cons (pg_name (i := 5) nd rfl (by first | exact .inl rfl | exact .inr rfl)) pgs_nil))))
      (pss_one (ps_if (PW.pt (pw_and (pt_cmpR op_eq (pv 3) pe_str (nomark _)) (pw_and1 (pt_cmpR op_eq (pv 4) (pv 1) (nomark _))))) (pss_one (ps_set (i := 2) nd rfl (by first | exact .inl rfl | exact .inr rfl) (peJoin (K := K) rfl pe_str (pe_lc (own := [("digit", 6)]) (g := gName 6) rfl nd (pi_str (pv 2)) (blkOk_by (own := [("digit", 6)]) (N := N_Record_getitem) (sc := d_Record_getitem.scope) (by decide +kernel)) (fun _ _ _ _ _ => (pg_name (i := 6) nd rfl (by first | exact .inl rfl | exact .inr rfl))) (fun _ _ _ _ _ => (pts_one (pt_cmpR op_in_sign (pv 6) (pv 5) rfl))) (fun _ _ _ _ _ => (pv 6)))))) pss_nil)))
      (pss_one (ps_ret (pv 2)))))), fun g S0 x hp hQ => ?_⟩
  obtain ⟨r, R, t⟩ := x
  obtain ⟨hr0, ht, htop⟩ := hp
  obtain ⟨y, er, hr1, hB⟩ := RecAt.b hr0
  dsimp only at er hr1 hB ht htop
  subst er
  obtain ⟨qs, h3, h4⟩ := hB.pp.fac
  have etop := hB.top
  show G ⟨g, S0, H⟩ _ (start N_Record_getitem [.ref y.r, .int t]) [] S0
  refine gs_dropI (w_m0 (w_var rfl) hr1 rfl (w_cons (w_var rfl) (w_cons (w_op (w_cb (w_cons (w_fld (w_var rfl) hr1 (cl_Record T) (na_Record_own_ticks T) rfl) w_nil) ((w_lenT (st_of hB.pp.tic)).is (show _ = V.int (R.n : Nat) by rw [rgV_length]; simp))) w_c w_rI0) w_nil)) (v_check_tick (by omega))) ?_
  refine gs_asgI (v := .str (dgS (List.range (R.top + 1)))) ((w_sl w_c w_po0 (w_po1 (w_op (w_fld (w_var rfl) hr1 (cl_Record T) (na_Record_own_top T) rfl) w_c w_rI0)) (w_slS (by decide +kernel))).is ?_) ?_
  · rw [etop, slice_dig _ htop]
  refine gs_for (Rs := fun ys _ => ys = qs.map V.ref) (w_iT (w_fld (w_var rfl) hr1 (cl_Record T) (na_Record_own_facts T) rfl) (st_of h3)) fun ys S1 e1 ey => ?_
  subst ey
  have e0 : ((List.range (R.top + 1)).filter fun d => (R.fs.take 0).all (Rec.lets t d)) = List.range (R.top + 1) := List.filter_eq_self.mpr (by simp)
  have key : ∀ (i : Nat) (f : Fact), R.fs[i]? = some f → ((List.range (R.top + 1)).filter fun d => (R.fs.take (i + 1)).all (Rec.lets t d)) = ((List.range (R.top + 1)).filter fun d => (R.fs.take i).all (Rec.lets t d)).filter fun d => Rec.lets t d f := fun i f hf => by
    rw [List.filter_filter, take_next hf]
    congr 1
    funext d
    rw [List.all_append, Bool.and_comm]
    simp
  have keyT : ∀ (i : Nat) (f : Fact), R.fs[i]? = some f → (∀ d, Rec.lets t d f = true) → ((List.range (R.top + 1)).filter fun d => (R.fs.take (i + 1)).all (Rec.lets t d)) = ((List.range (R.top + 1)).filter fun d => (R.fs.take i).all (Rec.lets t d)) := fun i f hf h => by
    rw [key i f hf]
    exact List.filter_eq_self.mpr fun d _ => h d
  refine ⟨fun i σ' m' K' => (∃ a b c, σ' = [some (.ref y.r), some (.int t), some (.str (dgS ((List.range (R.top + 1)).filter fun d => (R.fs.take i).all (Rec.lets t d)))), a, b, c, none]) ∧ m' = [] ∧ Ex S1 K', ⟨⟨none, none, none, by rw [e0]; rfl⟩, rfl, .refl _⟩, fun _ _ _ _ h => h.2.2, ?_, fun σ' m' K' ⟨⟨a, b, c, es⟩, em, e2⟩ => ?_⟩
  · rintro i z σ' m' K' hz ⟨⟨a, b, c, es⟩, em, e2⟩
    subst es em
    obtain ⟨q, f, ez, hf, hq⟩ := h4.get hz
    subst ez
    have hq2 := e2 _ _ (e1 _ _ hq)
    have key := key i f hf
    have keyT := keyT i f hf
    have hll := (List.length_filter_le (fun d => (R.fs.take i).all (Rec.lets t d)) (List.range (R.top + 1)))
    rw [List.length_range] at hll
    generalize ((List.range (R.top + 1)).filter fun d => (R.fs.take i).all (Rec.lets t d)) = L at key keyT hll ⊢
    generalize hL2 : ((List.range (R.top + 1)).filter fun d => (R.fs.take (i + 1)).all (Rec.lets t d)) = L2 at key keyT
    cases f with
    | speeds u l =>
      refine g_tg (tg_t3 (st_of hq2)) (g_ifN (b := true && decide (u = t)) (w_and (w_test (w_op (w_var rfl) w_c (w_eqS (by decide +kernel)))) fun _ => w_test (w_op (w_var rfl) (w_var rfl) w_eqN)) (fun hb => ?_) fun hb => ?_)
      · have hut : u = t := of_decide_eq_true hb
        refine g_asgI (v := .str (dgS L2)) (w_m1R w_c (w_lcF (ys := L) (h := fun d => V.str (dg1 d)) (f := fun d => V.str (dg1 d)) (p := fun d => decide (d ∈ l)) ((w_iS (w_var rfl)).imp fun J S e ⟨ys, h1, h2⟩ => ⟨ys, h1, h2.trans (dgS_sgL L)⟩) (by omega) fun i d S hd e => ⟨_, tg_name, rfl, w_test (w_op (w_var rfl) (w_var rfl) ((w_inSign (c := 48 + d)).is (by rw [dg_in]))), fun _ => w_var rfl⟩) fun v S e ⟨p, ev, _, hs⟩ => ?_) ?_
        · rw [ev]
          have e5 : (L.filter fun d => Rec.lets t d (.speeds u l)) = L.filter fun d => decide (d ∈ l) := by
            congr 1
            funext d
            simp [Rec.lets, hut]
          refine (w_join (a := Str.ofString "") (ys := (L.filter fun d => decide (d ∈ l)).map dg1) (sq_of (by rw [hs, List.map_map]; rfl)) ?_).is ?_
          · rw [sum_dg1, List.length_map]
            have := List.length_filter_le (fun d => decide (d ∈ l)) L
            show _ + _ * 0 ≤ _
            omega
          · rw [join_dg, key, e5]
        · exact g_turn ⟨⟨some (.str "speeds"), some (.int u), some (.str (dgS l)), by rw [hL2]; rfl⟩, rfl, e2⟩
      · have hut : ¬ u = t := of_decide_eq_false hb
        refine g_turn ⟨⟨some (.str "speeds"), some (.int u), some (.str (dgS l)), ?_⟩, rfl, e2⟩
        rw [hL2, keyT fun d => by simp [Rec.lets, hut]]
        rfl
    | passed u l =>
      refine g_tg (tg_t3 (st_of hq2)) (g_ifF (b := false && false) (w_and (w_test (w_op (w_var rfl) w_c (w_eqS (by decide +kernel)))) fun z => by cases z) rfl (g_turn ⟨⟨some (.str "passed"), some (.int u), some (.int l), ?_⟩, rfl, e2⟩))
      rw [hL2, keyT fun d => rfl]
      rfl
    | showed u l =>
      refine g_tg (tg_t3 (st_of hq2)) (g_ifF (b := false && false) (w_and (w_test (w_op (w_var rfl) w_c (w_eqS (by decide +kernel)))) fun z => by cases z) rfl (g_turn ⟨⟨some (.str "showed"), some (.int u), some (.int l), ?_⟩, rfl, e2⟩))
      rw [hL2, keyT fun d => rfl]
      rfl
    | jumped u l =>
      refine g_tg (tg_t3 (st_of hq2)) (g_ifF (b := false && false) (w_and (w_test (w_op (w_var rfl) w_c (w_eqS (by decide +kernel)))) fun z => by cases z) rfl (g_turn ⟨⟨some (.str "jumped"), some (.int u), some (.bl l), ?_⟩, rfl, e2⟩))
      rw [hL2, keyT fun d => rfl]
      rfl
  subst es em
  refine g_weak (e1.trans e2) (.refl _) (g_retI (v := .str (dgS (R.left t))) ((w_var rfl).is ?_) hQ fun S e => rfl)
  rw [List.length_map, h4.1, List.take_length]
  rfl)

theorem v_facts {r : Addr} {R : Rec} (h : RecAt K S r R) : SpW g (sp_Record_facts K) [.ref r] S (fun v S' => ∃ p qs, v = .ref p ∧ S' p = some (.lst (qs.map V.ref)) ∧ FactsAt S' qs R.fs) := w_pr (r, R) (fun _ e => h.mono e) fun _ _ _ _ _ h => h
theorem v_left {r : Addr} {R : Rec} {t : Nat} (h : RecAt K S r R) (ht : t < R.n) (h9 : R.top ≤ 9) : SpW g (sp_Record_getitem K) [.ref r, .int t] S (Is (.str (dgS (R.left t)))) := w_pr (r, R, t) (fun _ e => ⟨h.mono e, ht, h9⟩) fun _ _ _ _ _ h => h
def sp_Record_agrees_at (K : PySem.W.Frag) : Sp := Pr (ι := Addr × Rec × Nat × Addr × Pl) (fun x => [.ref x.1, .int x.2.2.1, .ref x.2.2.2.1]) (fun _ x S => RecAt K S x.1 x.2.1 ∧ x.2.1.M.Ok ∧ S x.2.2.2.1 = some (.tup [.int x.2.2.2.2.1, .int x.2.2.2.2.2]) ∧ 0 ≤ x.2.2.2.2.1) (fun x _ v _ => v = .bl (x.2.1.agreesAt x.2.2.1 x.2.2.2.2))
theorem m_Record_agrees_at (T : Txt K mg) : C8.Met P w K mg base 4 (He.ga K "Record") "agrees_at" (sp_Record_agrees_at K) [] := mk_Record_agrees_at T (pr_len (ps := ["self", "mark", "place"]) fun _ => rfl) (Bd.bs fun cdv A outer s H Q E hr => by
  have hu := hu_of hr
  have nd := sc_Record_agrees_at.nd
  refine ⟨_, (pss_cons (ps_for PassesOwn.never rfl (piT (K := K) rfl (peFld (K := K) rfl (pv 0) rfl)) (pgTup (K := K) rfl rfl (pgs_cons (pg_name (i := 3) nd rfl (by first | exact .inl rfl | exact .inr rfl)) (pgs_cons (pg_name (i := 4) nd rfl (by first | exact .inl rfl | exact .inr rfl)) (pgs_cons (pg_name (i := 5) nd rfl (by first | exact .inl rfl | exact .inr rfl)) pgs_nil))))
      (pss_cons (ps_if (PW.pt (pw_and (pt_cmpR op_eq (pv 4) (pv 1) (nomark _)) (pw_and (pt_cmpR op_eq (pv 3) pe_str (nomark _)) (pw_and1 (pt_cmpR op_ne (pv 5) (pe_ix (ixT (K := K) rfl) (pv 2) pe_int (fun _ _ => rfl)) (nomark _)))))) (pss_one (ps_ret pe_bl)) pss_nil)
      (pss_one (ps_if (PW.pt (pw_and (pt_cmpR op_eq (pv 4) (pv 1) (nomark _)) (pw_and (pt_cmpR op_eq (pv 3) pe_str (nomark _)) (pw_and1 (pt_cmpR op_ne (pv 5) (C8.pe_mt (m_Meter_price_at (K := K) T) hr (by decide) (peFld (K := K) rfl (pv 0) rfl) (pa_cons (pe_ix (ixT (K := K) rfl) (pv 2) pe_int (fun _ _ => rfl)) pa_nil)) (nomark _)))))) (pss_one (ps_ret pe_bl)) pss_nil))))
      (pss_one (ps_ret pe_bl))), fun g S0 x hp hQ => ?_⟩
  obtain ⟨r, R, t, pq, cc, ww⟩ := x
  obtain ⟨hr0, ok, hpq, hcc⟩ := hp
  obtain ⟨y, er, hr1, hB⟩ := RecAt.b hr0
  dsimp only at er hr1 hB ok hpq hcc
  subst er
  obtain ⟨qs, h3, h4⟩ := hB.pp.fac
  obtain ⟨mdx, mn, mt, mu, md, hm1, _⟩ := id hB.pp.met
  show G ⟨g, S0, H⟩ _ (start N_Record_agrees_at [.ref y.r, .int t, .ref pq]) [] S0
  refine gs_for (Rs := fun ys _ => ys = qs.map V.ref) (w_iT (w_fld (w_var rfl) hr1 (cl_Record T) (na_Record_own_facts T) rfl) (st_of h3)) fun ys S1 e1 ey => ?_
  subst ey
  refine ⟨fun i σ' m' K' => (∃ a b c, σ' = [some (.ref y.r), some (.int t), some (.ref pq), a, b, c] ∧ (R.fs.take i).all (R.holdsAt t (cc, ww)) = true) ∧ m' = [] ∧ Ex S1 K', ⟨⟨none, none, none, rfl, by rw [List.take_zero]; rfl⟩, rfl, .refl _⟩, fun _ _ _ _ h => h.2.2, ?_, fun σ' m' K' ⟨⟨a, b, c, es, hall⟩, em, e2⟩ => ?_⟩
  · rintro i z σ' m' K' hz ⟨⟨a, b, c, es, hall⟩, em, e2⟩
    subst es em
    obtain ⟨q, f, ez, hf, hq⟩ := h4.get hz
    subst ez
    have hq2 := e2 _ _ (e1 _ _ hq)
    have eK := e1.trans e2
    have hstop : R.holdsAt t (cc, ww) f = false → (.bl false : V) = .bl (R.agreesAt t (cc, ww)) := fun h => congrArg V.bl (all_stop hf h).symm
    have hgo := fun h => all_next hf hall (p := R.holdsAt t (cc, ww)) h
    cases f with
    | speeds u l =>
      exact g_tg (tg_t3 (st_of hq2)) (gs_ifF (b := decide (u = t) && (false && false)) (w_and (w_test (w_op (w_var rfl) (w_var rfl) w_eqN)) fun _ => w_and (w_test (w_op (w_var rfl) w_c (w_eqS (by decide +kernel)))) fun z => by cases z) (by simp)
        (g_ifF (b := decide (u = t) && (false && false)) (w_and (w_test (w_op (w_var rfl) (w_var rfl) w_eqN)) fun _ => w_and (w_test (w_op (w_var rfl) w_c (w_eqS (by decide +kernel)))) fun z => by cases z) (by simp) (g_turn ⟨⟨_, _, _, rfl, hgo rfl⟩, rfl, e2⟩)))
    | jumped u l =>
      exact g_tg (tg_t3 (st_of hq2)) (gs_ifF (b := decide (u = t) && (false && false)) (w_and (w_test (w_op (w_var rfl) (w_var rfl) w_eqN)) fun _ => w_and (w_test (w_op (w_var rfl) w_c (w_eqS (by decide +kernel)))) fun z => by cases z) (by simp)
        (g_ifF (b := decide (u = t) && (false && false)) (w_and (w_test (w_op (w_var rfl) (w_var rfl) w_eqN)) fun _ => w_and (w_test (w_op (w_var rfl) w_c (w_eqS (by decide +kernel)))) fun z => by cases z) (by simp) (g_turn ⟨⟨_, _, _, rfl, hgo rfl⟩, rfl, e2⟩)))
    | passed u l =>
      refine g_tg (tg_t3 (st_of hq2)) (gs_ifN (b := decide (u = t) && (true && !decide (l = ww))) (w_and (w_test (w_op (w_var rfl) (w_var rfl) w_eqN)) fun _ => w_and (w_test (w_op (w_var rfl) w_c (w_eqS (by decide +kernel)))) fun _ => w_test (w_op (w_var rfl) (w_op (w_var rfl) w_c (w_ixT (st_of (eK _ _ hpq)) rfl)) w_neI)) (fun hb => ?_) fun hb => ?_)
      · refine g_weak eK (.refl _) (g_retI (v := .bl false) w_c hQ fun S e => hstop ?_)
        show (!decide (u = t) || decide (l = ww)) = false
        simpa using hb
      · refine g_ifF (b := decide (u = t) && (false && false)) (w_and (w_test (w_op (w_var rfl) (w_var rfl) w_eqN)) fun _ => w_and (w_test (w_op (w_var rfl) w_c (w_eqS (by decide +kernel)))) fun z => by cases z) (by simp) (g_turn ⟨⟨_, _, _, rfl, hgo ?_⟩, rfl, e2⟩)
        show (!decide (u = t) || decide (l = ww)) = true
        by_cases h1 : u = t <;> by_cases h2 : l = ww <;> simp_all
    | showed u l =>
      refine g_tg (tg_t3 (st_of hq2)) (gs_ifF (b := decide (u = t) && (false && false)) (w_and (w_test (w_op (w_var rfl) (w_var rfl) w_eqN)) fun _ => w_and (w_test (w_op (w_var rfl) w_c (w_eqS (by decide +kernel)))) fun z => by cases z) (by simp) ?_)
      refine g_ifN (b := decide (u = t) && (true && !decide (l = R.M.priceAt cc))) (w_and (w_test (w_op (w_var rfl) (w_var rfl) w_eqN)) fun _ => w_and (w_test (w_op (w_var rfl) w_c (w_eqS (by decide +kernel)))) fun _ => w_test (w_op (w_var rfl) (w_m0 (w_fld (w_var rfl) (eK _ _ hr1) (cl_Record T) (na_Record_own_meter T) rfl) (eK _ _ hm1) rfl (w_cons (w_op (w_var rfl) w_c (w_ixT (st_of (eK _ _ hpq)) rfl)) w_nil) (v_price_at (hB.pp.met.mono eK) ok hcc)) w_neI)) (fun hb => ?_) fun hb => ?_
      · refine g_weak eK (.refl _) (g_retI (v := .bl false) w_c hQ fun S e => hstop ?_)
        show (!decide (u = t) || decide (l = R.M.priceAt cc)) = false
        simpa using hb
      · refine g_turn ⟨⟨_, _, _, rfl, hgo ?_⟩, rfl, e2⟩
        show (!decide (u = t) || decide (l = R.M.priceAt cc)) = true
        by_cases h1 : u = t <;> by_cases h2 : l = R.M.priceAt cc <;> simp_all
  subst es em
  refine g_weak (e1.trans e2) (.refl _) (g_retI (v := .bl true) w_c hQ fun S e => ?_)
  rw [List.length_map, h4.1, List.take_length] at hall
  exact congrArg V.bl hall.symm)

theorem v_agrees_at {r q : Addr} {R : Rec} {t : Nat} {p : Pl} (h : RecAt K S r R) (ok : R.M.Ok) (hq : S q = some (.tup [.int p.1, .int p.2])) (h0 : 0 ≤ p.1) : SpW g (sp_Record_agrees_at K) [.ref r, .int t, .ref q] S (Is (.bl (R.agreesAt t p))) := w_pr (r, R, t, q, p) (fun _ e => ⟨h.mono e, ok, e _ _ hq, h0⟩) fun _ _ _ _ _ h => h
def Fact.told : Fact → V
  | .speeds _ l => .str (dgS l)
  | .passed _ w => .int w
  | .showed _ p => .int p
  | .jumped _ b => .bl b
def Fact.isJ (t : Nat) : Fact → Bool
  | .jumped u _ => decide (u = t)
  | _ => false
def sp_Record_agrees_in (K : PySem.W.Frag) : Sp := Pr (ι := Addr × Rec × Nat × Int × Int) (fun x => [.ref x.1, .int x.2.2.1, .int x.2.2.2.1, .int x.2.2.2.2]) (fun _ x S => RecAt K S x.1 x.2.1 ∧ x.2.1.M.Ok ∧ x.2.1.fs.length ≤ 100) (fun x _ v _ => v = .bl (x.2.1.agreesIn x.2.2.1 x.2.2.2.1 x.2.2.2.2))
theorem m_Record_agrees_in (T : Txt K mg) : C8.Met P w K mg base 2 (He.ga K "Record") "agrees_in" (sp_Record_agrees_in K) [] := mk_Record_agrees_in T (pr_len (ps := ["self", "tick", "count", "goal"]) fun _ => rfl) (Bd.bs fun cdv A outer s H Q E hr => by
  have hu := hu_of hr
  have nd := sc_Record_agrees_in.nd
  refine ⟨_, (pss_cons (ps_set (i := 4) nd rfl (by first | exact .inl rfl | exact .inr rfl) (pe_cmpR op_gt (C8.pe_mt (m_Meter_jumps_at (K := K) T) hr (by decide) (peFld (K := K) rfl (pv 0) rfl) (pa_cons (pv 3) pa_nil)) (C8.pe_mt (m_Meter_jumps_at (K := K) T) hr (by decide) (peFld (K := K) rfl (pv 0) rfl) (pa_cons (pv 2) pa_nil)) (nomark _)))
      (pss_cons (ps_setLc (i := 5) (own := [("fact", 6)]) (g := gName 6) rfl nd rfl rfl (sw_true rfl rfl rfl (by decide +kernel)) (piT (K := K) rfl (peFld (K := K) rfl (pv 0) rfl)) (blkOk_by (own := [("fact", 6)]) (N := N_Record_agrees_in) (sc := d_Record_agrees_in.scope) (by decide +kernel)) (fun _ _ _ _ _ => (pg_name (i := 6) nd rfl (by first | exact .inl rfl | exact .inr rfl))) (fun _ _ _ _ _ => (pts_one (PW.pt (pw_and (pt_cmpR op_eq (pe_ix (ixT (K := K) rfl) (pv 6) pe_int (fun _ _ => rfl)) pe_str (nomark _)) (pw_and1 (pt_cmpR op_eq (pe_ix (ixT (K := K) rfl) (pv 6) pe_int (fun _ _ => rfl)) (pv 1) (nomark _))))))) (fun _ _ _ _ _ => (pe_ix (ixT (K := K) rfl) (pv 6) pe_int (fun _ _ => rfl))))
      (pss_one (ps_ret (pe_callB (cbAll (K := K) rfl rfl) rfl (T.free 50 rfl) bt_all (pa_cons (pe_lc (own := [("tell", 7)]) (g := gName 7) (tt := tYes) rfl nd (piL (K := K) rfl (pv 5)) (blkOk_by (own := [("tell", 7)]) (N := N_Record_agrees_in) (sc := d_Record_agrees_in.scope) (by decide +kernel)) (fun _ _ _ _ _ => (pg_name (i := 7) nd rfl (by first | exact .inl rfl | exact .inr rfl))) (fun _ _ _ _ _ => pts_nil) (fun _ _ _ _ _ => (pe_cmpR op_eq (pv 7) (pv 4) (nomark _)))) pa_nil)))))), fun g S0 x hp hQ => ?_⟩
  obtain ⟨r, R, t, cc, gg⟩ := x
  obtain ⟨hr0, ok, hl⟩ := hp
  obtain ⟨y, er, hr1, hB⟩ := RecAt.b hr0
  dsimp only at er hr1 hB ok hl
  subst er
  obtain ⟨qs, h3, h4⟩ := hB.pp.fac
  obtain ⟨mdx, mn, mt, mu, md, hm1, _⟩ := id hB.pp.met
  show G ⟨g, S0, H⟩ _ (start N_Record_agrees_in [.ref y.r, .int t, .int cc, .int gg]) [] S0
  refine gs_asgI (v := .bl (R.jumps cc gg)) (w_op (w_m0 (w_fld (w_var rfl) hr1 (cl_Record T) (na_Record_own_meter T) rfl) hm1 rfl (by walk_at "w") (v_jumps_at hB.pp.met ok)) (w_m0 (w_fld (w_var rfl) hr1 (cl_Record T) (na_Record_own_meter T) rfl) hm1 rfl (by walk_at "w") (v_jumps_at hB.pp.met ok)) w_rI0) ?_
  have hz1 : (qs.zip R.fs).map (·.1) = qs := List.map_fst_zip (Nat.le_of_eq h4.1)
  have hz2 : (qs.zip R.fs).map (·.2) = R.fs := List.map_snd_zip (Nat.le_of_eq h4.1.symm)
  have hzm : qs.map V.ref = (qs.zip R.fs).map fun a => V.ref a.1 := by
    conv => lhs; rw [← hz1]
    rw [List.map_map]
    rfl
  have hzl : (qs.zip R.fs).length ≤ 100 := by rw [List.length_zip]; omega
  have hmem : ∀ (i : Nat) (a : Addr × Fact), (qs.zip R.fs)[i]? = some a → S0 a.1 = some (.tup a.2.vs) := fun i a ha => by
    obtain ⟨u, v, h1, h2, e⟩ : ∃ u v, qs[i]? = some u ∧ R.fs[i]? = some v ∧ (u, v) = a := by
      rw [List.getElem?_zip_eq_some] at ha
      exact ⟨a.1, a.2, ha.1, ha.2, rfl⟩
    rw [← e]
    exact h4.2 i u v h1 h2
  refine gs_asg (w_lcF (ys := qs.zip R.fs) (h := fun a => .ref a.1) (f := fun a => a.2.told) (p := fun a => a.2.isJ t) ((w_iT (w_fld (w_var rfl) hr1 (cl_Record T) (na_Record_own_facts T) rfl) (st_of h3)).imp fun J S e ⟨ys, k1, k2⟩ => ⟨ys, k1, k2.trans hzm⟩) (by omega) fun i a S ha e => ?_) fun v S1 e1 ⟨p, ev, _, hs⟩ => ?_
  · obtain ⟨q, f⟩ := a
    have hq := e _ _ (hmem i _ ha)
    refine ⟨_, tg_name, rfl, ?_, fun _ => w_op (w_var rfl) w_c (w_ixT (st_of hq) ?_)⟩
    · cases f with
      | jumped u b => exact (w_and (w_test (w_op (w_op (w_var rfl) w_c (w_ixT (st_of hq) rfl)) w_c (w_eqS (c := true) (by decide +kernel)))) fun _ => w_test (w_op (w_op (w_var rfl) w_c (w_ixT (st_of hq) rfl)) (w_var rfl) w_eqN))
      | speeds u b => exact (w_and (b := false) (w_test (w_op (w_op (w_var rfl) w_c (w_ixT (st_of hq) rfl)) w_c (w_eqS (c := false) (by decide +kernel)))) fun z => by cases z)
      | passed u b => exact (w_and (b := false) (w_test (w_op (w_op (w_var rfl) w_c (w_ixT (st_of hq) rfl)) w_c (w_eqS (c := false) (by decide +kernel)))) fun z => by cases z)
      | showed u b => exact (w_and (b := false) (w_test (w_op (w_op (w_var rfl) w_c (w_ixT (st_of hq) rfl)) w_c (w_eqS (c := false) (by decide +kernel)))) fun z => by cases z)
    · cases f <;> rfl
  subst ev
  refine g_retI (v := .bl (((qs.zip R.fs).filter fun a => a.2.isJ t).all fun a => R.holdsIn t cc gg a.2)) (w_allLc (ys := (qs.zip R.fs).filter fun a => a.2.isJ t) (h := fun a => a.2.told) (w_iL (w_var rfl) (sq_of hs)) (by have := List.length_filter_le (fun a : Addr × Fact => a.2.isJ t) (qs.zip R.fs); omega) fun i a S ha e => ⟨_, tg_name, rfl, ?_⟩) hQ fun S e => ?_
  · obtain ⟨q, f⟩ := a
    have hj := (List.mem_filter.mp (List.mem_of_getElem? ha)).2
    cases f with
    | jumped u b =>
      have hu : u = t := of_decide_eq_true hj
      refine (w_op (w_var rfl) (w_var rfl) w_eqB).is ?_
      show V.bl (b == R.jumps cc gg) = .bl (!decide (u = t) || (b == R.jumps cc gg))
      rw [decide_eq_true hu]
      rfl
    | speeds u b => cases hj
    | passed u b => cases hj
    | showed u b => cases hj
  · congr 1
    rw [List.all_filter]
    show _ = R.fs.all (R.holdsIn t cc gg)
    conv => rhs; rw [← hz2]
    rw [List.all_map]
    congr 1
    funext a
    obtain ⟨q, f⟩ := a
    cases f with
    | jumped u b => show (!decide (u = t) || (!decide (u = t) || (b == R.jumps cc gg))) = (!decide (u = t) || (b == R.jumps cc gg)); cases decide (u = t) <;> rfl
    | speeds u b => rfl
    | passed u b => rfl
    | showed u b => rfl)

theorem v_agrees_in {r : Addr} {R : Rec} {t : Nat} {a b : Int} (h : RecAt K S r R) (ok : R.M.Ok) (hl : R.fs.length ≤ 100) : SpW g (sp_Record_agrees_in K) [.ref r, .int t, .int a, .int b] S (Is (.bl (R.agreesIn t a b))) := w_pr (r, R, t, a, b) (fun _ e => ⟨h.mono e, ok, hl⟩) fun _ _ _ _ _ h => h
/-- places in the heap -/
def PlAt (S : Hp) (q : Addr) (p : Pl) : Prop := S q = some (.tup [.int p.1, .int p.2])
def PlsAt (S : Hp) (qs : List Addr) (ps : List Pl) : Prop := qs.length = ps.length ∧ ∀ (i : Nat) q p, qs[i]? = some q → ps[i]? = some p → PlAt S q p
theorem PlAt.mono {S S' : Hp} {q : Addr} {p : Pl} (e : Ex S S') (h : PlAt S q p) : PlAt S' q p := e _ _ h
theorem PlsAt.mono {S S' : Hp} {qs : List Addr} {ps : List Pl} (e : Ex S S') (h : PlsAt S qs ps) : PlsAt S' qs ps := ⟨h.1, fun i q p a b => e _ _ (h.2 i q p a b)⟩
/-- a step: (figure, goal) -/
def StepAt (S : Hp) (v : V) (d : Nat) (p : Pl) : Prop := ∃ a b, v = .ref a ∧ S a = some (.tup [.str (dg1 d), .ref b]) ∧ PlAt S b p
def StepsAt (S : Hp) (vs : List V) (R : Rec) (p : Pl) (ds : List Nat) : Prop := vs.length = ds.length ∧ ∀ (i : Nat) v d, vs[i]? = some v → ds[i]? = some d → StepAt S v d (R.goal p d)
theorem StepAt.mono {S S' : Hp} {v : V} {d : Nat} {p : Pl} (e : Ex S S') (h : StepAt S v d p) : StepAt S' v d p := by
  obtain ⟨a, b, h1, h2, h3⟩ := h
  exact ⟨a, b, h1, e _ _ h2, e _ _ h3⟩
theorem StepsAt.mono {S S' : Hp} {vs : List V} {R : Rec} {p : Pl} {ds : List Nat} (e : Ex S S') (h : StepsAt S vs R p ds) : StepsAt S' vs R p ds := ⟨h.1, fun i v d a b => (h.2 i v d a b).mono e⟩
theorem StepsAt.snoc {S : Hp} {vs : List V} {R : Rec} {p : Pl} {ds : List Nat} {v : V} {d : Nat} (h : StepsAt S vs R p ds) (hv : StepAt S v d (R.goal p d)) : StepsAt S (vs ++ [v]) R p (ds ++ [d]) := by
  refine ⟨by rw [List.length_append, List.length_append, h.1]; rfl, fun i u c hi hj => ?_⟩
  by_cases z : i < vs.length
  · rw [List.getElem?_append_left z] at hi
    rw [List.getElem?_append_left (by rw [← h.1]; exact z)] at hj
    exact h.2 i u c hi hj
  · rw [List.getElem?_append_right (by omega)] at hi
    rw [List.getElem?_append_right (by rw [← h.1]; omega), ← h.1] at hj
    have h0 : i - vs.length = 0 := by
      have := (List.getElem?_eq_some_iff.mp hi).1
      rw [List.length_singleton] at this
      omega
    rw [h0] at hi hj
    cases hi
    cases hj
    exact hv
theorem StepsAt.get {S : Hp} {vs : List V} {R : Rec} {p : Pl} {ds : List Nat} (h : StepsAt S vs R p ds) {i : Nat} {v : V} (hi : vs[i]? = some v) : ∃ d, ds[i]? = some d ∧ StepAt S v d (R.goal p d) := by
  have hl := (List.getElem?_eq_some_iff.mp hi).1
  have hd := List.getElem?_eq_getElem (h.1 ▸ hl : i < ds.length)
  exact ⟨_, hd, h.2 i v _ hi hd⟩
theorem Rec.left_le {R : Rec} {t : Nat} (h9 : R.top ≤ 9) : (R.left t).length ≤ 10 ∧ ∀ d ∈ R.left t, d ≤ 9 := by
  refine ⟨?_, fun d hd => ?_⟩
  · have := List.length_filter_le (fun d => R.fs.all (Rec.lets t d)) (List.range (R.top + 1))
    rw [List.length_range] at this
    show (List.filter _ _).length ≤ 10
    omega
  · have := List.mem_range.mp (List.mem_filter.mp hd).1
    omega
def sp_Record_steps_from (K : PySem.W.Frag) : Sp := Pr (ι := Addr × Rec × Nat × Addr × Pl) (fun x => [.ref x.1, .int x.2.2.1, .ref x.2.2.2.1]) (fun _ x S => RecAt K S x.1 x.2.1 ∧ (x.2.1.M.Ok ∧ x.2.1.top ≤ 9 ∧ x.2.1.fs.length ≤ 100) ∧ x.2.2.1 < x.2.1.n ∧ PlAt S x.2.2.2.1 x.2.2.2.2 ∧ 0 ≤ x.2.2.2.2.1) (fun x _ v S => ∃ p vs, v = .ref p ∧ S p = some (.lst vs) ∧ StepsAt S vs x.2.1 x.2.2.2.2 (x.2.1.steps x.2.2.1 x.2.2.2.2))
theorem m_Record_steps_from (T : Txt K mg) : C8.Met P w K mg base 7 (He.ga K "Record") "steps_from" (sp_Record_steps_from K) [] := mk_Record_steps_from T (pr_len (ps := ["self", "tick", "place"]) fun _ => rfl) (Bd.bs fun cdv A outer s H Q E hr => by
  have hu := hu_of hr
  have nd := sc_Record_steps_from.nd
  refine ⟨_, (pss_cons (ps_set (i := 3) nd rfl (by first | exact .inl rfl | exact .inr rfl) (pe_lst pa_nil))
      (pss_cons (ps_for PassesOwn.never rfl (pi_str (pe_ownIx (m_Record_getitem (K := K) T) (ix_Record (K := K) T) hr (by decide) (pv 0) (pv 1))) (pg_name (i := 4) nd rfl (by first | exact .inl rfl | exact .inr rfl))
      (pss_cons (ps_set (i := 5) nd rfl (by first | exact .inl rfl | exact .inr rfl) (pe_tup (pa_cons (C8.pe_mt (m_Meter_count_on (K := K) T) hr (by decide) (peFld (K := K) rfl (pv 0) rfl) (pa_cons (pe_ix (ixT (K := K) rfl) (pv 2) pe_int (fun _ _ => rfl)) (pa_cons (pe_callTy call_int_str rfl (T.free 59 rfl) bt_int (pa_cons (pv 4) pa_nil)) pa_nil))) (pa_cons (pe_op op_add (pe_ix (ixT (K := K) rfl) (pv 2) pe_int (fun _ _ => rfl)) (pe_callTy call_int_str rfl (T.free 59 rfl) bt_int (pa_cons (pv 4) pa_nil))) pa_nil))))
      (pss_one (ps_if (PW.pt (pw_and (pt_val (C8.pe_mt (m_Record_agrees_in (K := K) T) hr (by decide) (pv 0) (pa_cons (pv 1) (pa_cons (pe_ix (ixT (K := K) rfl) (pv 2) pe_int (fun _ _ => rfl)) (pa_cons (pe_ix (ixT (K := K) rfl) (pv 5) pe_int (fun _ _ => rfl)) pa_nil))))) (pw_and1 (pt_val (C8.pe_mt (m_Record_agrees_at (K := K) T) hr (by decide) (pv 0) (pa_cons (pe_op op_add (pv 1) pe_int) (pa_cons (pv 5) pa_nil))))))) (pss_one (ps_expr (peBm (K := K) rfl PySem.F.plainAttrs_list PySem.F.slot_list_append PySem.F.type_list_append mt_append (pv 3) (pa_cons (pe_tup (pa_cons (pv 4) (pa_cons (pv 5) pa_nil))) pa_nil)))) pss_nil))))
      (pss_one (ps_ret (pv 3))))), fun g S0 x hp hQ => ?_⟩
  obtain ⟨r, R, t, pq, pl⟩ := x
  obtain ⟨hr0, ⟨ok, htop, hl⟩, ht, hpq, hcc⟩ := hp
  dsimp only at hr0 ok htop hl ht hpq hcc
  obtain ⟨y, er, hr1, hB⟩ := RecAt.b hr0
  subst er
  obtain ⟨mdx, mn, mt, mu, md, hm1, _⟩ := id hB.pp.met
  obtain ⟨hLl, hL9⟩ := Rec.left_le (t := t) htop
  show G ⟨g, S0, H⟩ _ (start N_Record_steps_from [.ref y.r, .int t, .ref pq]) [] S0
  refine gs_newL w_nil (by decide) fun p hp0 hh0 => ?_
  refine gs_for (Rs := fun ys _ => ys = (R.left t).map fun d => V.str (dg1 d)) ((w_iS (w_ownIx (w_var rfl) hr1 (w_var rfl) (v_left hr0 ht htop))).imp fun J S e ⟨ys, h1, h2⟩ => ⟨ys, h1, h2.trans (dgS_sgL _)⟩) fun ys S1 e1 ey => ?_
  subst ey
  refine ⟨fun i σ' m' K' => (∃ a b, σ' = [some (.ref y.r), some (.int t), some (.ref pq), some (.ref p), a, b]) ∧ (∃ vs, m' = [(p, .lst vs)] ∧ StepsAt K' vs R pl (((R.left t).take i).filter (R.stepOk t pl))) ∧ Ex S1 K', ⟨⟨none, none, rfl⟩, ⟨[], rfl, rfl, fun i v d h => by cases h⟩, .refl _⟩, fun _ _ _ _ h => h.2.2, ?_, fun σ' m' K' ⟨⟨a, b, es⟩, ⟨vs, em, hvs⟩, e2⟩ => ?_⟩
  · rintro i z σ' m' K' hz ⟨⟨a, b, es⟩, ⟨vs, em, hvs⟩, e2⟩
    subst es em
    obtain ⟨d, hd, ez⟩ : ∃ d, (R.left t)[i]? = some d ∧ z = V.str (dg1 d) := by
      rw [List.getElem?_map] at hz
      cases e : (R.left t)[i]? with
      | none => rw [e] at hz; cases hz
      | some d => rw [e] at hz; exact ⟨d, rfl, (Option.some.inj hz).symm⟩
    subst ez
    have hd9 := hL9 d (List.mem_of_getElem? hd)
    have eK := e1.trans e2
    have hvl : vs.length ≤ 10 := by
      rw [hvs.1]
      have h1 := List.length_filter_le (R.stepOk t pl) ((R.left t).take i)
      have h2 := List.length_take_le' i (R.left t)
      omega
    refine g_name ?_
    refine gs_asg (w_tup (xs := [.int (R.goal pl d).1, .int (R.goal pl d).2]) (w_cons (w_m0 (w_fld (w_var rfl) (eK _ _ hr1) (cl_Record T) (na_Record_own_meter T) rfl) (eK _ _ hm1) rfl (w_cons (w_op (w_var rfl) w_c (w_ixT (st_of (eK _ _ hpq)) rfl)) (w_cons (w_cb (w_cons (w_var rfl) w_nil) (w_intS (int_dg d hd9) (show 1 ≤ 640 by decide))) w_nil)) (v_count_on (hB.pp.met.mono eK) ok hd9))
      (w_cons (w_op (w_op (w_var rfl) w_c (w_ixT (st_of (eK _ _ hpq)) rfl)) (w_cb (w_cons (w_var rfl) w_nil) (w_intS (int_dg d hd9) (show 1 ≤ 640 by decide))) w_rI0) w_nil))) fun v S3 e3 ⟨gq, ev, hgq⟩ => ?_
    subst ev
    have eK3 := eK.trans e3
    have hg0 : 0 ≤ (R.goal pl d).1 := by
      have := worth_in (j := R.M.jumpsAt pl.1) ok hd9
      show 0 ≤ pl.1 + _
      omega
    refine g_ifN (b := R.stepOk t pl d) (w_and (w_tB (w_m0 (w_var rfl) (eK3 _ _ hr1) rfl (w_cons (w_var rfl) (w_cons (w_op (w_var rfl) w_c (w_ixT (st_of (eK3 _ _ hpq)) rfl)) (w_cons (w_op (w_var rfl) w_c (w_ixT (st_of hgq) rfl)) w_nil))) (v_agrees_in (hr0.mono eK3) ok hl))) fun _ => w_tB (w_m0 (w_var rfl) (eK3 _ _ hr1) rfl (w_cons ((w_op (w_var rfl) w_c w_rI0).is (show _ = V.int ((t + 1 : Nat) : Int) from rfl)) (w_cons (w_var rfl) w_nil)) (v_agrees_at (p := R.goal pl d) (hr0.mono eK3) ok hgq hg0))) (fun hb => ?_) fun hb => ?_
    · refine g_app (w_var rfl) (w_tup (xs := [.str (dg1 d), .ref gq]) (by walk_at "w")) (by omega) fun v S4 e4 ⟨a, ev, ha⟩ => ?_
      refine g_turn ⟨⟨_, _, rfl⟩, ⟨_, rfl, ?_⟩, (e2.trans e3).trans e4⟩
      rw [take_next hd, List.filter_append, List.filter_cons_of_pos hb]
      exact ((hvs.mono e3).mono e4).snoc ⟨a, gq, ev, ha, e4 _ _ hgq⟩
    · refine g_turn ⟨⟨_, _, rfl⟩, ⟨_, rfl, ?_⟩, e2.trans e3⟩
      rw [take_next hd, List.filter_append, List.filter_cons_of_neg (by rw [hb]; decide), List.filter_nil, List.append_nil]
      exact hvs.mono e3
  subst es em
  rw [List.length_map, List.take_length] at hvs
  refine g_keepH fun k4 h0 => ?_
  refine g_weak ((e1.trans e2).trans (Ex.new k4)) (.refl _) (g_retP (R := Is (.ref p)) (w_var rfl) hQ fun v S e ev => ⟨p, vs, ev, e _ _ upd_same, (hvs.mono (Ex.new k4)).mono e⟩))

theorem v_steps {r q : Addr} {R : Rec} {t : Nat} {p : Pl} (h : RecAt K S r R) (ok : R.Ok) (ht : t < R.n) (hq : PlAt S q p) (h0 : 0 ≤ p.1) : SpW g (sp_Record_steps_from K) [.ref r, .int t, .ref q] S (fun v S' => ∃ p' vs, v = .ref p' ∧ S' p' = some (.lst vs) ∧ StepsAt S' vs R p (R.steps t p)) :=
  w_pr (r, R, t, q, p) (fun _ e => ⟨h.mono e, ⟨ok.m, ok.t1.2, by have := ok.fl; show R.fs.length ≤ 100; omega⟩, ht, hq.mono e, h0⟩) fun _ _ _ _ _ h => h
def sp_Record_begins (K : PySem.W.Frag) : Sp := Pr (ι := Addr × Rec) (fun x => [.ref x.1]) (fun _ x S => RecAt K S x.1 x.2 ∧ x.2.M.Ok) (fun x _ v S => ∃ p qs, v = .ref p ∧ S p = some (.lst (qs.map V.ref)) ∧ PlsAt S qs x.2.begins)
theorem m_Record_begins (T : Txt K mg) : C8.Met P w K mg base 5 (He.ga K "Record") "begins" (sp_Record_begins K) [] := mk_Record_begins T (pr_len (ps := ["self"]) fun _ => rfl) (Bd.bs fun cdv A outer s H Q E hr => by
  have hu := hu_of hr
  have nd := sc_Record_begins.nd
  refine ⟨_, (pss_one (ps_ret (pe_ifExp (pt_val (C8.pe_mt (m_Record_agrees_at (K := K) T) hr (by decide) (pv 0) (pa_cons pe_int (pa_cons (pe_tup (pa_cons pe_int (pa_cons pe_int pa_nil))) pa_nil)))) (pe_lst (pa_cons (pe_tup (pa_cons pe_int (pa_cons pe_int pa_nil))) pa_nil)) (pe_lst pa_nil)))), fun g S0 x hp hQ => ?_⟩
  obtain ⟨r, R⟩ := x
  obtain ⟨hr0, ok⟩ := hp
  dsimp only at hr0 ok
  obtain ⟨y, er, hr1, hB⟩ := RecAt.b hr0
  subst er
  refine g_retP (w_if (a := R.agreesAt 0 (0, 0)) (w_tB (w_mR (w_var rfl) hr1 rfl (Ra := fun vs S => ∃ q, vs = [.int 0, .ref q] ∧ PlAt S q (0, 0)) (w_consR (w_c (v := .int 0)) fun x0 S e0 ex0 => w_consR (w_tup (xs := [.int 0, .int 0]) (by walk_at "w")) fun v S e ⟨q, ev, hq⟩ => w_nilR fun S2 e2 => ⟨q, by rw [ev, ex0], e2 _ _ hq⟩) fun vs S e ⟨q, ev, hq⟩ => ev ▸ v_agrees_at (p := (0, 0)) (hr0.mono e) ok hq (Int.le_refl _))) (fun hb => ?_) fun hb => ?_) hQ fun v S e hv => hv
  · refine w_lstR (Ra := fun xs S => ∃ q, xs = [.ref q] ∧ PlAt S q (0, 0)) (w_consR (w_tup (xs := [.int 0, .int 0]) (by walk_at "w")) fun v S e ⟨q, ev, hq⟩ => w_nilR fun S2 e2 => ⟨q, by rw [ev], e2 _ _ hq⟩) fun xs S e ⟨q, ex, hq⟩ => ⟨by rw [ex]; exact (by decide : 1 ≤ 1000), fun p hp => ⟨p, [q], rfl, by rw [upd_same, ex]; rfl, ?_⟩⟩
    unfold Rec.begins
    rw [if_pos hb]
    refine ⟨rfl, fun i a b ha hb => ?_⟩
    match i, ha, hb with
    | 0, ha, hb => cases ha; cases hb; exact (Ex.new hp) _ _ hq
  · refine (w_lst (xs := []) w_nil).imp fun v S e ⟨p, ev, hp⟩ => ⟨p, [], ev, hp, ?_⟩
    unfold Rec.begins
    rw [if_neg (by rw [hb]; decide)]
    exact ⟨rfl, fun i a b ha hb => by cases ha⟩)

theorem v_begins {r : Addr} {R : Rec} (h : RecAt K S r R) (ok : R.M.Ok) : SpW g (sp_Record_begins K) [.ref r] S (fun v S' => ∃ p qs, v = .ref p ∧ S' p = some (.lst (qs.map V.ref)) ∧ PlsAt S' qs R.begins) := w_pr (r, R) (fun _ e => ⟨h.mono e, ok⟩) fun _ _ _ _ _ h => h
end
end Cm

/-! ## P2 -/
set_option maxHeartbeats 4000000
/-! Dicts of numbers by places, in plain words; how numbers_ahead goes. -/
namespace Cm
open PySem PySem.Spec PyProof.Rows L2 Evl
abbrev Dp := List (Pl × Int)
def pk (p : Pl) : List Key := [.inl p.1, .inl p.2]
theorem pk_inj {p q : Pl} : pk p = pk q ↔ p = q := by
  constructor
  · intro h
    have h : ([.inl p.1, .inl p.2] : List Key) = [.inl q.1, .inl q.2] := h
    injection h with h1 h2
    injection h2 with h2 h3
    injection h1 with h1
    injection h2 with h2
    exact Prod.ext h1 h2
  · exact fun h => by rw [h]
def enc (D : Dp) : List (List Key × V) := D.map fun e => (pk e.1, .int e.2)
namespace Dp
def get (D : Dp) (p : Pl) : Option Int := (D.find? fun e => decide (e.1 = p)).map (·.2)
def get0 (D : Dp) (p : Pl) : Int := (D.get p).getD 0
def put (D : Dp) (p : Pl) (n : Int) : Dp := if D.any fun e => decide (e.1 = p) then D.map fun e => if e.1 = p then (e.1, n) else e else D ++ [(p, n)]
end Dp
theorem enc_len (D : Dp) : (enc D).length = D.length := List.length_map _
theorem enc_get (D : Dp) (p : Pl) : valV (enc D) (pk p) = (D.get p).map V.int := by
  unfold valV enc Dp.get
  rw [List.find?_map]
  have e : ((fun kv : List Key × V => decide (kv.1 = pk p)) ∘ fun e : Pl × Int => (pk e.1, V.int e.2)) = fun e : Pl × Int => decide (e.1 = p) := by
    funext e
    exact decide_eq_decide.mpr pk_inj
  rw [e]
  cases D.find? fun e => decide (e.1 = p) <;> rfl
theorem enc_put (D : Dp) (p : Pl) (n : Int) : putK (enc D) (pk p) (.int n) = enc (D.put p n) := by
  unfold putK Dp.put
  have e : (enc D).any (fun kv => decide (kv.1 = pk p)) = D.any fun e => decide (e.1 = p) := by
    unfold enc
    rw [List.any_map]
    congr 1
    funext e
    exact decide_eq_decide.mpr pk_inj
  rw [e]
  cases D.any fun e => decide (e.1 = p) with
  | true =>
    rw [if_pos rfl, if_pos rfl]
    unfold enc
    rw [List.map_map, List.map_map]
    refine List.map_congr_left fun e _ => ?_
    show (if pk e.1 = pk p then (pk e.1, V.int n) else (pk e.1, .int e.2)) = (pk (if e.1 = p then (e.1, n) else e).1, .int (if e.1 = p then (e.1, n) else e).2)
    by_cases h : e.1 = p
    · rw [if_pos h, if_pos (pk_inj.mpr h)]
    · rw [if_neg h, if_neg (fun z => h (pk_inj.mp z))]
  | false =>
    rw [if_neg (by decide), if_neg (by decide)]
    unfold enc
    rw [List.map_append]
    rfl
namespace Dp
theorem get_put (D : Dp) (p q : Pl) (n : Int) : (D.put p n).get q = if q = p then some n else D.get q := by
  have h := valV_put (enc D) (pk p) (pk q) (.int n)
  rw [enc_put, enc_get, enc_get] at h
  by_cases z : q = p
  · rw [if_pos z]
    rw [if_pos (pk_inj.mpr z)] at h
    cases e : (D.put p n).get q with
    | none => rw [e] at h; cases h
    | some x => rw [e] at h; cases h; rfl
  · rw [if_neg z]
    rw [if_neg (fun y => z (pk_inj.mp y))] at h
    cases e : (D.put p n).get q <;> cases e2 : D.get q <;> rw [e, e2] at h <;> cases h <;> rfl
theorem get_mem {D : Dp} {p : Pl} {n : Int} (h : D.get p = some n) : (p, n) ∈ D := by
  unfold get at h
  obtain ⟨e, he, en⟩ := Option.map_eq_some_iff.mp h
  have h1 := List.mem_of_find?_eq_some he
  have h2 : e.1 = p := by simpa using List.find?_some he
  rw [← h2, ← en]
  exact h1
theorem mem_get {D : Dp} (nd : (D.map (·.1)).Nodup) {p : Pl} {n : Int} (h : (p, n) ∈ D) : D.get p = some n := by
  unfold get
  induction D with
  | nil => cases h
  | cons e D ih =>
    have nd := List.nodup_cons.mp nd
    rcases List.mem_cons.mp h with z | z
    · rw [← z, List.find?_cons_of_pos (by simp)]
      rfl
    · have : e.1 ≠ p := fun y => nd.1 (by show e.1 ∈ _; rw [y]; exact List.mem_map.mpr ⟨_, z, rfl⟩)
      rw [List.find?_cons_of_neg (by simpa using this)]
      exact ih nd.2 z
theorem put_keys {D : Dp} {p : Pl} {n : Int} : (D.put p n).map (·.1) = if p ∈ D.map (·.1) then D.map (·.1) else D.map (·.1) ++ [p] := by
  unfold put
  have e : (D.any fun e => decide (e.1 = p)) = decide (p ∈ D.map (·.1)) := by
    rw [Bool.eq_iff_iff, List.any_eq_true, decide_eq_true_iff]
    constructor
    · rintro ⟨x, h1, h2⟩
      exact List.mem_map.mpr ⟨x, h1, of_decide_eq_true h2⟩
    · intro h
      obtain ⟨x, h1, h2⟩ := List.mem_map.mp h
      exact ⟨x, h1, decide_eq_true h2⟩
  rw [e]
  by_cases h : p ∈ D.map (·.1)
  · rw [decide_eq_true h, if_pos rfl, if_pos h, List.map_map]
    refine List.map_congr_left fun e _ => ?_
    show (if e.1 = p then (e.1, n) else e).1 = e.1
    by_cases z : e.1 = p
    · rw [if_pos z]
    · rw [if_neg z]
  · rw [decide_eq_false h, if_neg (by decide), if_neg h, List.map_append]
    rfl
/-- a dict whose keys lie within bounds -/
structure Bx (a b : Nat) (D : Dp) : Prop where
  nd : (D.map (·.1)).Nodup
  bx : ∀ p ∈ D.map (·.1), (0 ≤ p.1 ∧ p.1 ≤ (a : Int)) ∧ (0 ≤ p.2 ∧ p.2 ≤ (b : Int))
theorem Bx.put {a b : Nat} {D : Dp} {p : Pl} {n : Int} (h : Bx a b D) (hp : (0 ≤ p.1 ∧ p.1 ≤ (a : Int)) ∧ (0 ≤ p.2 ∧ p.2 ≤ (b : Int))) : Bx a b (D.put p n) := by
  by_cases z : p ∈ D.map (·.1)
  · exact ⟨by rw [put_keys, if_pos z]; exact h.nd, by rw [put_keys, if_pos z]; exact h.bx⟩
  · refine ⟨?_, ?_⟩
    · rw [put_keys, if_neg z, List.nodup_append]
      exact ⟨h.nd, by simp, fun x hx y hy e => z (by rw [← List.mem_singleton.mp hy, ← e]; exact hx)⟩
    · rw [put_keys, if_neg z]
      intro q hq
      rcases List.mem_append.mp hq with y | y
      · exact h.bx q y
      · rw [List.mem_singleton.mp y]; exact hp
theorem Bx.nil {a b : Nat} : Bx a b [] := ⟨List.nodup_nil, fun p h => by cases h⟩
theorem Bx.wide {a b a' b' : Nat} {D : Dp} (h : Bx a b D) (ha : a ≤ a') (hb : b ≤ b') : Bx a' b' D := ⟨h.nd, fun p hp => by
  have := h.bx p hp
  omega⟩
theorem Bx.len {a b : Nat} {D : Dp} (h : Bx a b D) : D.length ≤ (b + 1) * (a + 1) := by
  have h1 := nodup_lt ((b + 1) * (a + 1)) ((D.map (·.1)).map fun p => p.2.toNat * (a + 1) + p.1.toNat) ?_ ?_
  · rw [List.length_map, List.length_map] at h1
    exact h1
  · refine List.pairwise_map.mpr (List.Pairwise.imp_of_mem ?_ h.nd)
    intro x y hx hy ne e
    have h1 := h.bx x hx
    have h2 := h.bx y hy
    have hm : (x.2.toNat * (a + 1) + x.1.toNat) % (a + 1) = (y.2.toNat * (a + 1) + y.1.toNat) % (a + 1) := by rw [e]
    have hd : (x.2.toNat * (a + 1) + x.1.toNat) / (a + 1) = (y.2.toNat * (a + 1) + y.1.toNat) / (a + 1) := by rw [e]
    rw [Nat.mul_comm, Nat.mul_add_mod, Nat.mul_comm, Nat.mul_add_mod, Nat.mod_eq_of_lt (by omega), Nat.mod_eq_of_lt (by omega)] at hm
    rw [Nat.mul_comm, Nat.mul_add_div (by omega), Nat.mul_comm, Nat.mul_add_div (by omega), Nat.div_eq_of_lt (by omega), Nat.div_eq_of_lt (by omega)] at hd
    exact ne (Prod.ext (by omega) (by omega))
  · intro x hx
    obtain ⟨p, hp, ep⟩ := List.mem_map.mp hx
    have h1 := h.bx p hp
    rw [← ep]
    have : p.2.toNat * (a + 1) + p.1.toNat < (p.2.toNat + 1) * (a + 1) := by rw [Nat.succ_mul]; omega
    exact Nat.lt_of_lt_of_le this (Nat.mul_le_mul_right _ (by omega))
end Dp
namespace Rec
variable (R : Rec)
/-- one place's steps -/
def addAll (p : Pl) (n : Int) (ds : List Nat) (now : Dp) : Dp := ds.foldl (fun now d => now.put (R.goal p d) (now.get0 (R.goal p d) + n)) now
def goOn (t : Nat) (es D : Dp) : Dp := es.foldl (fun now e => R.addAll e.1 e.2 (R.steps t e.1) now) D
def ahead : Nat → Dp
  | 0 => R.begins.map fun p => (p, 1)
  | t + 1 => R.goOn t (ahead t) []
variable {R}
theorem goal_in (ok : R.Ok) {t : Nat} {p : Pl} {d : Nat} (hd : d ≤ R.top) (hp : (0 ≤ p.1 ∧ p.1 ≤ (60 * t : Nat)) ∧ (0 ≤ p.2 ∧ p.2 ≤ (t * R.top : Nat))) : (0 ≤ (R.goal p d).1 ∧ (R.goal p d).1 ≤ (60 * (t + 1) : Nat)) ∧ (0 ≤ (R.goal p d).2 ∧ (R.goal p d).2 ≤ ((t + 1) * R.top : Nat)) := by
  have hw := worth_in (j := R.M.jumpsAt p.1) ok.m (s := d) (by have := ok.t1; omega)
  have e1 : (R.goal p d).1 = p.1 + (R.M.tabAt (R.M.jumpsAt p.1)).getD d 0 := rfl
  have e2 : (R.goal p d).2 = p.2 + d := rfl
  have e3 : (t + 1) * R.top = t * R.top + R.top := Nat.succ_mul _ _
  rw [e3]
  generalize t * R.top = B at hp ⊢
  rw [e1, e2]
  omega
theorem steps_le {t : Nat} {p : Pl} {d : Nat} (h : d ∈ R.steps t p) : d ≤ R.top := by
  have := List.mem_range.mp (List.mem_filter.mp (List.mem_filter.mp h).1).1
  omega
theorem addAll_bx (ok : R.Ok) {t : Nat} {p : Pl} {n : Int} (hp : (0 ≤ p.1 ∧ p.1 ≤ (60 * t : Nat)) ∧ (0 ≤ p.2 ∧ p.2 ≤ (t * R.top : Nat))) : ∀ (ds : List Nat) (D : Dp), (∀ d ∈ ds, d ≤ R.top) → Dp.Bx (60 * (t + 1)) ((t + 1) * R.top) D → Dp.Bx (60 * (t + 1)) ((t + 1) * R.top) (R.addAll p n ds D)
  | [], _, _, h => h
  | d :: ds, D, hd, h => addAll_bx ok hp ds _ (fun x hx => hd x (List.mem_cons_of_mem _ hx)) (h.put (goal_in ok (hd d List.mem_cons_self) hp))
theorem goOn_bx (ok : R.Ok) {t : Nat} : ∀ (es D : Dp), (∀ e ∈ es, (0 ≤ e.1.1 ∧ e.1.1 ≤ (60 * t : Nat)) ∧ (0 ≤ e.1.2 ∧ e.1.2 ≤ (t * R.top : Nat))) → Dp.Bx (60 * (t + 1)) ((t + 1) * R.top) D → Dp.Bx (60 * (t + 1)) ((t + 1) * R.top) (R.goOn t es D)
  | [], _, _, h => h
  | e :: es, D, he, h => goOn_bx ok es _ (fun x hx => he x (List.mem_cons_of_mem _ hx)) (addAll_bx ok (he e List.mem_cons_self) _ _ (fun d hd => steps_le hd) h)
theorem ahead_bx (ok : R.Ok) : ∀ t, Dp.Bx (60 * t) (t * R.top) (R.ahead t)
  | 0 => by
    unfold ahead begins
    split
    · exact ⟨by simp, by simp⟩
    · exact .nil
  | t + 1 => goOn_bx ok _ _ (fun e he => (ahead_bx ok t).bx e.1 (List.mem_map.mpr ⟨e, he, rfl⟩)) .nil
theorem bx_few (ok : R.Ok) {t : Nat} {D : Dp} (ht : t ≤ R.n) (h : Dp.Bx (60 * t) (t * R.top) D) : D.length ≤ 90000 := by
  refine Nat.le_trans (h.len) (Nat.le_trans (Nat.mul_le_mul ?_ ?_) ok.room)
  · exact Nat.succ_le_succ (Nat.mul_le_mul_right _ ht)
  · exact Nat.succ_le_succ (Nat.mul_le_mul_left _ ht)
end Rec
end Cm

/-! ## E6 -/
set_option maxHeartbeats 4000000
/-! Records: how many beginnings, how many ends. -/
namespace Cm
open PySem PySem.Spec PyProof.Rows L2 Evl
local macro_rules | `(tactic| walk_at "w") => `(tactic| first
  | exact w_c
  | ((refine w_var ?_); rfl)
  | exact w_nil
  | ((refine w_cons (x := ?x) (xs := ?xs) ?h1 ?h2); (case h1 => walk_at "w"); (case h2 => walk_at "w"))
  | ((refine w_op (x := ?x) (y := ?y) ?h1 ?h2 ?h3); (case h1 => walk_at "w"); (case h2 => walk_at "w"); (case h3 => walk_at "w"))
  | exact w_rI0
  | exact w_rU
  | ((refine w_un (x := ?x) ?h1 ?h2); (case h1 => walk_at "w"); (case h2 => walk_at "w"))
  | ((refine w_rEq ?_); rfl)
  | ((refine w_rNe ?_); rfl)
  | ((refine w_test (b := ?b) ?h1); (case h1 => walk_at "w"))
  | ((refine w_tB (b := ?b) ?h1); (case h1 => walk_at "w"))
  | ((refine w_not (a := ?a) ?h1); (case h1 => walk_at "w"))
  | ((refine w_orU (a := ?a) (b := ?b) ?h1 ?h2); (case h1 => walk_at "w"); (case h2 => walk_at "w"))
  | ((refine w_andU (a := ?a) (b := ?b) ?h1 ?h2); (case h1 => walk_at "w"); (case h2 => walk_at "w"))
  | ((refine w_notV (a := ?a) ?h1); (case h1 => walk_at "w"))
  | ((refine w_orVU (a := ?a) (b := ?b) ?h1 ?h2); (case h1 => walk_at "w"); (case h2 => walk_at "w"))
  | ((refine w_andVU (a := ?a) (b := ?b) ?h1 ?h2); (case h1 => walk_at "w"); (case h2 => walk_at "w"))
  | ((refine w_chain1 (x := ?x) (y := ?y) (z := ?z) (p := ?p) (q := ?q) ?h1 ?h2 ?h3 ?h4 ?h5); (case h1 => walk_at "w"); (case h2 => walk_at "w"); (case h3 => walk_at "w"); (case h4 => walk_at "w"); (case h5 => walk_at "w"))
  | exact w_isN
  | exact w_max2
  | exact w_min2
  | exact w_int1
  | exact w_abs
  | (refine w_rI ?_; decide)
  | assumption)

section
variable {P : Program} {w : World} {K : PySem.W.Frag} {mg : Str → Option Value} {base : Heap} {g : Bg} {S : Hp}
theorem g_off {c : Ct} {m : List (Addr × HO)} {K : Hp} {σ : L2.St} {P : L2.St → Hp → Prop} (k : (∀ q ∈ m, K q.1 = none ∧ c.H0 q.1 = none) → G c P σ m K) : G c P σ m K := fun H s => k (fun q hq => ⟨(s.mu q hq).2.1, (s.mu q hq).2.2⟩) H s
theorem Ex.upd0 {S0 K : Hp} {a : Addr} {o : HO} (e : Ex S0 K) (h : S0 a = none) : Ex S0 (upd K a o) := fun b u hb => by
  rw [upd_ne (fun z => by rw [z, h] at hb; cases hb)]
  exact e _ _ hb
/-- set free: what was known before is known -/
theorem Ex.unlock {K1 K3 : Hp} {a : Addr} {u f : HO} (h : K1 a = some u) (e : Ex (upd K1 a f) K3) : Ex K1 (upd K3 a u) := fun b o hb => by
  by_cases z : b = a
  · rw [z] at hb ⊢
    rw [h] at hb
    rw [upd_same, hb]
  · rw [upd_ne z]
    exact e _ _ (by rw [upd_ne z]; exact hb)
theorem rgV_get {n i : Nat} {z : V} (h : (rgV 0 n)[i]? = some z) : i < n ∧ z = .int i := by
  have hl := (List.getElem?_eq_some_iff.mp h).1
  rw [rgV_length] at hl
  refine ⟨by omega, ?_⟩
  unfold rgV at h
  rw [List.getElem?_map, List.getElem?_range (by omega)] at h
  have := Option.some.inj h
  rw [← this]
  show V.int (0 + (i : Int)) = _
  rw [Int.zero_add]
def DpsAt (S0 S : Hp) (as : List Addr) (f : Nat → Dp) : Prop := ∀ (j : Nat) a, as[j]? = some a → S0 a = none ∧ S a = some (.dT (enc (f j)))
theorem DpsAt.mono {S0 S S' : Hp} {as : List Addr} {f : Nat → Dp} (e : Ex S S') (h : DpsAt S0 S as f) : DpsAt S0 S' as f := fun j a ha => ⟨(h j a ha).1, e _ _ (h j a ha).2⟩
theorem enc_at {D : Dp} {j : Nat} {ky : List Key} {x : V} (h : (enc D)[j]? = some (ky, x)) : ∃ e, D[j]? = some e ∧ ky = pk e.1 ∧ x = .int e.2 := by
  unfold enc at h
  rw [List.getElem?_map] at h
  cases q : D[j]? with
  | none => rw [q] at h; cases h
  | some e => rw [q] at h; cases h; exact ⟨e, rfl, rfl, rfl⟩
theorem enc_got {D : Dp} {p : Pl} : (valV (enc D) (pk p)).getD (.int 0) = .int (D.get0 p) := by
  rw [enc_get]
  unfold Dp.get0
  cases D.get p <;> rfl
theorem begins_one {R : Rec} {i : Nat} {p : Pl} (h : R.begins[i]? = some p) : i = 0 ∧ R.begins = [p] := by
  unfold Rec.begins at h ⊢
  split at h
  · rename_i z
    have hl := (List.getElem?_eq_some_iff.mp h).1
    rw [List.length_singleton] at hl
    have : i = 0 := by omega
    subst this
    cases h
    exact ⟨rfl, if_pos z⟩
  · cases h
theorem begins_len {R : Rec} : R.begins.length ≤ 1 := by
  unfold Rec.begins
  split <;> simp
def sp_Record_numbers_ahead (K : PySem.W.Frag) : Sp := Pr (ι := Addr × Rec) (fun x => [.ref x.1]) (fun _ x S => RecAt K S x.1 x.2 ∧ x.2.Ok) (fun x S0 v S => ∃ p as, v = .ref p ∧ S p = some (.lst (as.map V.ref)) ∧ as.length = x.2.n + 1 ∧ DpsAt S0 S as x.2.ahead)
theorem m_Record_numbers_ahead (T : Txt K mg) : C8.Met P w K mg base 8 (He.ga K "Record") "numbers_ahead" (sp_Record_numbers_ahead K) [] := mk_Record_numbers_ahead T (pr_len (ps := ["self"]) fun _ => rfl) (Bd.bs fun cdv A outer s H Q E hr => by
  have hu := hu_of hr
  have nd := sc_Record_numbers_ahead.nd
  refine ⟨_, (pss_cons (ps_set (i := 1) nd rfl (by first | exact .inl rfl | exact .inr rfl) (pe_lst (pa_cons (pe_dcT (own := [("place", 4)]) (g := gName 4) rfl nd hu (piL (K := K) rfl (C8.pe_mt0 (m_Record_begins (K := K) T) hr (by decide) (pv 0))) (blkOk_by (own := [("place", 4)]) (N := N_Record_numbers_ahead) (sc := d_Record_numbers_ahead.scope) (by decide +kernel)) (fun _ _ _ _ _ => (pg_name (i := 4) nd rfl (by first | exact .inl rfl | exact .inr rfl))) (fun _ _ _ _ _ => (pv 4)) (fun _ _ _ _ _ => pe_int)) pa_nil)))
      (pss_cons (ps_for PassesOwn.never rfl (piT (K := K) rfl (peFld (K := K) rfl (pv 0) rfl)) (pg_name (i := 2) nd rfl (by first | exact .inl rfl | exact .inr rfl))
      (pss_cons (ps_set (i := 3) nd rfl (by first | exact .inl rfl | exact .inr rfl) pe_dnewT)
      (pss_cons (ps_lock (ps_for PassesOwn.never rfl (pi_keys (pe_ix (ixL (K := K) rfl) (pv 1) (pe_un un_neg pe_int) (fun _ _ => rfl))) (pg_name (i := 4) nd rfl (by first | exact .inl rfl | exact .inr rfl))
      (pss_one (ps_for PassesOwn.never rfl (piL (K := K) rfl (C8.pe_mt (m_Record_steps_from (K := K) T) hr (by decide) (pv 0) (pa_cons (pv 2) (pa_cons (pv 4) pa_nil)))) (pgTup (K := K) rfl rfl (pgs_cons (pg_name (i := 5) nd rfl (by first | exact .inl rfl | exact .inr rfl)) (pgs_cons (pg_name (i := 6) nd rfl (by first | exact .inl rfl | exact .inr rfl)) pgs_nil)))
      (pss_one (ps_dput hu (pv 3) (pv 6) (pe_op op_add (pe_dget2 hu (pv 3) (pv 6) pe_int ⟨rfl, rfl, rfl, rfl⟩) (pe_dget hu (pe_ix (ixL (K := K) rfl) (pv 1) (pe_un un_neg pe_int) (fun _ _ => rfl)) (pv 4) (fun _ _ => rfl))) rfl))))))
      (pss_one (ps_expr (peBm (K := K) rfl PySem.F.plainAttrs_list PySem.F.slot_list_append PySem.F.type_list_append mt_append (pv 1) (pa_cons (pv 3) pa_nil)))))))
      (pss_one (ps_ret (pv 1))))), fun g S0 x hp hQ => ?_⟩
  obtain ⟨r, R⟩ := x
  obtain ⟨hr0, ok⟩ := hp
  dsimp only at hr0 ok
  obtain ⟨y, er, hr1, hB⟩ := RecAt.b hr0
  subst er
  show G ⟨g, S0, H⟩ _ (start N_Record_numbers_ahead [.ref y.r]) [] S0
  refine gs_newLR (Ra := fun xs S => ∃ a, xs = [.ref a] ∧ S0 a = none ∧ S a = some (.dT (enc (R.ahead 0)))) (w_consR (Ra := fun v S => ∃ a, v = .ref a ∧ S0 a = none ∧ S a = some (.dT (enc (R.ahead 0)))) (w_dcT (Rs := fun xs S => ∃ qs, xs = qs.map V.ref ∧ PlsAt S qs R.begins) (w_iLR (w_m0 (w_var rfl) hr1 rfl w_nil (v_begins hr0 ok.m)) fun v S e ⟨p, qs, ev, hs, hq⟩ => ⟨p, _, ev, sq_of hs, qs, rfl, hq⟩) fun xs S e ⟨qs, ex, hq⟩ => ?_)
    fun v S e ⟨a, ev, h1, h2⟩ => w_nilR fun S2 e2 => ⟨a, by rw [ev], h1, e2 _ _ h2⟩) fun xs S1 e1 ⟨a0, ex, ha0, hs0⟩ => ⟨by rw [ex]; exact (by decide : 1 ≤ 1000), fun p hp0 hh0 => ?_⟩
  · subst ex
    refine ⟨fun i acc S' => acc = enc ((R.begins.take i).map fun p => (p, 1)) ∧ Ex S S', ⟨rfl, .refl _⟩, fun i acc S' ⟨ea, _⟩ => ?_, fun i x acc S' hx e2 ⟨ea, e3⟩ => ?_, fun acc S' p e2 ⟨ea, e3⟩ hp hk => ⟨p, rfl, hk, ?_⟩⟩
    · rw [ea, enc_len, List.length_map]
      have := List.length_take_le' i R.begins
      have := begins_len (R := R)
      omega
    · rw [List.getElem?_map] at hx
      cases eq : qs[i]? with
      | none => rw [eq] at hx; cases hx
      | some q =>
        rw [eq] at hx
        cases hx
        have hi := (List.getElem?_eq_some_iff.mp eq).1
        have hi2 : i < R.begins.length := by rw [← hq.1]; exact hi
        obtain ⟨pl, hb⟩ : ∃ pl, R.begins[i]? = some pl := ⟨_, List.getElem?_eq_getElem hi2⟩
        obtain ⟨e0, eb⟩ := begins_one hb
        subst e0
        refine ⟨_, q, pk pl, .int 1, tg_name, rfl, w_var rfl, e3 _ _ (hq.2 0 q pl eq hb), w_c, fun S2 e4 => ⟨?_, e3.trans e4⟩⟩
        rw [ea, eb]
        rfl
    · rw [upd_same, ea, List.length_map, hq.1, List.take_length]
      rfl
  subst ex
  refine gs_for (Rs := fun ys _ => ys = rgV 0 R.n) (w_iT (w_fld (w_var rfl) (e1 _ _ hr1) (cl_Record T) (na_Record_own_ticks T) rfl) (st_of (e1 _ _ hB.pp.tic))) fun ys S2 e2 ey => ?_
  subst ey
  refine ⟨fun i σ' m' K' => (∃ b c d e f, σ' = [some (.ref y.r), some (.ref p), b, c, d, e, f]) ∧ (∃ as, m' = [(p, .lst (as.map V.ref))] ∧ as.length = i + 1 ∧ DpsAt S0 K' as R.ahead) ∧ Ex S2 K', ⟨⟨none, none, none, none, none, rfl⟩, ⟨[a0], rfl, rfl, fun j a ha => ?_⟩, .refl _⟩, fun _ _ _ _ h => h.2.2, ?_, fun σ' m' K' ⟨⟨b, c, d, e, f, es⟩, ⟨as, em, hal, hd⟩, eK⟩ => ?_⟩
  · match j, ha with
    | 0, ha => cases ha; exact ⟨ha0, e2 _ _ hs0⟩
  · rintro i z σ' m' K' hz ⟨⟨b, c, d, e, f, es⟩, ⟨as, em, hal, hd⟩, eK⟩
    subst es em
    obtain ⟨hi, ez⟩ := rgV_get hz
    subst ez
    refine g_name ?_
    have e0 : Ex S0 K' := (e1.trans e2).trans eK
    refine g_off fun off => ?_
    have hpK : K' p = none := (off _ List.mem_cons_self).1
    have hpS : S0 p = none := e0.free hpK
    refine gs_newT fun q hq hqh => ?_
    refine g_nd fun nd2 => ?_
    have neq : q ≠ p := by simpa using nd2
    refine g_swap ?_
    refine g_keepH fun _ _ => ?_
    obtain ⟨a, hai⟩ : ∃ a, as[i]? = some a := ⟨_, List.getElem?_eq_getElem (show i < as.length by omega)⟩
    obtain ⟨haS, haK⟩ := hd i a hai
    have ap : a ≠ p := fun z => by rw [z, hpK] at haK; cases haK
    have hlast : atI (as.map V.ref) (-1) = some (.ref a) := by
      obtain ⟨us, u, hu⟩ : ∃ us u, as = us ++ [u] := ⟨_, _, (List.dropLast_concat_getLast (fun z => by rw [z] at hal; cases hal)).symm⟩
      have hul : us.length = i := by
        rw [hu, List.length_append, List.length_singleton] at hal
        omega
      rw [hu, List.getElem?_append_right (by omega), hul, Nat.sub_self] at hai
      cases hai
      rw [hu, List.map_append]
      exact atI_last _ _
    have hK1 : upd K' p (.lst (as.map V.ref)) a = some (.dT (enc (R.ahead i))) := by rw [upd_ne ap]; exact haK
    refine g_lock (d := a) (u := .dT (enc (R.ahead i))) hK1 trivial notS_T fun was od => ?_
    have hKp : upd (upd K' p (.lst (as.map V.ref))) a (.frz od (.dT (enc (R.ahead i)))) p = some (.lst (as.map V.ref)) := by rw [upd_ne (Ne.symm ap), upd_same]
    have hKa : upd (upd K' p (.lst (as.map V.ref))) a (.frz od (.dT (enc (R.ahead i)))) a = some (.frz od (.dT (enc (R.ahead i)))) := upd_same
    have eS : Ex S0 (upd (upd K' p (.lst (as.map V.ref))) a (.frz od (.dT (enc (R.ahead i))))) := Ex.upd0 (Ex.upd0 e0 hpS) haS
    have hbx := Rec.ahead_bx ok i
    refine g_forKT (kvs := enc (R.ahead i)) (w_iKT (w_op (w_var rfl) (w_un w_c w_rU) (w_ixL (sq_of hKp) hlast)) hKa) fun S3 e3 => ?_
    refine ⟨fun j σ' m' K'' => (∃ b c d, σ' = [some (.ref y.r), some (.ref p), some (.int i), some (.ref q), b, c, d]) ∧ m' = [(q, .dT (enc (R.goOn i ((R.ahead i).take j) [])))] ∧ Ex S3 K'', ⟨⟨_, _, _, rfl⟩, rfl, .refl _⟩, fun _ _ _ _ h => h.2.2, ?_, fun σ' m' K'' ⟨⟨b, c, d, es⟩, em, e4⟩ => ?_⟩
    · rintro j ky x qk σ' m' K'' hj ⟨⟨b, c, d, es⟩, em, e4⟩ ne eqk
      subst es em
      obtain ⟨⟨pl, n⟩, hje, eky, ex⟩ := enc_at hj
      subst eky ex
      have hmem := List.mem_of_getElem? hje
      have hpl := hbx.bx pl (List.mem_map.mpr ⟨_, hmem, rfl⟩)
      have hget := Dp.mem_get hbx.nd hmem
      refine g_name ?_
      have hqk : PlAt (upd K'' qk (.tup ((pk pl).map kV))) qk pl := upd_same
      generalize upd K'' qk (.tup ((pk pl).map kV)) = K3 at eqk hqk ⊢
      have eA : Ex S0 K3 := ((eS.trans e3).trans e4).trans eqk
      have e34 : Ex _ K3 := (e3.trans e4).trans eqk
      refine g_for (Rs := fun ys S => StepsAt S ys R pl (R.steps i pl)) (w_iLR (w_m0 (w_var rfl) (eA _ _ hr1) rfl (by walk_at "w") (v_steps (hr0.mono eA) ok hi hqk hpl.1.1)) fun v S e ⟨p', vs, ev, hs, hst⟩ => ⟨p', vs, ev, sq_of hs, hst⟩) fun ys S5 e5 hst => ?_
      refine ⟨fun l σ' m' K4 => (∃ c d, σ' = [some (.ref y.r), some (.ref p), some (.int i), some (.ref q), some (.ref qk), c, d]) ∧ m' = [(q, .dT (enc (R.addAll pl n ((R.steps i pl).take l) (R.goOn i ((R.ahead i).take j) []))))] ∧ Ex S5 K4, ⟨⟨_, _, rfl⟩, rfl, .refl _⟩, fun _ _ _ _ h => h.2.2, ?_, fun σ' m' K4 ⟨⟨c, d, es⟩, em, e6⟩ => ?_⟩
      · rintro l v σ' m' K4 hl ⟨⟨c, d, es⟩, em, e6⟩
        subst es em
        obtain ⟨dd, hdd, a1, b1, ev, h1, h2⟩ := hst.get hl
        subst ev
        have hlen : (R.addAll pl n ((R.steps i pl).take l) (R.goOn i ((R.ahead i).take j) [])).length ≤ 90000 := Rec.bx_few ok hi (Rec.addAll_bx ok hpl _ _ (fun x hx => Rec.steps_le (List.mem_of_mem_take hx)) (Rec.goOn_bx ok _ _ (fun e he => hbx.bx e.1 (List.mem_map.mpr ⟨e, List.mem_of_mem_take he, rfl⟩)) .nil))
        have enext : R.addAll pl n ((R.steps i pl).take (l + 1)) (R.goOn i ((R.ahead i).take j) []) = (R.addAll pl n ((R.steps i pl).take l) (R.goOn i ((R.ahead i).take j) [])).put (R.goal pl dd) ((R.addAll pl n ((R.steps i pl).take l) (R.goOn i ((R.ahead i).take j) [])).get0 (R.goal pl dd) + n) := by
          rw [take_next hdd]
          unfold Rec.addAll
          rw [List.foldl_append]
          rfl
        generalize hDD : R.addAll pl n ((R.steps i pl).take l) (R.goOn i ((R.ahead i).take j) []) = DD at hlen enext ⊢
        refine g_tg (tg_t2 (st_of (e6 _ _ h1))) ?_
        have e36 := (e34.trans e5).trans e6
        refine g_dputT (ky := pk (R.goal pl dd)) (R := Is (.int (DD.get0 (R.goal pl dd) + n))) (fun e => w_op (x := .int (DD.get0 (R.goal pl dd))) (y := .int n) ((w_dget2 (w_var rfl) (w_var rfl) w_c (fun H e8 => .inr ⟨_, .inl (e8 _ _ ov_cons)⟩) (fun H e8 => DGet.t (k := pk (R.goal pl dd)) (e8 _ _ ov_cons) (e8 _ _ (e _ _ (e6 _ _ h2))))).is enc_got)
          (w_dget (w_op (w_var rfl) (w_un w_c w_rU) (w_ixL (sq_of (e _ _ (e36 _ _ hKp))) hlast)) (w_var rfl) fun H e8 => .inr ⟨_, pk pl, _, .inr ⟨od, e8 _ _ (e _ _ (e36 _ _ hKa))⟩, rfl, e8 _ _ (e _ _ ((e5.trans e6) _ _ hqk)), by rw [enc_get, hget]; rfl⟩) w_rI0) (fun S => w_var rfl) (fun S => w_var rfl) (e6 _ _ h2) (by rw [enc_len]; omega) fun v S7 e7 e7' ev => ?_
        cases ev
        refine g_turn ⟨⟨_, _, rfl⟩, ?_, e6.trans e7'⟩
        rw [enc_put, enext]
      · subst es em
        refine g_turn ⟨⟨_, _, _, rfl⟩, ?_, ((e4.trans eqk).trans e5).trans e6⟩
        rw [hst.1, List.take_length, take_next hje]
        unfold Rec.goOn
        rw [List.foldl_append]
        rfl
    subst es em
    rw [enc_len, List.take_length]
    refine g_unlock was notS_T (e4 _ _ (e3 _ _ hKa)) ?_
    have eU : Ex (upd K' p (.lst (as.map V.ref))) (upd K'' a (.dT (enc (R.ahead i)))) := Ex.unlock hK1 (e3.trans e4)
    generalize upd K'' a (.dT (enc (R.ahead i))) = K5 at eU ⊢
    refine g_keepH fun k5 h5 => ?_
    have hS2p : S2 p = none := eK.free hpK
    have eU2 := eU.trans (Ex.new (o := .dT (enc (R.goOn i (R.ahead i) []))) k5)
    have hK6p := eU2 p (.lst (as.map V.ref)) upd_same
    have hK6q : upd K5 q (.dT (enc (R.goOn i (R.ahead i) []))) q = some (.dT (enc (R.ahead (i + 1)))) := upd_same
    have eK6 : Ex K' (cut1 (upd K5 q (.dT (enc (R.goOn i (R.ahead i) [])))) p) := fun a o h => by
      rw [cut_ne (fun z => by rw [z, hpK] at h; cases h)]
      exact eU2 _ _ ((Ex.new hpK) _ _ h)
    refine g_take hK6p hpS (fun ys z => by cases z) ?_
    refine g_app (w_var rfl) (w_var rfl : W _ _ _ (Is (.ref q))) (by rw [List.length_map]; have := ok.n1; omega) fun v S7 e7 ev => ?_
    cases ev
    refine g_turn ⟨⟨_, _, _, _, _, rfl⟩, ⟨as ++ [q], by rw [List.map_append]; rfl, by rw [List.length_append, hal]; rfl, fun j a' hj => ?_⟩, (eK.trans eK6).trans e7⟩
    by_cases hjl : j < as.length
    · rw [List.getElem?_append_left hjl] at hj
      exact ⟨(hd j a' hj).1, e7 _ _ (eK6 _ _ (hd j a' hj).2)⟩
    · rw [List.getElem?_append_right (by omega)] at hj
      have hj0 : j - as.length = 0 := by
        have := (List.getElem?_eq_some_iff.mp hj).1
        rw [List.length_singleton] at this
        omega
      rw [hj0] at hj
      cases hj
      have : j = i + 1 := by omega
      subst this
      exact ⟨e0.free hq, e7 _ _ (by rw [cut_ne neq]; exact hK6q)⟩
  subst es em
  refine g_keepH fun k4 h0 => ?_
  refine g_weak (((e1.trans e2).trans eK).trans (Ex.new k4)) (.refl _) (g_retP (R := Is (.ref p)) (w_var rfl) hQ fun v S e ev => ⟨p, as, ev, e _ _ upd_same, ?_, (hd.mono (Ex.new k4)).mono e⟩)
  rw [hal, rgV_length]
  simp)

theorem v_ahead {r : Addr} {R : Rec} (h : RecAt K S r R) (ok : R.Ok) : SpW g (sp_Record_numbers_ahead K) [.ref r] S (fun v S' => ∃ p as, v = .ref p ∧ S' p = some (.lst (as.map V.ref)) ∧ as.length = R.n + 1 ∧ DpsAt S S' as R.ahead) := w_pr (r, R) (fun _ e => ⟨h.mono e, ok⟩) fun K1 v S' e e2 ⟨p, as, h1, h2, h3, h4⟩ => ⟨p, as, h1, h2, h3, fun j a ha => ⟨e.free (h4 j a ha).1, (h4 j a ha).2⟩⟩
theorem w_opR2 {g : Bg} {K : Hp} {σ : L2.St} {ta tb : TE} {r : R2} {y : V} {R Ra : V → Hp → Prop} (ha : W g (ta σ) K Ra) (hb : ∀ S, Ex K S → W g (tb σ) S (Is y)) (hr : ∀ x S, Ex K S → Ra x S → W g (r x y) S R) : W g (tOp r ta tb σ) K R :=
  w_opR ha fun x S e hx => (hb S e).bindI (h := fun y H Q => r x y H Q) (hr x S e hx)
theorem w_valsR {g : Bg} {K : Hp} {σ : L2.St} {te : TE} {Ra R : V → Hp → Prop} (ho : W g (te σ) K Ra) (hr : ∀ x S, Ex K S → Ra x S → ∃ a xs, x = .ref a ∧ (∀ H, Ex S H → DVals H a xs) ∧ ∀ v S', Ex S S' → NewO S (.lst xs) v S' → R v S') : W g (tListVals te σ) K R :=
  ho.bind (h := fun (x : V) (H : Hp) (Q : VK) => ∃ a xs, x = .ref a ∧ DVals H a xs ∧ ∀ p, H p = none → Q (.ref p) (upd H p (.lst xs))) fun x S e hx => by
    obtain ⟨a, xs, ex, hd, k⟩ := hr x S e hx
    subst ex
    exact (w_new (o := .lst xs) fun H e Q q => ⟨a, xs, rfl, hd H e, q⟩ : W g (fun (H : Hp) (Q : VK) => ∃ b xs, V.ref a = .ref b ∧ DVals H b xs ∧ ∀ p, H p = none → Q (.ref p) (upd H p (.lst xs))) S (NewO S (.lst xs))).imp k
def Rec.howMany (R : Rec) : Int := ((R.ahead R.n).map (·.2)).sum
def sp_Record_how_many (K : PySem.W.Frag) : Sp := Pr (ι := Addr × Rec) (fun x => [.ref x.1]) (fun _ x S => RecAt K S x.1 x.2 ∧ x.2.Ok) (fun x S0 v S => v = .int x.2.howMany)
theorem m_Record_how_many (T : Txt K mg) : C8.Met P w K mg base 9 (He.ga K "Record") "how_many" (sp_Record_how_many K) [] := mk_Record_how_many T (pr_len (ps := ["self"]) fun _ => rfl) (Bd.bs fun cdv A outer s H Q E hr => by
  have hu := hu_of hr
  have nd := sc_Record_how_many.nd
  refine ⟨_, (pss_one (ps_ret (pe_callB (cbSum (K := K) rfl rfl) rfl (T.free 57 rfl) bt_sum (pa_cons (pe_listVals rfl rfl (T.free 53 rfl) (pe_ix (ixL (K := K) rfl) (C8.pe_mt0 (m_Record_numbers_ahead (K := K) T) hr (by decide) (pv 0)) (pe_un un_neg pe_int) (fun _ _ => rfl))) pa_nil)))), fun g S0 x hp hQ => ?_⟩
  obtain ⟨r, R⟩ := x
  obtain ⟨hr0, ok⟩ := hp
  dsimp only at hr0 ok
  obtain ⟨y, er, hr1, hB⟩ := RecAt.b hr0
  subst er
  refine g_retP (w_cbR (w_consR (R := fun vs S => ∃ p, vs = [.ref p] ∧ S p = some (.lst (((R.ahead R.n).map (·.2)).map V.int))) (Ra := fun v S => ∃ p, v = .ref p ∧ S p = some (.lst (((R.ahead R.n).map (·.2)).map V.int))) (w_valsR (Ra := fun v S => ∃ a, v = .ref a ∧ S a = some (.dT (enc (R.ahead R.n)))) (w_opR2 (w_m0 (w_var rfl) hr1 rfl w_nil (v_ahead hr0 ok)) (fun S e => w_un w_c w_rU) fun x S e ⟨p, as, ev, hs, hl, hd⟩ => ?_) fun x S e ⟨a, ev, ha⟩ => ⟨a, _, ev, fun H e2 => .inr ⟨_, .inl (e2 _ _ ha), rfl⟩, fun v S' e3 ⟨p, ev, _, hp⟩ => ⟨p, ev, ?_⟩⟩) fun v S e ⟨p, ev, hp⟩ => w_nilR fun S2 e2 => ⟨p, by rw [ev], e2 _ _ hp⟩) fun vs S e ⟨p, ev, hp⟩ => ev ▸ w_sum (sq_of hp)) hQ fun v S e hv => hv
  · subst ev
    obtain ⟨us, u, hu⟩ : ∃ us u, as = us ++ [u] := ⟨_, _, (List.dropLast_concat_getLast (fun z => by rw [z] at hl; cases hl)).symm⟩
    have hul : us.length = R.n := by
      rw [hu, List.length_append, List.length_singleton] at hl
      omega
    have hdu := hd R.n u (by rw [hu, List.getElem?_append_right (by omega), hul, Nat.sub_self]; rfl)
    exact (w_ixL (sq_of hs) (by rw [hu, List.map_append]; exact atI_last _ _)).imp fun v S' e' ev => ⟨u, ev, e' _ _ hdu.2⟩
  · rw [hp]
    congr 2
    unfold enc
    rw [List.map_map, List.map_map]
    rfl)

theorem v_how_many {r : Addr} {R : Rec} (h : RecAt K S r R) (ok : R.Ok) : SpW g (sp_Record_how_many K) [.ref r] S (Is (.int R.howMany)) := w_pr (r, R) (fun _ e => ⟨h.mono e, ok⟩) fun _ _ _ _ _ h => h
end
end Cm

/-! ## E7 -/
set_option maxHeartbeats 4000000
/-! Records: how many ends; does a trip fit. -/
namespace Cm
open PySem PySem.Spec PyProof.Rows L2 Evl
local macro_rules | `(tactic| walk_at "w") => `(tactic| first
  | exact w_c
  | ((refine w_var ?_); rfl)
  | exact w_nil
  | ((refine w_cons (x := ?x) (xs := ?xs) ?h1 ?h2); (case h1 => walk_at "w"); (case h2 => walk_at "w"))
  | ((refine w_op (x := ?x) (y := ?y) ?h1 ?h2 ?h3); (case h1 => walk_at "w"); (case h2 => walk_at "w"); (case h3 => walk_at "w"))
  | exact w_rI0
  | exact w_rU
  | ((refine w_un (x := ?x) ?h1 ?h2); (case h1 => walk_at "w"); (case h2 => walk_at "w"))
  | ((refine w_rEq ?_); rfl)
  | ((refine w_rNe ?_); rfl)
  | ((refine w_test (b := ?b) ?h1); (case h1 => walk_at "w"))
  | ((refine w_tB (b := ?b) ?h1); (case h1 => walk_at "w"))
  | ((refine w_not (a := ?a) ?h1); (case h1 => walk_at "w"))
  | ((refine w_orU (a := ?a) (b := ?b) ?h1 ?h2); (case h1 => walk_at "w"); (case h2 => walk_at "w"))
  | ((refine w_andU (a := ?a) (b := ?b) ?h1 ?h2); (case h1 => walk_at "w"); (case h2 => walk_at "w"))
  | ((refine w_notV (a := ?a) ?h1); (case h1 => walk_at "w"))
  | ((refine w_orVU (a := ?a) (b := ?b) ?h1 ?h2); (case h1 => walk_at "w"); (case h2 => walk_at "w"))
  | ((refine w_andVU (a := ?a) (b := ?b) ?h1 ?h2); (case h1 => walk_at "w"); (case h2 => walk_at "w"))
  | ((refine w_chain1 (x := ?x) (y := ?y) (z := ?z) (p := ?p) (q := ?q) ?h1 ?h2 ?h3 ?h4 ?h5); (case h1 => walk_at "w"); (case h2 => walk_at "w"); (case h3 => walk_at "w"); (case h4 => walk_at "w"); (case h5 => walk_at "w"))
  | exact w_isN
  | exact w_max2
  | exact w_min2
  | exact w_int1
  | exact w_abs
  | (refine w_rI ?_; decide)
  | assumption)

section
variable {P : Program} {w : World} {K : PySem.W.Frag} {mg : Str → Option Value} {base : Heap} {g : Bg} {S : Hp}
namespace Rec
variable (R : Rec)
/-- the ends behind a place, by the ends behind the next mark -/
def num (t : Nat) (B : Dp) (p : Pl) : Int := (((R.steps t p).filter fun d => (B.get (R.goal p d)).isSome).map fun d => B.get0 (R.goal p d)).sum
def backOn (t : Nat) (B es D : Dp) : Dp := es.foldl (fun now e => if 0 < R.num t B e.1 then now.put e.1 (R.num t B e.1) else now) D
/-- .. for the last marks -/
def back : Nat → Dp
  | 0 => (R.ahead R.n).map fun e => (e.1, 1)
  | k + 1 => R.backOn (R.n - 1 - k) (back k) (R.ahead (R.n - 1 - k)) []
variable {R}
theorem backOn_bx {t a b : Nat} {B : Dp} : ∀ (es D : Dp), (∀ e ∈ es, (0 ≤ e.1.1 ∧ e.1.1 ≤ (a : Int)) ∧ (0 ≤ e.1.2 ∧ e.1.2 ≤ (b : Int))) → Dp.Bx a b D → Dp.Bx a b (R.backOn t B es D)
  | [], _, _, h => h
  | e :: es, D, he, h => by
    refine backOn_bx es _ (fun x hx => he x (List.mem_cons_of_mem _ hx)) ?_
    show Dp.Bx a b (if 0 < R.num t B e.1 then D.put e.1 (R.num t B e.1) else D)
    split
    · exact h.put (he e List.mem_cons_self)
    · exact h
end Rec
theorem rd_lock {K' : Hp} {a b : Addr} {u u' : HO} {od : Obj} (ha : K' a = some u) (hb : K' b = some u') : Rd (upd K' a (.frz od u)) b u' := by
  by_cases z : b = a
  · subst z
    rw [ha] at hb
    cases hb
    exact .inr ⟨od, upd_same⟩
  · exact .inl (by rw [upd_ne z]; exact hb)
theorem Rd.mono {K H : Hp} {a : Addr} {u : HO} (e : Ex K H) (h : Rd K a u) : Rd H a u := h.imp (e _ _) fun ⟨o, h⟩ => ⟨o, e _ _ h⟩
theorem rev_get {n i : Nat} {z : V} (h : (rgV 0 n).reverse[i]? = some z) : i < n ∧ z = .int ((n - 1 - i : Nat) : Int) := by
  have hl := (List.getElem?_eq_some_iff.mp h).1
  rw [List.length_reverse, rgV_length] at hl
  rw [List.getElem?_reverse (by rw [rgV_length]; omega)] at h
  obtain ⟨h1, h2⟩ := rgV_get h
  rw [rgV_length] at h2
  refine ⟨by omega, h2.trans ?_⟩
  congr 2
def sp_Record_numbers_behind (K : PySem.W.Frag) : Sp := Pr (ι := Addr × Rec) (fun x => [.ref x.1]) (fun _ x S => RecAt K S x.1 x.2 ∧ x.2.Ok) (fun x S0 v S => ∃ p bs, v = .ref p ∧ S p = some (.lst (bs.map V.ref)) ∧ bs.length = x.2.n + 1 ∧ DpsAt S0 S bs (fun j => x.2.back (x.2.n - j)))
theorem m_Record_numbers_behind (T : Txt K mg) : C8.Met P w K mg base 9 (He.ga K "Record") "numbers_behind" (sp_Record_numbers_behind K) [] := mk_Record_numbers_behind T (pr_len (ps := ["self"]) fun _ => rfl) (Bd.bs fun cdv A outer s H Q E hr => by
  have hu := hu_of hr
  have nd := sc_Record_numbers_behind.nd
  refine ⟨_, (pss_cons (ps_set (i := 1) nd rfl (by first | exact .inl rfl | exact .inr rfl) (C8.pe_mt0 (m_Record_numbers_ahead (K := K) T) hr (by decide) (pv 0)))
      (pss_cons (ps_set (i := 2) nd rfl (by first | exact .inl rfl | exact .inr rfl) (pe_lst (pa_cons (pe_lock (pe_dcT (own := [("place", 5)]) (g := gName 5) rfl nd hu (pi_keys (pe_ix (ixL (K := K) rfl) (pv 1) (pe_un un_neg pe_int) (fun _ _ => rfl))) (blkOk_by (own := [("place", 5)]) (N := N_Record_numbers_behind) (sc := d_Record_numbers_behind.scope) (by decide +kernel)) (fun _ _ _ _ _ => (pg_name (i := 5) nd rfl (by first | exact .inl rfl | exact .inr rfl))) (fun _ _ _ _ _ => (pv 5)) (fun _ _ _ _ _ => pe_int))) pa_nil)))
      (pss_cons (ps_for PassesOwn.never rfl (piT (K := K) rfl (peRevT (K := K) rfl (peFld (K := K) rfl (pv 0) rfl))) (pg_name (i := 3) nd rfl (by first | exact .inl rfl | exact .inr rfl))
      (pss_cons (ps_set (i := 4) nd rfl (by first | exact .inl rfl | exact .inr rfl) pe_dnewT)
      (pss_cons (ps_lock (ps_for PassesOwn.never rfl (pi_keys (pe_ix (ixL (K := K) rfl) (pv 1) (pv 3) (fun _ _ => rfl))) (pg_name (i := 5) nd rfl (by first | exact .inl rfl | exact .inr rfl))
      (pss_cons (ps_set (i := 6) nd rfl (by first | exact .inl rfl | exact .inr rfl) (pe_callB (cbSum (K := K) rfl rfl) rfl (T.free 57 rfl) bt_sum (pa_cons (pe_lc (own := [("digit", 7), ("goal", 8)]) (g := gTup K 2 (gCons (gName 7) (gCons (gName 8) gNil))) rfl nd (piL (K := K) rfl (C8.pe_mt (m_Record_steps_from (K := K) T) hr (by decide) (pv 0) (pa_cons (pv 3) (pa_cons (pv 5) pa_nil)))) (blkOk_by (own := [("digit", 7), ("goal", 8)]) (N := N_Record_numbers_behind) (sc := d_Record_numbers_behind.scope) (by decide +kernel)) (fun _ _ _ _ _ => (pgTup (K := K) rfl rfl (pgs_cons (pg_name (i := 7) nd rfl (by first | exact .inl rfl | exact .inr rfl)) (pgs_cons (pg_name (i := 8) nd rfl (by first | exact .inl rfl | exact .inr rfl)) pgs_nil)))) (fun _ _ _ _ _ => (pts_one (pt_cmp (pc_din hu (pv 8) (pe_ix (ixL (K := K) rfl) (pv 2) pe_int (fun _ _ => rfl)))))) (fun _ _ _ _ _ => (pe_dget hu (pe_ix (ixL (K := K) rfl) (pv 2) pe_int (fun _ _ => rfl)) (pv 8) (fun _ _ => rfl)))) pa_nil)))
      (pss_one (ps_if (pt_cmpR op_gt (pv 6) pe_int (nomark _)) (pss_one (ps_dput hu (pv 4) (pv 5) (pv 6) rfl)) pss_nil)))))
      (pss_one (ps_set (i := 2) nd rfl (by first | exact .inl rfl | exact .inr rfl) (pe_lst (pa_cons (pv 4) (paStar (K := K) rfl (pv 2) pa_nil))))))))
      (pss_one (ps_ret (pv 2)))))), fun g S0 x hp hQ => ?_⟩
  obtain ⟨r, R⟩ := x
  obtain ⟨hr0, ok⟩ := hp
  dsimp only at hr0 ok
  obtain ⟨y, er, hr1, hB⟩ := RecAt.b hr0
  subst er
  have hn := ok.n1
  show G ⟨g, S0, H⟩ _ (start N_Record_numbers_behind [.ref y.r]) [] S0
  refine gs_asg (w_m0 (w_var rfl) hr1 rfl w_nil (v_ahead hr0 ok)) fun v S1 e1 ⟨pa, as, ev, hpa, hal, hda⟩ => ?_
  subst ev
  obtain ⟨al, hai⟩ : ∃ a, as[R.n]? = some a := ⟨_, List.getElem?_eq_getElem (show R.n < as.length by omega)⟩
  obtain ⟨hal0, hal1⟩ := hda _ _ hai
  have hlast : atI (as.map V.ref) (-1) = some (.ref al) := by
    obtain ⟨us, u, hu⟩ : ∃ us u, as = us ++ [u] := ⟨_, _, (List.dropLast_concat_getLast (fun z => by rw [z] at hal; cases hal)).symm⟩
    have hul : us.length = R.n := by
      rw [hu, List.length_append, List.length_singleton] at hal
      omega
    rw [hu, List.getElem?_append_right (by omega), hul, Nat.sub_self] at hai
    cases hai
    rw [hu, List.map_append]
    exact atI_last _ _
  have hbn := Rec.ahead_bx ok R.n
  have hbl := Rec.bx_few ok (Nat.le_refl _) hbn
  refine gs_newLR (Ra := fun xs S => ∃ b, xs = [.ref b] ∧ S1 b = none ∧ S b = some (.dT (enc (R.back 0)))) (w_consR (R := fun xs S => ∃ b, xs = [.ref b] ∧ S1 b = none ∧ S b = some (.dT (enc (R.back 0)))) (Ra := fun v S => ∃ b, v = .ref b ∧ S1 b = none ∧ S b = some (.dT (enc (R.back 0))))
    (w_lock (d := al) (u := .dT (enc (R.ahead R.n))) (R' := fun v S => ∃ b, v = .ref b ∧ S1 b = none ∧ b ≠ al ∧ S b = some (.dT (enc (R.back 0)))) hal1 trivial notS_T (fun od => W.imp (w_dcKT (K := upd S1 al (.frz od (.dT (enc (R.ahead R.n))))) (kvs := enc (R.ahead R.n)) (f := fun _ => .int 1) (w_iKT (d := al) (od := od) (w_op (w_var rfl) (w_un w_c w_rU) (w_ixL (sq_of ((upd_ne (fun z => by rw [z, hal1] at hpa; cases hpa)).trans hpa)) hlast)) upd_same) (by rw [enc_len]; omega) ?_ fun q ky S e hq => ⟨_, tg_name, rfl, w_var rfl, w_c⟩) fun v S e ⟨b, ev, hb, hs⟩ => ?_) fun v S od ⟨b, ev, h1, h2, h3⟩ hs e => ⟨b, ev, h1, by rw [upd_ne h2]; exact h3⟩)
    fun v S e ⟨b, ev, h1, h2⟩ => w_nilR fun S2 e2 => ⟨b, by rw [ev], h1, e2 _ _ h2⟩) fun xs S2 e2 ⟨b0, ex, hb0, hs0⟩ => ⟨by rw [ex]; exact (by decide : 1 ≤ 1000), fun p hp0 hh0 => ?_⟩
  · unfold enc
    rw [List.map_map]
    have : (((R.ahead R.n).map (·.1)).map pk).Nodup := List.pairwise_map.mpr (hbn.nd.imp fun h z => h (pk_inj.mp z))
    rw [List.map_map] at this
    exact this
  · have ne : b ≠ al := fun z => by rw [z, upd_same] at hb; cases hb
    rw [upd_ne ne] at hb
    refine ⟨b, ev, hb, ne, hs.trans ?_⟩
    unfold enc Rec.back
    rw [List.map_map, List.map_map]
    rfl
  subst ex
  refine g_keepH fun kp hhp => ?_
  have e3 : Ex S2 (upd S2 p (.lst [.ref b0])) := Ex.new kp
  have hpb : upd S2 p (.lst [.ref b0]) p = some (.lst ([b0].map V.ref)) := upd_same
  generalize upd S2 p (.lst [.ref b0]) = S3 at e3 hpb ⊢
  have e03 : Ex S0 S3 := (e1.trans e2).trans e3
  refine gs_for (Rs := fun ys _ => ys = (rgV 0 R.n).reverse) (w_iTR (w_revT (w_fld (w_var rfl) (e03 _ _ hr1) (cl_Record T) (na_Record_own_ticks T) rfl) (st_of (e03 _ _ hB.pp.tic))) fun v S e ⟨q, ev, _, hs⟩ => ⟨q, _, ev, st_of hs, rfl⟩) fun ys S4 e4 ey => ?_
  subst ey
  refine ⟨fun k σ' m' K' => ∃ pb bs, (∃ c d e f g h, σ' = [some (.ref y.r), some (.ref pa), some (.ref pb), c, d, e, f, g, h]) ∧ m' = [] ∧ Ex S4 K' ∧ K' pb = some (.lst (bs.map V.ref)) ∧ bs.length = k + 1 ∧ DpsAt S0 K' bs (fun j => R.back (k - j)), ⟨p, [b0], ⟨none, none, none, none, none, none, rfl⟩, rfl, .refl _, e4 _ _ hpb, rfl, fun j a ha => ?_⟩, fun _ _ _ _ ⟨_, _, _, _, h, _⟩ => h, ?_, fun σ' m' K' ⟨pb, bs, ⟨c, d, e, f, g, h, es⟩, em, eK, hpb', hbl', hdb⟩ => ?_⟩
  · match j, ha with
    | 0, ha => cases ha; exact ⟨e1.free hb0, e4 _ _ (e3 _ _ hs0)⟩
  · rintro k z σ' m' K' hz ⟨pb, bs, ⟨c, d, e, f, g, h, es⟩, em, eK, hpb', hbl', hdb⟩
    subst es em
    obtain ⟨hk, ez⟩ := rev_get hz
    subst ez
    have ht : R.n - 1 - k < R.n := by omega
    generalize htd : R.n - 1 - k = t at ht ⊢
    refine g_name ?_
    have e0 : Ex S0 K' := (e03.trans e4).trans eK
    have e1K : Ex S1 K' := ((e2.trans e3).trans e4).trans eK
    refine gs_newT fun q hq hqh => ?_
    obtain ⟨a, hat⟩ : ∃ a, as[t]? = some a := ⟨_, List.getElem?_eq_getElem (show t < as.length by omega)⟩
    obtain ⟨haS, ha1⟩ := hda t a hat
    have haK := e1K _ _ ha1
    obtain ⟨bk, hbk⟩ : ∃ b, bs[0]? = some b := ⟨_, List.getElem?_eq_getElem (show 0 < bs.length by omega)⟩
    obtain ⟨_, hbkK⟩ := hdb 0 bk hbk
    have hbkK : K' bk = some (.dT (enc (R.back k))) := hbkK
    refine g_lock (d := a) (u := .dT (enc (R.ahead t))) haK trivial notS_T fun was od => ?_
    have hKpa : upd K' a (.frz od (.dT (enc (R.ahead t)))) pa = some (.lst (as.map V.ref)) := by
      rw [upd_ne (fun z => by rw [z, ha1] at hpa; cases hpa)]
      exact e1K _ _ hpa
    have hKpb : upd K' a (.frz od (.dT (enc (R.ahead t)))) pb = some (.lst (bs.map V.ref)) := by
      rw [upd_ne (fun z => by rw [z, haK] at hpb'; cases hpb')]
      exact hpb'
    have hKa : upd K' a (.frz od (.dT (enc (R.ahead t)))) a = some (.frz od (.dT (enc (R.ahead t)))) := upd_same
    have hKb : Rd (upd K' a (.frz od (.dT (enc (R.ahead t))))) bk (.dT (enc (R.back k))) := rd_lock haK hbkK
    have eS : Ex S0 (upd K' a (.frz od (.dT (enc (R.ahead t))))) := Ex.upd0 e0 haS
    have hbx := Rec.ahead_bx ok t
    have hnum : R.num t (R.back k) = R.num t (R.back k) := rfl
    refine g_forKT (kvs := enc (R.ahead t)) (w_iKT (w_op (w_var rfl) (w_var rfl) (w_ixL (sq_of hKpa) (at_map hat))) hKa) fun S5 e5 => ?_
    refine ⟨fun j σ' m' K'' => (∃ b c d e, σ' = [some (.ref y.r), some (.ref pa), some (.ref pb), some (.int t), some (.ref q), b, c, d, e]) ∧ m' = [(q, .dT (enc (R.backOn t (R.back k) ((R.ahead t).take j) [])))] ∧ Ex S5 K'', ⟨⟨_, _, _, _, rfl⟩, rfl, .refl _⟩, fun _ _ _ _ h => h.2.2, ?_, fun σ' m' K'' ⟨⟨b, c, d, e, es⟩, em, e6⟩ => ?_⟩
    · rintro j ky x qk σ' m' K'' hj ⟨⟨b, c, d, e, es⟩, em, e6⟩ ne eqk
      subst es em
      obtain ⟨⟨pl, n⟩, hje, eky, ex⟩ := enc_at hj
      subst eky ex
      have hmem := List.mem_of_getElem? hje
      have hpl := hbx.bx pl (List.mem_map.mpr ⟨_, hmem, rfl⟩)
      refine g_name ?_
      have hqk : PlAt (upd K'' qk (.tup ((pk pl).map kV))) qk pl := upd_same
      generalize upd K'' qk (.tup ((pk pl).map kV)) = K3 at eqk hqk ⊢
      have e53 : Ex _ K3 := (e5.trans e6).trans eqk
      have eA : Ex S0 K3 := eS.trans e53
      have hlen : (R.backOn t (R.back k) ((R.ahead t).take j) []).length ≤ 90000 := Rec.bx_few ok (Nat.le_of_lt ht) (Rec.backOn_bx _ _ (fun e he => hbx.bx e.1 (List.mem_map.mpr ⟨e, List.mem_of_mem_take he, rfl⟩)) .nil)
      have enext : R.backOn t (R.back k) ((R.ahead t).take (j + 1)) [] = if 0 < R.num t (R.back k) pl then (R.backOn t (R.back k) ((R.ahead t).take j) []).put pl (R.num t (R.back k) pl) else R.backOn t (R.back k) ((R.ahead t).take j) [] := by
        rw [take_next hje]
        unfold Rec.backOn
        rw [List.foldl_append]
        rfl
      generalize R.backOn t (R.back k) ((R.ahead t).take j) [] = DD at hlen enext ⊢
      refine gs_asgI (v := .int (R.num t (R.back k) pl)) (w_cbN (o := .lst ((((R.steps t pl).filter fun d => ((R.back k).get (R.goal pl d)).isSome).map fun d => (R.back k).get0 (R.goal pl d)).map V.int)) (w_lc (Rs := fun ys S => StepsAt S ys R pl (R.steps t pl)) (w_iLR (w_m0 (w_var rfl) (eA _ _ hr1) rfl (by walk_at "w") (v_steps (hr0.mono eA) ok ht hqk hpl.1.1)) fun v S e ⟨p', vs, ev, hs, hst⟩ => ⟨p', vs, ev, sq_of hs, hst⟩) fun ys S6 e7 hst => ?_) fun p' S e hs => w_sum (sq_of hs)) ?_
      · refine ⟨fun l acc S' => acc = ((((R.steps t pl).take l).filter fun d => ((R.back k).get (R.goal pl d)).isSome).map fun d => (R.back k).get0 (R.goal pl d)).map V.int ∧ Ex S6 S', ⟨rfl, .refl _⟩, fun l acc S' ⟨ea, _⟩ => ?_, fun l v acc S' hl e8 ⟨ea, e9⟩ => ?_, fun acc S' p' e8 ⟨ea, e9⟩ hp hk => ⟨p', rfl, hk, ?_⟩⟩
        · rw [ea, List.length_map, List.length_map]
          have h1 := List.length_filter_le (fun d => ((R.back k).get (R.goal pl d)).isSome) ((R.steps t pl).take l)
          have h2 := List.length_take_le' l (R.steps t pl)
          have h3 := List.length_filter_le (R.stepOk t pl) (R.left t)
          have h4 := (Rec.left_le (R := R) (t := t) ok.t1.2).1
          have h5 : (R.steps t pl).length ≤ (R.left t).length := h3
          omega
        · obtain ⟨dd, hdd, a1, b1, ev, h1, h2⟩ := hst.get hl
          subst ev
          have hbS : DGet S' (bk) (.ref b1) (valV (enc (R.back k)) (pk (R.goal pl dd))) := .inr ⟨_, pk (R.goal pl dd), b1, Rd.mono ((e53.trans e7).trans e9) hKb, rfl, e9 _ _ h2, rfl⟩
          have hbS' : ∀ H, Ex S' H → DGet H bk (.ref b1) (valV (enc (R.back k)) (pk (R.goal pl dd))) := fun H e10 => .inr ⟨_, pk (R.goal pl dd), b1, Rd.mono (((e53.trans e7).trans e9).trans e10) hKb, rfl, e10 _ _ (e9 _ _ h2), rfl⟩
          have hpbS : S' pb = some (.lst (bs.map V.ref)) := ((e53.trans e7).trans e9) _ _ hKpb
          have hix : atI (bs.map V.ref) 0 = some (.ref bk) := at_map (j := 0) hbk
          refine ⟨_, tg_t2 (st_of (e9 _ _ h1)), rfl, (w_test (w_din (w_var rfl) (w_op (w_var rfl) w_c (w_ixL (sq_of hpbS) hix)) hbS')).imp fun b S7 e10 eb => ?_⟩
          cases eb
          have htk : (R.steps t pl).take (l + 1) = (R.steps t pl).take l ++ [dd] := take_next hdd
          rw [enc_get, Option.isSome_map]
          refine ⟨fun hb => (w_dget (v := .int ((R.back k).get0 (R.goal pl dd))) (w_op (w_var rfl) w_c (w_ixL (sq_of (e10 _ _ hpbS)) hix)) (w_var rfl) fun H e11 => ?_).imp fun v S8 e11 ev => ⟨?_, (e9.trans e10).trans e11⟩, fun hb => ⟨?_, e9.trans e10⟩⟩
          · have := hbS' H (e10.trans e11)
            rw [enc_get] at this
            unfold Dp.get0
            cases hg : (R.back k).get (R.goal pl dd) with
            | none => rw [hg] at hb; cases hb
            | some w => rw [hg] at this; exact this
          · cases ev
            rw [htk, List.filter_append, List.filter_cons_of_pos (p := fun d => ((R.back k).get (R.goal pl d)).isSome) hb, ea, List.filter_nil, List.map_append, List.map_append]
            rfl
          · rw [htk, List.filter_append, List.filter_cons_of_neg (p := fun d => ((R.back k).get (R.goal pl d)).isSome) (by rw [hb]; decide), List.filter_nil, List.append_nil]
            exact ea
        · rw [upd_same, ea, hst.1, List.take_length]
      refine g_ifN (b := decide (0 < R.num t (R.back k) pl)) (w_test (w_op (w_var rfl) w_c w_rI0)) (fun hb => ?_) fun hb => ?_
      · refine g_dputT (ky := pk pl) (R := Is (.int (R.num t (R.back k) pl))) (fun e => w_var rfl) (fun S => w_var rfl) (fun S => w_var rfl) hqk (by rw [enc_len]; omega) fun v S7 e7 e7' ev => ?_
        cases ev
        refine g_turn ⟨⟨_, _, _, _, rfl⟩, ?_, (e6.trans eqk).trans e7'⟩
        rw [enc_put, enext, if_pos (of_decide_eq_true hb)]
      · refine g_turn ⟨⟨_, _, _, _, rfl⟩, ?_, e6.trans eqk⟩
        rw [enext, if_neg (of_decide_eq_false hb)]
    subst es em
    rw [enc_len, List.take_length]
    refine g_unlock was notS_T (e6 _ _ (e5 _ _ hKa)) ?_
    have eU : Ex K' (upd K'' a (.dT (enc (R.ahead t)))) := Ex.unlock haK (e5.trans e6)
    generalize upd K'' a (.dT (enc (R.ahead t))) = K5 at eU ⊢
    refine g_keepH fun k5 h5 => ?_
    have eU2 := eU.trans (Ex.new (o := .dT (enc (R.backOn t (R.back k) (R.ahead t) []))) k5)
    have hK6q : upd K5 q (.dT (enc (R.backOn t (R.back k) (R.ahead t) []))) q = some (.dT (enc (R.back (k + 1)))) := by
      rw [upd_same, ← htd]
      rfl
    generalize upd K5 q (.dT (enc (R.backOn t (R.back k) (R.ahead t) []))) = K6 at eU2 hK6q ⊢
    refine g_newLR (Ra := fun xs S => xs = (q :: bs).map V.ref) (w_consR (R := fun xs S => xs = (q :: bs).map V.ref) (w_var rfl : W _ _ _ (Is (.ref q))) fun v S e ev => w_star (w_var rfl) fun x S' e' ex => ⟨pb, _, ex, .inr (sq_of (e' _ _ (e _ _ (eU2 _ _ hpb')))), w_nil.imp fun ys S'' e'' hy => ?_⟩) fun xs S7 e7 ex => ⟨?_, fun p' hp' hhp' => ?_⟩
    · cases hy
      cases ev
      rw [List.append_nil]
      rfl
    · rw [ex, List.length_map, List.length_cons]
      omega
    subst ex
    refine g_keepH fun k8 h8 => ?_
    refine g_turn ⟨p', q :: bs, ⟨_, _, _, _, _, _, rfl⟩, rfl, ((eK.trans eU2).trans e7).trans (Ex.new k8), upd_same, by rw [List.length_cons, hbl'], fun j a' hj => ?_⟩
    match j, hj with
    | 0, hj => cases hj; exact ⟨e0.free hq, (Ex.new k8) _ _ (e7 _ _ hK6q)⟩
    | j + 1, hj =>
      have := hdb j a' hj
      refine ⟨this.1, (Ex.new k8) _ _ (e7 _ _ (eU2 _ _ ?_))⟩
      show K' a' = some (.dT (enc (R.back (k + 1 - (j + 1)))))
      rw [show k + 1 - (j + 1) = k - j by omega]
      exact this.2
  subst es em
  refine g_weak ((e03.trans e4).trans eK) (.refl _) (g_retP (R := Is (.ref pb)) (w_var rfl) hQ fun v S e ev => ⟨pb, bs, ev, e _ _ hpb', ?_, ?_⟩)
  · rw [hbl', List.length_reverse, rgV_length]
    simp
  · rw [List.length_reverse, rgV_length] at hdb
    simpa using hdb.mono e)

theorem v_behind {r : Addr} {R : Rec} (h : RecAt K S r R) (ok : R.Ok) : SpW g (sp_Record_numbers_behind K) [.ref r] S (fun v S' => ∃ p bs, v = .ref p ∧ S' p = some (.lst (bs.map V.ref)) ∧ bs.length = R.n + 1 ∧ DpsAt S S' bs (fun j => R.back (R.n - j))) := w_pr (r, R) (fun _ e => ⟨h.mono e, ok⟩) fun K1 v S' e e2 ⟨p, as, h1, h2, h3, h4⟩ => ⟨p, as, h1, h2, h3, fun j a ha => ⟨e.free (h4 j a ha).1, (h4 j a ha).2⟩⟩
end
end Cm

/-! ## E8 -/
set_option maxHeartbeats 4000000
/-! Records: does a trip fit. -/
namespace Cm
open PySem PySem.Spec PyProof.Rows L2 Evl
local macro_rules | `(tactic| walk_at "w") => `(tactic| first
  | exact w_c
  | ((refine w_var ?_); rfl)
  | exact w_nil
  | ((refine w_cons (x := ?x) (xs := ?xs) ?h1 ?h2); (case h1 => walk_at "w"); (case h2 => walk_at "w"))
  | ((refine w_op (x := ?x) (y := ?y) ?h1 ?h2 ?h3); (case h1 => walk_at "w"); (case h2 => walk_at "w"); (case h3 => walk_at "w"))
  | exact w_rI0
  | exact w_rU
  | ((refine w_un (x := ?x) ?h1 ?h2); (case h1 => walk_at "w"); (case h2 => walk_at "w"))
  | ((refine w_rEq ?_); rfl)
  | ((refine w_rNe ?_); rfl)
  | ((refine w_test (b := ?b) ?h1); (case h1 => walk_at "w"))
  | ((refine w_tB (b := ?b) ?h1); (case h1 => walk_at "w"))
  | ((refine w_not (a := ?a) ?h1); (case h1 => walk_at "w"))
  | ((refine w_orU (a := ?a) (b := ?b) ?h1 ?h2); (case h1 => walk_at "w"); (case h2 => walk_at "w"))
  | ((refine w_andU (a := ?a) (b := ?b) ?h1 ?h2); (case h1 => walk_at "w"); (case h2 => walk_at "w"))
  | ((refine w_notV (a := ?a) ?h1); (case h1 => walk_at "w"))
  | ((refine w_orVU (a := ?a) (b := ?b) ?h1 ?h2); (case h1 => walk_at "w"); (case h2 => walk_at "w"))
  | ((refine w_andVU (a := ?a) (b := ?b) ?h1 ?h2); (case h1 => walk_at "w"); (case h2 => walk_at "w"))
  | ((refine w_chain1 (x := ?x) (y := ?y) (z := ?z) (p := ?p) (q := ?q) ?h1 ?h2 ?h3 ?h4 ?h5); (case h1 => walk_at "w"); (case h2 => walk_at "w"); (case h3 => walk_at "w"); (case h4 => walk_at "w"); (case h5 => walk_at "w"))
  | exact w_isN
  | exact w_max2
  | exact w_min2
  | exact w_int1
  | exact w_abs
  | (refine w_rI ?_; decide)
  | assumption)

section
variable {P : Program} {w : World} {K : PySem.W.Frag} {mg : Str → Option Value} {base : Heap} {g : Bg} {S : Hp}
def Rec.oneOn (R : Rec) (t d : Nat) (p : Pl) : List Pl := ((R.steps t p).filter fun x => decide (x = d)).map fun x => R.goal p x
def Rec.placesOn (R : Rec) (tr : List Nat) : Nat → List Pl
  | 0 => R.begins
  | t + 1 => (R.placesOn tr t).flatMap fun p => R.oneOn t (tr.getD t 0) p
def Rec.fits (R : Rec) (tr : List Nat) : Bool := decide (0 < (R.placesOn tr R.n).length)
theorem filter_one {d : Nat} : ∀ {l : List Nat}, l.Nodup → (l.filter fun x => decide (x = d)).length ≤ 1
  | [], _ => Nat.zero_le _
  | x :: l, nd => by
    have nd := List.nodup_cons.mp nd
    by_cases h : x = d
    · rw [List.filter_cons_of_pos (by simpa using h)]
      have : (l.filter fun x => decide (x = d)) = [] := List.filter_eq_nil_iff.mpr fun y hy z => nd.1 (by rw [h, ← of_decide_eq_true z]; exact hy)
      rw [this]
      exact Nat.le_refl _
    · rw [List.filter_cons_of_neg (by simpa using h)]
      exact filter_one nd.2
theorem steps_nd {R : Rec} {t : Nat} {p : Pl} : (R.steps t p).Nodup := (List.nodup_range.filter _).filter _
theorem oneOn_len {R : Rec} {t d : Nat} {p : Pl} : (R.oneOn t d p).length ≤ 1 := by
  unfold Rec.oneOn
  rw [List.length_map]
  exact filter_one steps_nd
theorem flat_len {α β : Type} {F : α → List β} (h : ∀ x, (F x).length ≤ 1) : ∀ l : List α, (l.flatMap F).length ≤ l.length
  | [] => Nat.le_refl _
  | x :: l => by
    rw [List.flatMap_cons, List.length_append, List.length_cons]
    have := flat_len h l
    have := h x
    omega
theorem placesOn_len {R : Rec} {tr : List Nat} : ∀ t, (R.placesOn tr t).length ≤ 1
  | 0 => begins_len
  | t + 1 => Nat.le_trans (flat_len (fun _ => oneOn_len) _) (placesOn_len t)
theorem placesOn_in {R : Rec} (ok : R.Ok) {tr : List Nat} : ∀ t, ∀ p ∈ R.placesOn tr t, (0 ≤ p.1 ∧ p.1 ≤ (60 * t : Nat)) ∧ (0 ≤ p.2 ∧ p.2 ≤ (t * R.top : Nat))
  | 0, p, h => by
    unfold Rec.placesOn Rec.begins at h
    split at h
    · rw [List.mem_singleton.mp h]
      exact ⟨⟨Int.le_refl _, Int.natCast_nonneg _⟩, Int.le_refl _, Int.natCast_nonneg _⟩
    · cases h
  | t + 1, p, h => by
    obtain ⟨q, hq, hp⟩ := List.mem_flatMap.mp h
    obtain ⟨d, hd, e⟩ := List.mem_map.mp hp
    rw [← e]
    exact Rec.goal_in ok (Rec.steps_le (List.mem_filter.mp hd).1) (placesOn_in ok t q hq)
theorem PlsAt.snoc {S : Hp} {vs : List Addr} {ds : List Pl} {v : Addr} {d : Pl} (h : PlsAt S vs ds) (hv : PlAt S v d) : PlsAt S (vs ++ [v]) (ds ++ [d]) := by
  refine ⟨by rw [List.length_append, List.length_append, h.1]; rfl, fun i u c hi hj => ?_⟩
  by_cases z : i < vs.length
  · rw [List.getElem?_append_left z] at hi
    rw [List.getElem?_append_left (by rw [← h.1]; exact z)] at hj
    exact h.2 i u c hi hj
  · rw [List.getElem?_append_right (by omega)] at hi
    rw [List.getElem?_append_right (by rw [← h.1]; omega), ← h.1] at hj
    have h0 : i - vs.length = 0 := by
      have := (List.getElem?_eq_some_iff.mp hi).1
      rw [List.length_singleton] at this
      omega
    rw [h0] at hi hj
    cases hi
    cases hj
    exact hv
theorem PlsAt.get {S : Hp} {qs : List Addr} {ps : List Pl} (h : PlsAt S qs ps) {i : Nat} {v : V} (hi : (qs.map V.ref)[i]? = some v) : ∃ q p, v = .ref q ∧ ps[i]? = some p ∧ PlAt S q p := by
  rw [List.getElem?_map] at hi
  cases e : qs[i]? with
  | none => rw [e] at hi; cases hi
  | some q =>
    rw [e] at hi
    cases hi
    have hl := (List.getElem?_eq_some_iff.mp e).1
    have hd := List.getElem?_eq_getElem (h.1 ▸ hl : i < ps.length)
    exact ⟨q, _, rfl, hd, h.2 i q _ e hd⟩
theorem trip_dg {tr : List Nat} (h : tr.length ≤ 2000) (h9 : ∀ d ∈ tr, d ≤ 9) : TripS (dgS tr) := by
  refine ⟨by rw [dgS_len]; exact h, fun c hc => ?_⟩
  rw [dgS_cps] at hc
  obtain ⟨d, hd, e⟩ := List.mem_map.mp hc
  rw [← e]
  have : ∀ k : Fin 10, isDig (48 + k.val) = true := by decide +kernel
  exact this ⟨d, by have := h9 d hd; omega⟩
theorem dg1_inj {a b : Nat} : decide (dg1 a = dg1 b) = decide (a = b) := by
  by_cases h : a = b
  · rw [h]; simp
  · rw [decide_eq_false h]
    refine decide_eq_false fun z => h ?_
    have := congrArg (fun s : Str => s.cps.toList) z
    have : [48 + a] = [48 + b] := this
    injection this with this
    omega
def sp_Record_fits (K : PySem.W.Frag) : Sp := Pr (ι := Addr × Rec × List Nat) (fun x => [.ref x.1, .str (dgS x.2.2)]) (fun _ x S => RecAt K S x.1 x.2.1 ∧ x.2.1.Ok ∧ x.2.2.length = x.2.1.n ∧ ∀ d ∈ x.2.2, d ≤ 9) (fun x S0 v S => v = .bl (x.2.1.fits x.2.2))
theorem m_Record_fits (T : Txt K mg) : C8.Met P w K mg base 8 (He.ga K "Record") "fits" (sp_Record_fits K) [] := mk_Record_fits T (pr_len (ps := ["self", "trip"]) fun _ => rfl) (Bd.bs fun cdv A outer s H Q E hr => by
  have hu := hu_of hr
  have nd := sc_Record_fits.nd
  refine ⟨_, (pss_cons (ps_expr (C8.pe_c (c_check_trip (K := K) T) hr (by decide) rfl (pa_cons (pv 1) pa_nil)))
      (pss_cons (ps_if (pt_cmpR op_ne (pe_callB call_len_str rfl (T.free 51 rfl) bt_len (pa_cons (pv 1) pa_nil)) (pe_callB (cbLen (K := K) rfl) rfl (T.free 51 rfl) bt_len (pa_cons (peFld (K := K) rfl (pv 0) rfl) pa_nil)) (nomark _)) (pss_one (ps_ret pe_bl)) pss_nil)
      (pss_cons (ps_set (i := 2) nd rfl (by first | exact .inl rfl | exact .inr rfl) (C8.pe_mt0 (m_Record_begins (K := K) T) hr (by decide) (pv 0)))
      (pss_cons (ps_for PassesOwn.never rfl (piT (K := K) rfl (peFld (K := K) rfl (pv 0) rfl)) (pg_name (i := 3) nd rfl (by first | exact .inl rfl | exact .inr rfl))
      (pss_one (ps_setLc2 (i := 2) (own := [("place", 4), ("digit", 5), ("goal", 6)]) (vs1 := [5, 6]) (g := gName 4) (g1 := gTup K 2 (gCons (gName 5) (gCons (gName 6) gNil))) (tt := tYes) rfl nd rfl rfl (sw_true rfl rfl rfl (by decide +kernel)) (piL (K := K) rfl (pv 2)) (blkOk_by (own := [("place", 4), ("digit", 5), ("goal", 6)]) (N := N_Record_fits) (sc := d_Record_fits.scope) (by decide +kernel)) (by decide) (fun _ _ _ _ _ => (pg_name (i := 4) nd rfl (by first | exact .inl rfl | exact .inr rfl))) (fun _ _ _ _ _ => pts_nil) (fun _ _ _ _ _ => (piL (K := K) rfl (C8.pe_mt (m_Record_steps_from (K := K) T) hr (by decide) (pv 0) (pa_cons (pv 3) (pa_cons (pv 4) pa_nil))))) (fun _ _ _ _ _ => (pgTup (K := K) rfl rfl (pgs_cons (pg_name (i := 5) nd rfl (by first | exact .inl rfl | exact .inr rfl)) (pgs_cons (pg_name (i := 6) nd rfl (by first | exact .inl rfl | exact .inr rfl)) pgs_nil)))) (fun _ _ _ _ _ => (pts_one (pt_cmpR op_eq (pv 5) (pe_ix ix_str (pv 1) (pv 3) (fun _ _ => rfl)) (nomark _)))) (fun _ _ _ _ _ => (pv 6)))))
      (pss_one (ps_ret (pe_cmpR op_gt (pe_callB (cbLen (K := K) rfl) rfl (T.free 51 rfl) bt_len (pa_cons (pv 2) pa_nil)) pe_int (nomark _)))))))), fun g S0 x hp hQ => ?_⟩
  obtain ⟨r, R, tr⟩ := x
  obtain ⟨hr0, ok, hl, h9⟩ := hp
  dsimp only at hr0 ok hl h9
  obtain ⟨y, er, hr1, hB⟩ := RecAt.b hr0
  subst er
  have hn := ok.n1
  show G ⟨g, S0, H⟩ _ (start N_Record_fits [.ref y.r, .str (dgS tr)]) [] S0
  refine gs_dropI (w_c0 (by walk_at "w") (v_check_trip (trip_dg (by omega) h9))) ?_
  refine gs_ifF (w_test (w_op (w_cb (by walk_at "w") (w_lenS (by rw [dgS_len]; omega))) (w_cb (w_cons (w_fld (w_var rfl) hr1 (cl_Record T) (na_Record_own_ticks T) rfl) w_nil) (w_lenT (st_of hB.pp.tic))) w_neI)) ?_ ?_
  · rw [dgS_len, rgV_length, hl]
    simp
  refine gs_asg (w_m0 (w_var rfl) hr1 rfl w_nil (v_begins hr0 ok.m)) fun v S1 e1 ⟨pp, qs, ev, hpp, hqs⟩ => ?_
  subst ev
  refine gs_for (Rs := fun ys _ => ys = rgV 0 R.n) (w_iT (w_fld (w_var rfl) (e1 _ _ hr1) (cl_Record T) (na_Record_own_ticks T) rfl) (st_of (e1 _ _ hB.pp.tic))) fun ys S2 e2 ey => ?_
  subst ey
  refine ⟨fun t σ' m' K' => ∃ pp qs, (∃ a b c d, σ' = [some (.ref y.r), some (.str (dgS tr)), some (.ref pp), a, b, c, d]) ∧ m' = [] ∧ Ex S2 K' ∧ K' pp = some (.lst (qs.map V.ref)) ∧ PlsAt K' qs (R.placesOn tr t), ⟨pp, qs, ⟨none, none, none, none, rfl⟩, rfl, .refl _, e2 _ _ hpp, hqs.mono e2⟩, fun _ _ _ _ ⟨_, _, _, _, h, _⟩ => h, ?_, fun σ' m' K' ⟨pp, qs, ⟨a, b, c, d, es⟩, em, eK, hpp, hqs⟩ => ?_⟩
  · rintro t z σ' m' K' hz ⟨pp, qs, ⟨a, b, c, d, es⟩, em, eK, hpp, hqs⟩
    subst es em
    obtain ⟨ht, ez⟩ := rgV_get hz
    subst ez
    refine g_name ?_
    have e0 : Ex S0 K' := (e1.trans e2).trans eK
    have hPl := placesOn_len (R := R) (tr := tr) t
    have hPi := placesOn_in ok (tr := tr) t
    have enext : R.placesOn tr (t + 1) = (R.placesOn tr t).flatMap fun p => R.oneOn t (tr.getD t 0) p := rfl
    have hat : tr[t]? = some (tr.getD t 0) := by
      rw [List.getD_eq_getElem?_getD, List.getElem?_eq_getElem (by omega)] <;> rfl
    generalize tr.getD t 0 = dt at hat enext
    generalize R.placesOn tr t = P at hqs hPl hPi enext
    refine g_asg (R := fun v S => ∃ p' qs', v = .ref p' ∧ S p' = some (.lst (qs'.map V.ref)) ∧ PlsAt S qs' (R.placesOn tr (t + 1))) (w_lc2 (Rs := fun xs _ => xs = qs.map V.ref) (w_iL (w_var rfl) (sq_of hpp)) fun xs S3 e3 ex => ?_) fun v S9 e9 ⟨p', qs', ev, h1, h2⟩ => ?_
    rotate_left
    · subst ev
      exact g_turn ⟨p', qs', ⟨_, _, _, _, rfl⟩, rfl, eK.trans e9, h1, h2⟩
    subst ex
    refine ⟨fun i acc S' => ∃ gs, acc = gs.map V.ref ∧ PlsAt S' gs ((P.take i).flatMap fun p => R.oneOn t dt p) ∧ Ex S3 S', ⟨[], rfl, ⟨rfl, fun i a b h => by cases h⟩, .refl _⟩, ?_, fun acc S' p' e4 ⟨gs, ea, hg, e5⟩ hp' hk => ⟨p', gs, rfl, by rw [upd_same, ea], ?_⟩⟩
    rotate_left
    · rw [List.length_map, hqs.1, List.take_length, ← enext] at hg
      exact hg.mono (Ex.new hp')
    rintro i x acc S' hx e4 ⟨gs, ea, hg, e5⟩
    obtain ⟨q, pl, ex, hpl, hq⟩ := (hqs.mono (e3.trans e4)).get hx
    subst ex
    have hin := hPi pl (List.mem_of_getElem? hpl)
    have hbase := flat_len (F := fun p => R.oneOn t dt p) (fun _ => oneOn_len) (P.take i)
    have hbase2 := List.length_take_le' i P
    refine ⟨_, tg_name, rfl, w_val fun H e Q q => q, fun ys S => StepsAt S ys R pl (R.steps t pl), fun S4 e6 => ?_, fun ys S4 e6 hst => ?_⟩
    · have eA := ((e0.trans e3).trans e4).trans e6
      exact w_iLR (w_m0 (w_var rfl) (eA _ _ hr1) rfl (by walk_at "w") (v_steps (hr0.mono eA) ok ht (hq.mono e6) hin.1.1)) fun v S e ⟨p', vs, ev, hs, hst⟩ => ⟨p', vs, ev, sq_of hs, hst⟩
    refine ⟨fun j ac S5 => ∃ gs', ac = gs'.map V.ref ∧ PlsAt S5 gs' (((P.take i).flatMap fun p => R.oneOn t dt p) ++ (((R.steps t pl).take j).filter fun x => decide (x = dt)).map fun x => R.goal pl x) ∧ Ex S4 S5, ⟨gs, ea, by rw [List.take_zero]; simpa using hg.mono e6, .refl _⟩, fun j ac S5 ⟨gs', eac, hg', _⟩ => ?_, fun j v ac S5 hj e7 ⟨gs', eac, hg', e8⟩ => ?_, fun ac S5 e7 ⟨gs', eac, hg', e8⟩ => ⟨gs', eac, ?_, (e5.trans e6).trans e8⟩⟩
    · rw [eac, List.length_map, hg'.1, List.length_append, List.length_map]
      have h1 := List.length_filter_le (fun x => decide (x = dt)) ((R.steps t pl).take j)
      have h2 := List.length_take_le' j (R.steps t pl)
      have h3 := List.length_filter_le (R.stepOk t pl) (R.left t)
      have h4 := (Rec.left_le (R := R) (t := t) ok.t1.2).1
      have h5 : (R.steps t pl).length ≤ (R.left t).length := h3
      omega
    · obtain ⟨dd, hdd, a1, b1, ev, h1, h2⟩ := hst.get hj
      subst ev
      have htk : (R.steps t pl).take (j + 1) = (R.steps t pl).take j ++ [dd] := take_next hdd
      refine ⟨_, tg_t2 (st_of (e8 _ _ h1)), rfl, (w_test (w_op (w_var rfl) (w_op (w_var rfl) (w_var rfl) (w_ixS (c := 48 + dt) (by rw [dgS_len]; omega) ?_)) (w_eqS (b := dg1 dt) (c := decide (dd = dt)) dg1_inj))).imp fun b S6 e10 eb => ?_⟩
      · rw [dgS_cps]
        exact atI_nat (by rw [List.getElem?_map, hat]; rfl)
      cases eb
      refine ⟨fun hb => (w_var rfl : W _ _ _ (Is (.ref b1))).imp fun v S7 e11 ev => ⟨gs' ++ [b1], ?_, ?_, (e8.trans e10).trans e11⟩, fun hb => ⟨gs', eac, ?_, e8.trans e10⟩⟩
      · cases ev
        rw [eac, List.map_append]
        rfl
      · rw [htk, List.filter_append, List.filter_cons_of_pos (p := fun x => decide (x = dt)) hb, List.filter_nil, List.map_append, ← List.append_assoc]
        exact ((hg'.mono e10).mono e11).snoc (((h2.mono e8).mono e10).mono e11)
      · rw [htk, List.filter_append, List.filter_cons_of_neg (p := fun x => decide (x = dt)) (by rw [hb]; decide), List.filter_nil, List.append_nil]
        exact hg'.mono e10
    · rw [hst.1, List.take_length] at hg'
      rw [take_next hpl, List.flatMap_append, List.flatMap_cons, List.flatMap_nil, List.append_nil]
      exact hg'
  subst es em
  rw [rgV_length] at hqs
  refine g_weak ((e1.trans e2).trans eK) (.refl _) (g_retI (v := .bl (R.fits tr)) ((w_op (w_cb (w_cons (w_var rfl) w_nil) (w_lenL (sq_of hpp))) w_c w_rI0).is ?_) hQ fun S e => rfl)
  rw [List.length_map, hqs.1]
  show V.bl (decide _) = V.bl (decide _)
  congr 1
  simp)

theorem v_fits {r : Addr} {R : Rec} {tr : List Nat} (h : RecAt K S r R) (ok : R.Ok) (hl : tr.length = R.n) (h9 : ∀ d ∈ tr, d ≤ 9) : SpW g (sp_Record_fits K) [.ref r, .str (dgS tr)] S (Is (.bl (R.fits tr))) := w_pr (r, R, tr) (fun _ e => ⟨h.mono e, ok, hl, h9⟩) fun _ _ _ _ _ h => h
end
end Cm

/-! ## E9 -/
set_option maxHeartbeats 4000000
/-! Clashes: facts told, records of some facts. -/
namespace Cm
open PySem PySem.Spec PyProof.Rows L2 Evl
local macro_rules | `(tactic| walk_at "w") => `(tactic| first
  | exact w_c
  | ((refine w_var ?_); rfl)
  | exact w_nil
  | ((refine w_cons (x := ?x) (xs := ?xs) ?h1 ?h2); (case h1 => walk_at "w"); (case h2 => walk_at "w"))
  | ((refine w_op (x := ?x) (y := ?y) ?h1 ?h2 ?h3); (case h1 => walk_at "w"); (case h2 => walk_at "w"); (case h3 => walk_at "w"))
  | exact w_rI0
  | exact w_rU
  | ((refine w_un (x := ?x) ?h1 ?h2); (case h1 => walk_at "w"); (case h2 => walk_at "w"))
  | ((refine w_rEq ?_); rfl)
  | ((refine w_rNe ?_); rfl)
  | ((refine w_test (b := ?b) ?h1); (case h1 => walk_at "w"))
  | ((refine w_tB (b := ?b) ?h1); (case h1 => walk_at "w"))
  | ((refine w_not (a := ?a) ?h1); (case h1 => walk_at "w"))
  | ((refine w_orU (a := ?a) (b := ?b) ?h1 ?h2); (case h1 => walk_at "w"); (case h2 => walk_at "w"))
  | ((refine w_andU (a := ?a) (b := ?b) ?h1 ?h2); (case h1 => walk_at "w"); (case h2 => walk_at "w"))
  | ((refine w_notV (a := ?a) ?h1); (case h1 => walk_at "w"))
  | ((refine w_orVU (a := ?a) (b := ?b) ?h1 ?h2); (case h1 => walk_at "w"); (case h2 => walk_at "w"))
  | ((refine w_andVU (a := ?a) (b := ?b) ?h1 ?h2); (case h1 => walk_at "w"); (case h2 => walk_at "w"))
  | ((refine w_chain1 (x := ?x) (y := ?y) (z := ?z) (p := ?p) (q := ?q) ?h1 ?h2 ?h3 ?h4 ?h5); (case h1 => walk_at "w"); (case h2 => walk_at "w"); (case h3 => walk_at "w"); (case h4 => walk_at "w"); (case h5 => walk_at "w"))
  | exact w_isN
  | exact w_max2
  | exact w_min2
  | exact w_int1
  | exact w_abs
  | (refine w_rI ?_; decide)
  | assumption)

section
variable {P : Program} {w : World} {K : PySem.W.Frag} {mg : Str → Option Value} {base : Heap} {g : Bg} {S : Hp}
/-- a fact more is known -/
def Told (K : PySem.W.Frag) (x : RB) (R : Rec) (f : Fact) : V → HO → Hp → Prop := fun v o S => v = .non ∧ ∃ t, o = RB.o K { x with t := t } ∧ RecB K S { x with t := t } { R with fs := R.fs ++ [f] }
section
variable {x : RB} {R : Rec} {t : Nat}
theorem v_only {l : List Nat} (h : RecB K S x R) (hf : (Fact.speeds t l).Ok R.n) (hl : R.fs.length ≤ 100) : SpO g (sp_Record_only K) x.r (x.o K) [.ref x.r, .int t, .str (dgS l)] S (Told K x R (.speeds t l)) := w_prO (x, R, t, l) (fun _ e => ⟨h.mono e, hf, hl⟩) fun _ _ _ _ _ _ h => h
theorem v_passed {l : Int} (h : RecB K S x R) (hf : (Fact.passed t l).Ok R.n) (hl : R.fs.length ≤ 100) : SpO g (sp_Record_passed K) x.r (x.o K) [.ref x.r, .int t, .int l] S (Told K x R (.passed t l)) := w_prO (x, R, t, l) (fun _ e => ⟨h.mono e, hf, hl⟩) fun _ _ _ _ _ _ h => h
theorem v_showed {l : Int} (h : RecB K S x R) (hf : (Fact.showed t l).Ok R.n) (hl : R.fs.length ≤ 100) : SpO g (sp_Record_showed K) x.r (x.o K) [.ref x.r, .int t, .int l] S (Told K x R (.showed t l)) := w_prO (x, R, t, l) (fun _ e => ⟨h.mono e, hf, hl⟩) fun _ _ _ _ _ _ h => h
theorem v_jumped {l : Bool} (h : RecB K S x R) (hf : (Fact.jumped t l).Ok R.n) (hl : R.fs.length ≤ 100) : SpO g (sp_Record_jumped K) x.r (x.o K) [.ref x.r, .int t, .bl l] S (Told K x R (.jumped t l)) := w_prO (x, R, t, l) (fun _ e => ⟨h.mono e, hf, hl⟩) fun _ _ _ _ _ _ h => h
end
def sp_tell_fact (K : PySem.W.Frag) : Sp := PrO (ι := RB × Rec × Addr × Fact) (fun x => [.ref x.1.r, .ref x.2.2.1]) (fun x => x.1.r) (fun x => x.1.o K) (fun _ x S => RecB K S x.1 x.2.1 ∧ S x.2.2.1 = some (.tup x.2.2.2.vs) ∧ x.2.2.2.Ok x.2.1.n ∧ x.2.1.fs.length ≤ 100) (fun x S0 v o S => Told K x.1 x.2.1 x.2.2.2 v o S)
theorem c_tell_fact (T : Txt K mg) : C8.Cal P w K mg base 5 "tell_fact" (sp_tell_fact K) [] := mk_tell_fact T (prO_len fun _ => rfl) (BdO.bs fun cdv A outer s H Q E hr => by
  have hu := hu_of hr
  have nd := sc_tell_fact.nd
  refine ⟨_, (pss_cons (ps_asg (pv 1) (pgTup (K := K) rfl rfl (pgs_cons (pg_name (i := 2) nd rfl (by first | exact .inl rfl | exact .inr rfl)) (pgs_cons (pg_name (i := 3) nd rfl (by first | exact .inl rfl | exact .inr rfl)) (pgs_cons (pg_name (i := 4) nd rfl (by first | exact .inl rfl | exact .inr rfl)) pgs_nil)))))
      (pss_one (ps_if (pt_cmpR op_eq (pv 2) pe_str (nomark _)) (pss_one (ps_expr (C8.pe_mt (m_Record_only (K := K) T) hr (by decide) (pv 0) (pa_cons (pv 3) (pa_cons (pv 4) pa_nil))))) (pss_one (ps_if (pt_cmpR op_eq (pv 2) pe_str (nomark _)) (pss_one (ps_expr (C8.pe_mt (m_Record_passed (K := K) T) hr (by decide) (pv 0) (pa_cons (pv 3) (pa_cons (pv 4) pa_nil))))) (pss_one (ps_if (pt_cmpR op_eq (pv 2) pe_str (nomark _)) (pss_one (ps_expr (C8.pe_mt (m_Record_showed (K := K) T) hr (by decide) (pv 0) (pa_cons (pv 3) (pa_cons (pv 4) pa_nil))))) (pss_one (ps_expr (C8.pe_mt (m_Record_jumped (K := K) T) hr (by decide) (pv 0) (pa_cons (pv 3) (pa_cons (pv 4) pa_nil)))))))))))), fun g S0 H0 x hp hQ => ?_⟩
  obtain ⟨y, R, b, f⟩ := x
  obtain ⟨hB, hb, hf, hl⟩ := hp
  dsimp only at hB hb hf hl
  show G ⟨g, S0, H0⟩ _ (start N_tell_fact [.ref y.r, .ref b]) [(y.r, y.o K)] S0
  cases f with
  | speeds t l =>
    refine gs_un3 (w_var rfl) (st_of hb) (g_ifT (w_test (w_op (w_var rfl) w_c (w_eqS (c := true) (by decide +kernel)))) rfl ?_)
    exact g_dropO (wo_m0 (w_var rfl) rfl (w_cons (w_var rfl) (w_cons (w_var rfl) w_nil)) fun vs S e hv => hv ▸ v_only (hB.mono e) hf hl) fun v o' S e h H s => hQ _ _ _ H s ⟨rfl, h.2⟩
  | passed t l =>
    refine gs_un3 (w_var rfl) (st_of hb) (g_ifFE (w_test (w_op (w_var rfl) w_c (w_eqS (c := false) (by decide +kernel)))) rfl (g_ifT (w_test (w_op (w_var rfl) w_c (w_eqS (c := true) (by decide +kernel)))) rfl ?_))
    exact g_dropO (wo_m0 (w_var rfl) rfl (w_cons (w_var rfl) (w_cons (w_var rfl) w_nil)) fun vs S e hv => hv ▸ v_passed (hB.mono e) hf hl) fun v o' S e h H s => hQ _ _ _ H s ⟨rfl, h.2⟩
  | showed t l =>
    refine gs_un3 (w_var rfl) (st_of hb) (g_ifFE (w_test (w_op (w_var rfl) w_c (w_eqS (c := false) (by decide +kernel)))) rfl (g_ifFE (w_test (w_op (w_var rfl) w_c (w_eqS (c := false) (by decide +kernel)))) rfl (g_ifT (w_test (w_op (w_var rfl) w_c (w_eqS (c := true) (by decide +kernel)))) rfl ?_)))
    exact g_dropO (wo_m0 (w_var rfl) rfl (w_cons (w_var rfl) (w_cons (w_var rfl) w_nil)) fun vs S e hv => hv ▸ v_showed (hB.mono e) hf hl) fun v o' S e h H s => hQ _ _ _ H s ⟨rfl, h.2⟩
  | jumped t l =>
    refine gs_un3 (w_var rfl) (st_of hb) (g_ifFE (w_test (w_op (w_var rfl) w_c (w_eqS (c := false) (by decide +kernel)))) rfl (g_ifFE (w_test (w_op (w_var rfl) w_c (w_eqS (c := false) (by decide +kernel)))) rfl (g_ifFE (w_test (w_op (w_var rfl) w_c (w_eqS (c := false) (by decide +kernel)))) rfl ?_)))
    exact g_dropO (wo_m0 (w_var rfl) rfl (w_cons (w_var rfl) (w_cons (w_var rfl) w_nil)) fun vs S e hv => hv ▸ v_jumped (hB.mono e) hf hl) fun v o' S e h H s => hQ _ _ _ H s ⟨rfl, h.2⟩)

theorem v_tell {x : RB} {R : Rec} {b : Addr} {f : Fact} (h : RecB K S x R) (hb : S b = some (.tup f.vs)) (hf : f.Ok R.n) (hl : R.fs.length ≤ 100) : SpO g (sp_tell_fact K) x.r (x.o K) [.ref x.r, .ref b] S (Told K x R f) := w_prO (x, R, b, f) (fun _ e => ⟨h.mono e, e _ _ hb, hf, hl⟩) fun _ _ _ _ _ _ h => h
abbrev natsV (ns : List Nat) : List V := ns.map fun (n : Nat) => V.int (n : Int)
def othersOf (ns : List Nat) (n : Nat) : List Nat := ns.filter fun k => !decide (k = n)
def sp_others_of (K : PySem.W.Frag) : Sp := Pr (ι := Addr × List Nat × Nat) (fun x => [.ref x.1, .int x.2.2]) (fun _ x S => S x.1 = some (.lst (natsV x.2.1)) ∧ x.2.1.length ≤ 100) (fun x S0 v S => ∃ q, v = .ref q ∧ S q = some (.lst (natsV (othersOf x.2.1 x.2.2))))
theorem c_others_of (T : Txt K mg) : C8.Cal P w K mg base 1 "others_of" (sp_others_of K) [] := mk_others_of T (pr_len (ps := ["numbers", "number"]) fun _ => rfl) (Bd.bs fun cdv A outer s H Q E hr => by
  have hu := hu_of hr
  have nd := sc_others_of.nd
  refine ⟨_, (pss_one (ps_ret (pe_lc (own := [("other", 2)]) (g := gName 2) rfl nd (piL (K := K) rfl (pv 0)) (blkOk_by (own := [("other", 2)]) (N := N_others_of) (sc := d_others_of.scope) (by decide +kernel)) (fun _ _ _ _ _ => (pg_name (i := 2) nd rfl (by first | exact .inl rfl | exact .inr rfl))) (fun _ _ _ _ _ => (pts_one (pt_cmpR op_ne (pv 2) (pv 1) (nomark _)))) (fun _ _ _ _ _ => (pv 2))))), fun g S0 x hp hQ => ?_⟩
  exact g_retP (w_lcF (ys := x.2.1) (h := fun n => V.int (n : Int)) (f := fun n => V.int (n : Int)) (p := fun k => !decide (k = x.2.2)) (w_iL (w_var rfl) (sq_of hp.1)) (by have := hp.2; omega) fun i k S hk e => ⟨_, tg_name, rfl, w_test (w_op (w_var rfl) (w_var rfl) (w_neI.is (by
    congr 2
    by_cases h : k = x.2.2
    · rw [decide_eq_true h, decide_eq_true (by rw [h])]
    · rw [decide_eq_false h, decide_eq_false (by omega)]))), fun _ => w_var rfl⟩) hQ fun v S e ⟨q, ev, _, hq⟩ => ⟨q, ev, hq⟩)

theorem v_others {p : Addr} {ns : List Nat} {n : Nat} (h : S p = some (.lst (natsV ns))) (hl : ns.length ≤ 100) : SpW g (sp_others_of K) [.ref p, .int n] S (fun v S' => ∃ q, v = .ref q ∧ S' q = some (.lst (natsV (othersOf ns n)))) := w_pr (p, ns, n) (fun _ e => ⟨e _ _ h, hl⟩) fun _ _ _ _ _ h => h
/-- e gives a new thing: local from now on -/
theorem gs_asgNE {c : Ct} {m : List (Addr × HO)} {K : Hp} {σ : L2.St} {D : Ends} {z : TS} {te : TE} {i : Nat} {R : Addr → HO → Hp → Prop} (h : W c.g (te σ) K fun v S => ∃ p ob, v = .ref p ∧ K p = none ∧ S p = some ob ∧ NotT ob ∧ R p ob S) (k : ∀ p ob S, Ex K S → K p = none → S p = some ob → R p ob S → G c (z D) (σ.set i (some (.ref p))) ((p, ob) :: m) (cut1 S p)) : G c (tSeq (tAsg te (gName i)) z D) σ m K :=
  fun H s => h K H (.refl _) s.a.here _ fun v S H' d hv => by
    obtain ⟨p, ob, ev, hk, hp, nt, hR⟩ := hv
    subst ev
    have s' := s.to d
    have h0 : c.H0 p = none := by
      cases q : c.H0 p with
      | none => rfl
      | some u =>
        rcases s'.a.ns p (s.a.kk.free hk) (by rw [q]; exact Option.some_ne_none _) with z | ⟨xs, z⟩
        · rw [z] at hp; cases hp
        · rw [hp] at z; exact absurd (Option.some.inj z) (nt xs)
    have off : ∀ q ∈ m, q.1 ≠ p := fun q hq z => by have := (s'.mu q hq).2.1; rw [z, hp] at this; cases this
    have e0 : Ex c.K0 (cut1 S p) := fun a u h1 => by
      rw [cut_ne (fun z => by rw [z] at h1; rw [s.a.kk _ _ h1] at hk; cases hk)]
      exact s'.a.kk _ _ h1
    have s2 := s'.weak e0 cut_le
    exact k p ob S d.kk hk hp hR H' ⟨s2.a, fun q hq => (List.mem_cons.mp hq).elim (fun z => by rw [z]; exact ⟨s'.a.kh _ _ hp, cut_at, h0⟩) fun z => s2.mu q z, fun q hq => (List.mem_cons.mp hq).elim (fun z => by rw [z]; exact nt) fun z => s2.nt q z,
      List.nodup_cons.mpr ⟨fun z => by obtain ⟨q, hq, e⟩ := List.mem_map.mp z; exact off q hq e, s2.nd⟩⟩
theorem Ex.made {S : Hp} {x : Addr} {o : HO} (h : S x = none) : Ex S (cut1 (upd S x o) x) := fun a u ha => by
  have ne : a ≠ x := fun z => by rw [z, h] at ha; cases ha
  rw [cut_ne ne, upd_ne ne]
  exact ha
theorem Ex.cut {K S : Hp} {p : Addr} (e : Ex K S) (h : K p = none) : Ex K (cut1 S p) := fun a u ha => by
  rw [cut_ne (fun z => by rw [z, h] at ha; cases ha)]
  exact e _ _ ha
/-- Record(meter, ticks, top), a new thing -/
def MadeR (K : PySem.W.Frag) (R : Rec) (p : Addr) (ob : HO) (S : Hp) : Prop := ∃ rb : RB, rb.r = p ∧ ob = rb.o K ∧ RecB K (cut1 S p) rb R
theorem w_Record {σ : L2.St} {tr : TA} {S0 : Hp} {p : Addr} {M : Mtr} {n top : Nat} (h : W g (tr σ) S0 (Is [.ref p, .int n, .int top])) (hm : MtrAt K S0 p M) (hn : n ≤ 40) (ht : top ≤ 9) :
    W g (tMake (CR K) (sp_Record_init K) [] C8.E0 tr σ) S0 (fun v S => ∃ q ob, v = .ref q ∧ S0 q = none ∧ S q = some ob ∧ NotT ob ∧ MadeR K ⟨M, n, top, []⟩ q ob S) :=
  w_make0 h fun vs S e hv x dx hx hk ne => hv ▸ w_prO (⟨x, dx, p, n, top, M⟩ : RArg) (fun K1 e1 => ⟨(hm.mono e).mono e1, hn, ht⟩) fun K1 v o' S' e1 e2 ⟨h1, q, t, h2, h3⟩ => ⟨h1, fun hn => ⟨x, o', rfl, hk, upd_same, (fun ys z => by rw [h2] at z; cases z), ⟨x, dx, p, q, top, t⟩, rfl, h2, rfl, h3.mono (Ex.made hn)⟩⟩
/-- a record of some facts -/
def Rec.pick (R : Rec) (ns : List Nat) : Rec := { R with fs := ns.filterMap fun k => R.fs[k]? }
theorem pick_next {R : Rec} {ns : List Nat} {i k : Nat} {f : Fact} (h : ns[i]? = some k) (hf : R.fs[k]? = some f) : R.pick (ns.take (i + 1)) = { R.pick (ns.take i) with fs := (R.pick (ns.take i)).fs ++ [f] } := by
  unfold Rec.pick
  rw [take_next h, List.filterMap_append]
  simp [hf]
theorem pick_len {R : Rec} {ns : List Nat} : (R.pick ns).fs.length ≤ ns.length := List.length_filterMap_le _ _
def sp_record_of (K : PySem.W.Frag) : Sp := Pr (ι := Addr × Rec × Addr × List Nat) (fun x => [.ref x.1, .ref x.2.2.1]) (fun _ x S => RecAt K S x.1 x.2.1 ∧ x.2.1.Ok ∧ S x.2.2.1 = some (.lst (natsV x.2.2.2)) ∧ (∀ k ∈ x.2.2.2, k < x.2.1.fs.length) ∧ x.2.2.2.length ≤ 20) (fun x S0 v S => ∃ q, v = .ref q ∧ RecAt K S q (x.2.1.pick x.2.2.2))
theorem c_record_of (T : Txt K mg) : C8.Cal P w K mg base 6 "record_of" (sp_record_of K) [] := mk_record_of T (pr_len (ps := ["record", "numbers"]) fun _ => rfl) (Bd.bs fun cdv A outer s H Q E hr => by
  have hu := hu_of hr
  have nd := sc_record_of.nd
  refine ⟨_, (pss_cons (ps_set (i := 2) nd rfl (by first | exact .inl rfl | exact .inr rfl) (C8.pe_mt0 (m_Record_facts (K := K) T) hr (by decide) (pv 0)))
      (pss_cons (ps_for PassesOwn.never rfl (piL (K := K) rfl (pv 1)) (pg_name (i := 3) nd rfl (by first | exact .inl rfl | exact .inr rfl))
      (pss_one (ps_if (pt_not (pt_val (C8.pe_c (c_is_between (K := K) T) hr (by decide) rfl (pa_cons (pv 3) (pa_cons pe_int (pa_cons (pe_op op_sub (pe_callB (cbLen (K := K) rfl) rfl (T.free 51 rfl) bt_len (pa_cons (pv 2) pa_nil)) pe_int) pa_nil)))))) (pss_one ps_never) pss_nil)))
      (pss_cons (ps_set (i := 4) nd rfl (by first | exact .inl rfl | exact .inr rfl) (C8.pe_mk (k_Record (K := K) T) hr (by decide) rfl (pa_cons (pe_pr (p_Record_meter (K := K) T) hr (by decide) (pv 0)) (pa_cons (pe_callB (call_lenOwn (m_Record_len (K := K) T) hr (by decide)) rfl (T.free 51 rfl) bt_len (pa_cons (pv 0) pa_nil)) (pa_cons (pe_pr (p_Record_top (K := K) T) hr (by decide) (pv 0)) pa_nil)))))
      (pss_cons (ps_for PassesOwn.never rfl (piL (K := K) rfl (pv 1)) (pg_name (i := 3) nd rfl (by first | exact .inl rfl | exact .inr rfl))
      (pss_one (ps_expr (C8.pe_c (c_tell_fact (K := K) T) hr (by decide) rfl (pa_cons (pv 4) (pa_cons (pe_ix (ixL (K := K) rfl) (pv 2) (pv 3) (fun _ _ => rfl)) pa_nil))))))
      (pss_one (ps_ret (pv 4))))))), fun g S0 x hp hQ => ?_⟩
  obtain ⟨r, R, pn, ns⟩ := x
  obtain ⟨hr0, ok, hpn, hns, hnl⟩ := hp
  dsimp only at hr0 ok hpn hns hnl
  obtain ⟨y, er, hr1, hB⟩ := RecAt.b hr0
  subst er
  have hn1 := ok.n1
  have ht1 := ok.t1
  show G ⟨g, S0, H⟩ _ (start N_record_of [.ref y.r, .ref pn]) [] S0
  refine gs_asg (w_m0 (w_var rfl) hr1 rfl w_nil (v_facts hr0)) fun v S1 e1 ⟨pf, qs, ev, hpf, hF⟩ => ?_
  subst ev
  refine gs_for (Rs := fun ys _ => ys = natsV ns) (w_iL (w_var rfl) (sq_of (e1 _ _ hpn))) fun ys S2 e2 ey => ?_
  subst ey
  refine ⟨fun i σ' m' K' => (∃ a, σ' = [some (.ref y.r), some (.ref pn), some (.ref pf), a, none]) ∧ m' = [] ∧ Ex S2 K', ⟨⟨none, rfl⟩, rfl, .refl _⟩, fun _ _ _ _ h => h.2.2, ?_, fun σ' m' K' ⟨⟨a, es⟩, em, e3⟩ => ?_⟩
  · rintro i z σ' m' K' hz ⟨⟨a, es⟩, em, e3⟩
    subst es em
    obtain ⟨k, hk, ez⟩ : ∃ k, ns[i]? = some k ∧ z = .int (k : Nat) := by
      rw [List.getElem?_map] at hz
      cases q : ns[i]? with
      | none => rw [q] at hz; cases hz
      | some k => rw [q] at hz; exact ⟨k, rfl, (Option.some.inj hz).symm⟩
    subst ez
    have hkl := hns k (List.mem_of_getElem? hk)
    refine g_name (g_ifF (w_not (w_tB (w_c0 (w_cons (w_var rfl) (w_cons w_c (w_cons (w_op (w_cb (w_cons (w_var rfl) w_nil) (w_lenL (sq_of (e3 _ _ (e2 _ _ hpf))))) w_c w_rI0) w_nil))) v_is_between))) ?_ (g_turn ⟨⟨_, rfl⟩, rfl, e3⟩))
    rw [List.length_map, hF.1, decide_eq_true (by omega), decide_eq_true (by omega)]
    rfl
  subst es em
  have e03 : Ex S0 K' := (e1.trans e2).trans e3
  have hp2 := hB.pp.mono e03
  refine gs_asgNE (R := MadeR K ⟨R.M, R.n, R.top, []⟩) (w_Record (w_cons (w_prop (w_var rfl) (e03 _ _ hr1) (v_rmeter (x := y) (e03 _ _ hr1))) (w_cons (w_cb (w_cons (w_var rfl) w_nil) (w_lenOwn (e03 _ _ hr1) (by omega) (v_rlen (x := y) (e03 _ _ hr1) hp2.tic))) (w_cons ((w_prop (w_var rfl) (e03 _ _ hr1) (v_rtop (x := y) (e03 _ _ hr1))).is (by rw [hB.top])) w_nil))) hp2.met (by omega) (by omega)) fun q ob S4 e4 hq hs4 ⟨rb, er, eo, hrb⟩ => ?_
  subst er eo
  have e05 : Ex K' (cut1 S4 rb.r) := Ex.cut e4 hq
  generalize cut1 S4 rb.r = K5 at hrb e05 ⊢
  refine gs_for (Rs := fun ys _ => ys = natsV ns) (w_iL (w_var rfl) (sq_of (e05 _ _ (e03 _ _ hpn)))) fun ys S6 e6 ey => ?_
  subst ey
  refine ⟨fun i σ' m' K' => ∃ x : RB, x.r = rb.r ∧ (∃ a, σ' = [some (.ref y.r), some (.ref pn), some (.ref pf), a, some (.ref rb.r)]) ∧ m' = [(x.r, x.o K)] ∧ Ex S6 K' ∧ RecB K K' x (R.pick (ns.take i)), ⟨rb, rfl, ⟨_, rfl⟩, rfl, .refl _, hrb.mono e6⟩, fun _ _ _ _ ⟨_, _, _, _, h, _⟩ => h, ?_, fun σ' m' K' ⟨x, ex, ⟨a, es⟩, em, e7, hx⟩ => ?_⟩
  · rintro i z σ' m' K' hz ⟨x, ex, ⟨a, es⟩, em, e7, hx⟩
    subst es em
    obtain ⟨k, hk, ez⟩ : ∃ k, ns[i]? = some k ∧ z = .int (k : Nat) := by
      rw [List.getElem?_map] at hz
      cases q : ns[i]? with
      | none => rw [q] at hz; cases hz
      | some k => rw [q] at hz; exact ⟨k, rfl, (Option.some.inj hz).symm⟩
    subst ez
    have hkl := hns k (List.mem_of_getElem? hk)
    obtain ⟨qk, hqk⟩ : ∃ q, qs[k]? = some q := ⟨_, List.getElem?_eq_getElem (by rw [hF.1]; exact hkl)⟩
    obtain ⟨f, hf⟩ : ∃ f, R.fs[k]? = some f := ⟨_, List.getElem?_eq_getElem hkl⟩
    have e2K := (((e2.trans e3).trans e05).trans e6).trans e7
    have hqf := e2K _ _ (hF.2 k qk f hqk hf)
    have hil := List.length_take_le' i ns
    refine g_name (g_dropO (RO := Told K x (R.pick (ns.take i)) f) (wo_c0 (w_cons (w_var rfl) (w_cons (w_op (w_var rfl) (w_var rfl) (w_ixL (sq_of (e2K _ _ hpf)) (at_map hqk))) w_nil)) fun vs S e hv => ?_) fun v o' S e ⟨_, t, eo, hx2⟩ => ?_)
    · rw [hv, ← ex]
      exact v_tell (hx.mono e) (e _ _ hqf) (ok.fo f (List.mem_of_getElem? hf)) (Nat.le_trans pick_len (by omega))
    · refine g_turn ⟨{ x with t := t }, ex, ⟨_, rfl⟩, by rw [eo], e7.trans e, ?_⟩
      rw [pick_next hk hf]
      exact hx2
  subst es em
  rw [List.length_map, List.take_length] at hx
  refine g_keepH fun k8 h8 => ?_
  refine g_weak ((((e03.trans e05).trans e6).trans e7).trans (Ex.new k8)) (.refl _) (g_retP (R := Is (.ref rb.r)) (w_var rfl) hQ fun v S e ev => ⟨x.r, by rw [ex]; exact ev, (RecB.at upd_same (hx.mono (Ex.new k8))).mono e⟩))

theorem v_record_of {r p : Addr} {R : Rec} {ns : List Nat} (h : RecAt K S r R) (ok : R.Ok) (hp : S p = some (.lst (natsV ns))) (hk : ∀ k ∈ ns, k < R.fs.length) (hl : ns.length ≤ 20) : SpW g (sp_record_of K) [.ref r, .ref p] S (fun v S' => ∃ q, v = .ref q ∧ RecAt K S' q (R.pick ns)) := w_pr (r, R, p, ns) (fun _ e => ⟨h.mono e, ok, e _ _ hp, hk, hl⟩) fun _ _ _ _ _ h => h
end
end Cm

/-! ## E10 -/
set_option maxHeartbeats 4000000
/-! Clashes: kept facts, needless facts, lists, the fewest clash. -/
namespace Cm
open PySem PySem.Spec PyProof.Rows L2 Evl
local macro_rules | `(tactic| walk_at "w") => `(tactic| first
  | exact w_c
  | ((refine w_var ?_); rfl)
  | exact w_nil
  | ((refine w_cons (x := ?x) (xs := ?xs) ?h1 ?h2); (case h1 => walk_at "w"); (case h2 => walk_at "w"))
  | ((refine w_op (x := ?x) (y := ?y) ?h1 ?h2 ?h3); (case h1 => walk_at "w"); (case h2 => walk_at "w"); (case h3 => walk_at "w"))
  | exact w_rI0
  | exact w_rU
  | ((refine w_un (x := ?x) ?h1 ?h2); (case h1 => walk_at "w"); (case h2 => walk_at "w"))
  | ((refine w_rEq ?_); rfl)
  | ((refine w_rNe ?_); rfl)
  | ((refine w_test (b := ?b) ?h1); (case h1 => walk_at "w"))
  | ((refine w_tB (b := ?b) ?h1); (case h1 => walk_at "w"))
  | ((refine w_not (a := ?a) ?h1); (case h1 => walk_at "w"))
  | ((refine w_orU (a := ?a) (b := ?b) ?h1 ?h2); (case h1 => walk_at "w"); (case h2 => walk_at "w"))
  | ((refine w_andU (a := ?a) (b := ?b) ?h1 ?h2); (case h1 => walk_at "w"); (case h2 => walk_at "w"))
  | ((refine w_notV (a := ?a) ?h1); (case h1 => walk_at "w"))
  | ((refine w_orVU (a := ?a) (b := ?b) ?h1 ?h2); (case h1 => walk_at "w"); (case h2 => walk_at "w"))
  | ((refine w_andVU (a := ?a) (b := ?b) ?h1 ?h2); (case h1 => walk_at "w"); (case h2 => walk_at "w"))
  | ((refine w_chain1 (x := ?x) (y := ?y) (z := ?z) (p := ?p) (q := ?q) ?h1 ?h2 ?h3 ?h4 ?h5); (case h1 => walk_at "w"); (case h2 => walk_at "w"); (case h3 => walk_at "w"); (case h4 => walk_at "w"); (case h5 => walk_at "w"))
  | exact w_isN
  | exact w_max2
  | exact w_min2
  | exact w_int1
  | exact w_abs
  | (refine w_rI ?_; decide)
  | assumption)

section
variable {P : Program} {w : World} {K : PySem.W.Frag} {mg : Str → Option Value} {base : Heap} {g : Bg} {S : Hp}
theorem w_mO {C : Addr} {mn : Str} {sp : Sp} {E : XK} {σ : L2.St} {ta : TE} {Ra R : V → Hp → Prop} {K : Hp} (ho : W g (ta σ) K Ra) (hs : ∀ x S, Ex K S → Ra x S → ∃ p dx fs, x = .ref p ∧ S p = some (.ins C dx fs) ∧ fs.lookup mn = none ∧ SpW g sp [.ref p] S R) : W g (tMeth C mn sp [] E ta tNil σ) K R :=
  ho.bind (h := fun (x : V) (H1 : Hp) (Q : VK) => ∃ a dx fs, x = .ref a ∧ H1 a = some (.ins C dx fs) ∧ fs.lookup mn = none ∧ tNil σ H1 fun vs H2 => sp (x :: (vs ++ [])) H2 Q E) fun x S e hx => by
    obtain ⟨p, dx, fs, ex, hp, hl, h⟩ := hs x S e hx
    subst ex
    exact fun K2 H e2 a Q q => ⟨p, dx, fs, rfl, a.kh _ _ (e2 _ _ hp), hl, h E K2 H e2 a Q q⟩
theorem w_lenFacts {σ : L2.St} {te : TE} {fs : List Fact} (h : W g (te σ) S (fun v S' => ∃ p qs, v = .ref p ∧ S' p = some (.lst (qs.map V.ref)) ∧ FactsAt S' qs fs)) : W g (tCB (rLenS K) (tCons te tNil) σ) S (Is (.int (fs.length : Nat))) :=
  w_cbR (w_consR (R := fun vs S => ∃ p qs, vs = [.ref p] ∧ S p = some (.lst (qs.map V.ref)) ∧ qs.length = fs.length) h fun v S e ⟨p, qs, ev, hp, hF⟩ => w_nilR fun S2 e2 => ⟨p, qs, by rw [ev], e2 _ _ hp, hF.1⟩) fun vs S e ⟨p, qs, ev, hp, hl⟩ => ev ▸ (w_lenL (sq_of hp)).is (by rw [List.length_map, hl])
theorem rgV_nats {n : Nat} : rgV 0 n = natsV (List.range n) := by
  unfold rgV natsV
  rw [show ((n : Int) - 0).toNat = n by omega]
  refine List.map_congr_left fun i _ => ?_
  rw [Int.zero_add]
theorem pick_ok {R : Rec} (ok : R.Ok) {ns : List Nat} (h : ns.length ≤ 10) : (R.pick ns).Ok := ⟨ok.m, ok.n1, ok.t1, ok.few, ok.room, Nat.le_trans pick_len h, fun f hf => by
  obtain ⟨k, _, hk⟩ := List.mem_filterMap.mp hf
  exact ok.fo f (List.mem_of_getElem? hk)⟩
theorem v_how {r : Addr} {R : Rec} (h : RecAt K S r R) (ok : R.Ok) : ∃ (p dx : Addr) (fs : List (Str × V)), V.ref r = .ref p ∧ S p = some (.ins (CR K) dx fs) ∧ fs.lookup ("how_many" : Str) = none ∧ SpW g (sp_Record_how_many K) [.ref p] S (Is (.int R.howMany)) := by
  obtain ⟨x, er, h1, _⟩ := h.b
  exact ⟨r, x.dx, _, rfl, h1, rfl, v_how_many h ok⟩
/-- record_of(r, a list).how_many() -/
theorem w_howPick {σ : L2.St} {r : Addr} {R : Rec} {ns : List Nat} {E E2 : XK} {tr : TA} (h : RecAt K S r R) (ok : R.Ok) (ht : W g (tr σ) S fun vs S' => ∃ p, vs = [.ref r, .ref p] ∧ S' p = some (.lst (natsV ns))) (hk : ∀ k ∈ ns, k < R.fs.length) (hl : ns.length ≤ 10) :
    W g (tMeth (CR K) "how_many" (sp_Record_how_many K) [] E (tCall (sp_record_of K) [] E2 tr) tNil σ) S (Is (.int (R.pick ns).howMany)) :=
  w_mO (w_cR ht fun vs S' e ⟨p, ev, hp⟩ => ev ▸ v_record_of (h.mono e) ok hp hk (by omega)) fun x S' e ⟨q, ex, hq⟩ => ex ▸ v_how hq (pick_ok ok hl)
theorem others_in {ns : List Nat} {n b : Nat} (h : ∀ k ∈ ns, k < b) : ∀ k ∈ othersOf ns n, k < b := fun k hk => h k (List.mem_filter.mp hk).1
theorem others_len {ns : List Nat} {n : Nat} : (othersOf ns n).length ≤ ns.length := List.length_filter_le _ _
/-- record_of(r, others_of(p, n)).how_many() -/
theorem w_howOthers {σ : L2.St} {r p : Addr} {R : Rec} {ns : List Nat} {n i j l : Nat} {E E2 E3 : XK} (h : RecAt K S r R) (ok : R.Ok) (hp : S p = some (.lst (natsV ns))) (hi : W g (tVar i σ) S (Is (.ref r))) (hj : ∀ S, W g (tVar j σ) S (Is (.ref p))) (hl : ∀ S, W g (tVar l σ) S (Is (.int (n : Nat)))) (hk : ∀ k ∈ ns, k < R.fs.length) (hn : ns.length ≤ 10) :
    W g (tMeth (CR K) "how_many" (sp_Record_how_many K) [] E (tCall (sp_record_of K) [] E2 (tCons (tVar i) (tCons (tCall (sp_others_of K) [] E3 (tCons (tVar j) (tCons (tVar l) tNil))) tNil))) tNil σ) S (Is (.int (R.pick (othersOf ns n)).howMany)) :=
  w_howPick h ok (w_consR hi fun v S e ev => w_consR (w_c0 (w_cons (hj _) (w_cons (hl _) w_nil)) (v_others (e _ _ hp) (by omega))) fun v2 S2 e2 ⟨q, ev2, hq⟩ => w_nilR fun S3 e3 => ⟨q, by rw [ev, ev2], e3 _ _ hq⟩) (others_in hk) (Nat.le_trans others_len hn)
/-- the numbers of needless facts -/
def Rec.needless (R : Rec) : List Nat := (List.range R.fs.length).filter fun k => decide ((R.pick (othersOf (List.range R.fs.length) k)).howMany = R.howMany)
def Rec.keptOn (R : Rec) (ks kept : List Nat) : List Nat := ks.foldl (fun kept k => if (R.pick (othersOf kept k)).howMany = R.howMany then othersOf kept k else kept) kept
def Rec.kept (R : Rec) : List Nat := R.keptOn (List.range R.fs.length).reverse (List.range R.fs.length)
def sp_needless_facts (K : PySem.W.Frag) : Sp := Pr (ι := Addr × Rec) (fun x => [.ref x.1]) (fun _ x S => RecAt K S x.1 x.2 ∧ x.2.Ok) (fun x S0 v S => ∃ q, v = .ref q ∧ S q = some (.lst (natsV x.2.needless)))
theorem c_needless_facts (T : Txt K mg) : C8.Cal P w K mg base 10 "needless_facts" (sp_needless_facts K) [] := mk_needless_facts T (pr_len (ps := ["record"]) fun _ => rfl) (Bd.bs fun cdv A outer s H Q E hr => by
  have hu := hu_of hr
  have nd := sc_needless_facts.nd
  refine ⟨_, (pss_cons (ps_set (i := 1) nd rfl (by first | exact .inl rfl | exact .inr rfl) (pe_listRg rfl rfl (T.free 53 rfl) (prg_1 rfl (T.free 54 rfl) (pe_callB (cbLen (K := K) rfl) rfl (T.free 51 rfl) bt_len (pa_cons (C8.pe_mt0 (m_Record_facts (K := K) T) hr (by decide) (pv 0)) pa_nil)))))
      (pss_cons (ps_set (i := 2) nd rfl (by first | exact .inl rfl | exact .inr rfl) (C8.pe_mt0 (m_Record_how_many (K := K) T) hr (by decide) (pv 0)))
      (pss_one (ps_ret (pe_lc (own := [("number", 3)]) (g := gName 3) rfl nd (piL (K := K) rfl (pv 1)) (blkOk_by (own := [("number", 3)]) (N := N_needless_facts) (sc := d_needless_facts.scope) (by decide +kernel)) (fun _ _ _ _ _ => (pg_name (i := 3) nd rfl (by first | exact .inl rfl | exact .inr rfl))) (fun _ _ _ _ _ => (pts_one (pt_cmpR op_eq (C8.pe_mt0 (m_Record_how_many (K := K) T) hr (by decide) (C8.pe_c (c_record_of (K := K) T) hr (by decide) rfl (pa_cons (pv 0) (pa_cons (C8.pe_c (c_others_of (K := K) T) hr (by decide) rfl (pa_cons (pv 1) (pa_cons (pv 3) pa_nil))) pa_nil)))) (pv 2) (nomark _)))) (fun _ _ _ _ _ => (pv 3))))))), fun g S0 x hp hQ => ?_⟩
  obtain ⟨r, R⟩ := x
  obtain ⟨hr0, ok⟩ := hp
  dsimp only at hr0 ok
  obtain ⟨y, er, hr1, hB⟩ := RecAt.b hr0
  subst er
  have hfl := ok.fl
  show G ⟨g, S0, H⟩ _ (start N_needless_facts [.ref y.r]) [] S0
  refine gs_asg (w_lstRg (n := (R.fs.length : Nat)) (w_lenFacts (w_m0 (w_var rfl) hr1 rfl w_nil (v_facts hr0))) (by unfold RgOk; omega)) fun v S1 e1 ⟨pn, ev, _, hpn⟩ => ?_
  subst ev
  rw [rgV_nats] at hpn
  refine gs_asgI (w_m0 (w_var rfl) (e1 _ _ hr1) rfl w_nil (v_how_many (hr0.mono e1) ok)) ?_
  refine g_weak e1 (.refl _) (g_retP (w_lcF (ys := List.range R.fs.length) (h := fun (n : Nat) => V.int (n : Int)) (f := fun (n : Nat) => V.int (n : Int)) (p := fun k => decide ((R.pick (othersOf (List.range R.fs.length) k)).howMany = R.howMany)) (w_iL (w_var rfl) (sq_of hpn)) (by rw [List.length_range]; omega) fun i k S hk e => ⟨_, tg_name, rfl, w_test (w_op (w_howOthers (hr0.mono (e1.trans e)) ok (e _ _ hpn) (w_var rfl) (fun _ => w_var rfl) (fun _ => w_var rfl) (fun k hk => List.mem_range.mp hk) (by rw [List.length_range]; omega)) (w_var rfl) w_eqI), fun _ => w_var rfl⟩) hQ fun v S e ⟨q, ev, _, hq⟩ => ⟨q, ev, hq⟩))

def sp_kept_facts (K : PySem.W.Frag) : Sp := Pr (ι := Addr × Rec) (fun x => [.ref x.1]) (fun _ x S => RecAt K S x.1 x.2 ∧ x.2.Ok) (fun x S0 v S => ∃ q, v = .ref q ∧ S q = some (.lst (natsV x.2.kept)))
theorem c_kept_facts (T : Txt K mg) : C8.Cal P w K mg base 10 "kept_facts" (sp_kept_facts K) [] := mk_kept_facts T (pr_len (ps := ["record"]) fun _ => rfl) (Bd.bs fun cdv A outer s H Q E hr => by
  have hu := hu_of hr
  have nd := sc_kept_facts.nd
  refine ⟨_, (pss_cons (ps_set (i := 1) nd rfl (by first | exact .inl rfl | exact .inr rfl) (pe_listRg rfl rfl (T.free 53 rfl) (prg_1 rfl (T.free 54 rfl) (pe_callB (cbLen (K := K) rfl) rfl (T.free 51 rfl) bt_len (pa_cons (C8.pe_mt0 (m_Record_facts (K := K) T) hr (by decide) (pv 0)) pa_nil)))))
      (pss_cons (ps_set (i := 2) nd rfl (by first | exact .inl rfl | exact .inr rfl) (C8.pe_mt0 (m_Record_how_many (K := K) T) hr (by decide) (pv 0)))
      (pss_cons (ps_for PassesOwn.never rfl (piL (K := K) rfl (peRevL (K := K) rfl (pv 1))) (pg_name (i := 3) nd rfl (by first | exact .inl rfl | exact .inr rfl))
      (pss_one (ps_if (pt_cmpR op_eq (C8.pe_mt0 (m_Record_how_many (K := K) T) hr (by decide) (C8.pe_c (c_record_of (K := K) T) hr (by decide) rfl (pa_cons (pv 0) (pa_cons (C8.pe_c (c_others_of (K := K) T) hr (by decide) rfl (pa_cons (pv 1) (pa_cons (pv 3) pa_nil))) pa_nil)))) (pv 2) (nomark _)) (pss_one (ps_set (i := 1) nd rfl (by first | exact .inl rfl | exact .inr rfl) (C8.pe_c (c_others_of (K := K) T) hr (by decide) rfl (pa_cons (pv 1) (pa_cons (pv 3) pa_nil))))) pss_nil)))
      (pss_one (ps_ret (pv 1)))))), fun g S0 x hp hQ => ?_⟩
  obtain ⟨r, R⟩ := x
  obtain ⟨hr0, ok⟩ := hp
  dsimp only at hr0 ok
  obtain ⟨y, er, hr1, hB⟩ := RecAt.b hr0
  subst er
  have hfl := ok.fl
  show G ⟨g, S0, H⟩ _ (start N_kept_facts [.ref y.r]) [] S0
  refine gs_asg (w_lstRg (n := (R.fs.length : Nat)) (w_lenFacts (w_m0 (w_var rfl) hr1 rfl w_nil (v_facts hr0))) (by unfold RgOk; omega)) fun v S1 e1 ⟨pn, ev, _, hpn⟩ => ?_
  subst ev
  rw [rgV_nats] at hpn
  refine gs_asgI (w_m0 (w_var rfl) (e1 _ _ hr1) rfl w_nil (v_how_many (hr0.mono e1) ok)) ?_
  refine gs_for (Rs := fun ys _ => ys = natsV (List.range R.fs.length).reverse) (w_iLR (w_revL (w_var rfl) (sq_of hpn)) fun v S e ⟨q, ev, _, hs⟩ => ⟨q, _, ev, sq_of hs, by rw [← List.map_reverse]⟩) fun ys S2 e2 ey => ?_
  subst ey
  refine ⟨fun i σ' m' K' => ∃ (pk : Addr) (ns : List Nat), (∃ a, σ' = [some (.ref y.r), some (.ref pk), some (.int R.howMany), a]) ∧ m' = [] ∧ Ex S2 K' ∧ K' pk = some (.lst (natsV ns)) ∧ ns = R.keptOn ((List.range R.fs.length).reverse.take i) (List.range R.fs.length) ∧ (∀ k ∈ ns, k < R.fs.length) ∧ ns.length ≤ 10, ⟨pn, _, ⟨none, rfl⟩, rfl, .refl _, e2 _ _ hpn, rfl, fun k hk => List.mem_range.mp hk, by rw [List.length_range]; exact hfl⟩, fun _ _ _ _ ⟨_, _, _, _, h, _⟩ => h, ?_, fun σ' m' K' ⟨pk, ns, ⟨a, es⟩, em, eK, hpk, hns, hk, hn⟩ => ?_⟩
  · rintro i z σ' m' K' hz ⟨pk, ns, ⟨a, es⟩, em, eK, hpk, hns, hk, hn⟩
    subst es em
    obtain ⟨k, hik, ez⟩ : ∃ k, (List.range R.fs.length).reverse[i]? = some k ∧ z = .int (k : Nat) := by
      rw [List.getElem?_map] at hz
      cases q : (List.range R.fs.length).reverse[i]? with
      | none => rw [q] at hz; cases hz
      | some k => rw [q] at hz; exact ⟨k, rfl, (Option.some.inj hz).symm⟩
    subst ez
    have e0 : Ex S0 K' := (e1.trans e2).trans eK
    have enext : R.keptOn ((List.range R.fs.length).reverse.take (i + 1)) (List.range R.fs.length) = if (R.pick (othersOf ns k)).howMany = R.howMany then othersOf ns k else ns := by
      rw [take_next hik, hns]
      unfold Rec.keptOn
      rw [List.foldl_append]
      rfl
    refine g_name (g_ifN (b := decide ((R.pick (othersOf ns k)).howMany = R.howMany)) (w_test (w_op (w_howOthers (hr0.mono e0) ok hpk (w_var rfl) (fun _ => w_var rfl) (fun _ => w_var rfl) hk hn) (w_var rfl) w_eqI)) (fun hb => ?_) fun hb => ?_)
    · refine g_asg (w_c0 (w_cons (w_var rfl) (w_cons (w_var rfl) w_nil)) (v_others hpk (by omega))) fun v S5 e5 ⟨q, ev, hq⟩ => ?_
      subst ev
      exact g_turn ⟨q, _, ⟨_, rfl⟩, rfl, eK.trans e5, hq, by rw [enext, if_pos (of_decide_eq_true hb)], others_in hk, Nat.le_trans others_len hn⟩
    · exact g_turn ⟨pk, ns, ⟨_, rfl⟩, rfl, eK, hpk, by rw [enext, if_neg (of_decide_eq_false hb)], hk, hn⟩
  subst es em
  rw [List.length_map, List.take_length] at hns
  refine g_weak ((e1.trans e2).trans eK) (.refl _) (g_retP (R := Is (.ref pk)) (w_var rfl) hQ fun v S e ev => ⟨pk, ev, ?_⟩)
  rw [e _ _ hpk, hns]
  rfl)

end
end Cm

/-! ## E11 -/
set_option maxHeartbeats 4000000
/-! Clashes: lists, the fewest clash. -/
namespace Cm
open PySem PySem.Spec PyProof.Rows L2 Evl
local macro_rules | `(tactic| walk_at "w") => `(tactic| first
  | exact w_c
  | ((refine w_var ?_); rfl)
  | exact w_nil
  | ((refine w_cons (x := ?x) (xs := ?xs) ?h1 ?h2); (case h1 => walk_at "w"); (case h2 => walk_at "w"))
  | ((refine w_op (x := ?x) (y := ?y) ?h1 ?h2 ?h3); (case h1 => walk_at "w"); (case h2 => walk_at "w"); (case h3 => walk_at "w"))
  | exact w_rI0
  | exact w_rU
  | ((refine w_un (x := ?x) ?h1 ?h2); (case h1 => walk_at "w"); (case h2 => walk_at "w"))
  | ((refine w_rEq ?_); rfl)
  | ((refine w_rNe ?_); rfl)
  | ((refine w_test (b := ?b) ?h1); (case h1 => walk_at "w"))
  | ((refine w_tB (b := ?b) ?h1); (case h1 => walk_at "w"))
  | ((refine w_not (a := ?a) ?h1); (case h1 => walk_at "w"))
  | ((refine w_orU (a := ?a) (b := ?b) ?h1 ?h2); (case h1 => walk_at "w"); (case h2 => walk_at "w"))
  | ((refine w_andU (a := ?a) (b := ?b) ?h1 ?h2); (case h1 => walk_at "w"); (case h2 => walk_at "w"))
  | ((refine w_notV (a := ?a) ?h1); (case h1 => walk_at "w"))
  | ((refine w_orVU (a := ?a) (b := ?b) ?h1 ?h2); (case h1 => walk_at "w"); (case h2 => walk_at "w"))
  | ((refine w_andVU (a := ?a) (b := ?b) ?h1 ?h2); (case h1 => walk_at "w"); (case h2 => walk_at "w"))
  | ((refine w_chain1 (x := ?x) (y := ?y) (z := ?z) (p := ?p) (q := ?q) ?h1 ?h2 ?h3 ?h4 ?h5); (case h1 => walk_at "w"); (case h2 => walk_at "w"); (case h3 => walk_at "w"); (case h4 => walk_at "w"); (case h5 => walk_at "w"))
  | exact w_isN
  | exact w_max2
  | exact w_min2
  | exact w_int1
  | exact w_abs
  | (refine w_rI ?_; decide)
  | assumption)

section
variable {P : Program} {w : World} {K : PySem.W.Frag} {mg : Str → Option Value} {base : Heap} {g : Bg} {S : Hp}
def moreOn (many : Nat) (ns : List Nat) : List Nat := (List.range many).filter fun m => decide (ns = []) || decide (ns.getLast?.getD 0 < m)
def listsOf (many : Nat) : Nat → List (List Nat)
  | 0 => [[]]
  | k + 1 => (listsOf many k).flatMap fun ns => (moreOn many ns).map fun m => ns ++ [m]
theorem lists_few : ∀ many k : Nat, many ≤ 10 → k ≤ many → (listsOf many k).length ≤ 300 := by
  have h : ∀ m : Fin 11, ∀ k : Fin 11, (listsOf m.val k.val).length ≤ 300 := by decide +kernel
  exact fun many k h1 h2 => h ⟨many, by omega⟩ ⟨k, by omega⟩
theorem lists_in {many : Nat} : ∀ k, ∀ ns ∈ listsOf many k, ns.length = k ∧ ∀ x ∈ ns, x < many
  | 0, ns, h => by rw [List.mem_singleton.mp h]; exact ⟨rfl, fun x hx => by cases hx⟩
  | k + 1, ns, h => by
    obtain ⟨q, hq, hn⟩ := List.mem_flatMap.mp h
    obtain ⟨m, hm, e⟩ := List.mem_map.mp hn
    have ih := lists_in k q hq
    rw [← e, List.length_append, ih.1]
    refine ⟨rfl, fun x hx => ?_⟩
    rcases List.mem_append.mp hx with y | y
    · exact ih.2 x y
    · rw [List.mem_singleton.mp y]; exact List.mem_range.mp (List.mem_filter.mp hm).1
/-- lists of numbers in the heap -/
def LsAt (S : Hp) (qs : List Addr) (L : List (List Nat)) : Prop := qs.length = L.length ∧ ∀ (i : Nat) q ns, qs[i]? = some q → L[i]? = some ns → S q = some (.lst (natsV ns))
theorem LsAt.mono {S S' : Hp} {qs : List Addr} {L : List (List Nat)} (e : Ex S S') (h : LsAt S qs L) : LsAt S' qs L := ⟨h.1, fun i q p a b => e _ _ (h.2 i q p a b)⟩
theorem LsAt.snoc {S : Hp} {vs : List Addr} {ds : List (List Nat)} {v : Addr} {d : List Nat} (h : LsAt S vs ds) (hv : S v = some (.lst (natsV d))) : LsAt S (vs ++ [v]) (ds ++ [d]) := by
  refine ⟨by rw [List.length_append, List.length_append, h.1]; rfl, fun i u c hi hj => ?_⟩
  by_cases z : i < vs.length
  · rw [List.getElem?_append_left z] at hi
    rw [List.getElem?_append_left (by rw [← h.1]; exact z)] at hj
    exact h.2 i u c hi hj
  · rw [List.getElem?_append_right (by omega)] at hi
    rw [List.getElem?_append_right (by rw [← h.1]; omega), ← h.1] at hj
    have h0 : i - vs.length = 0 := by
      have := (List.getElem?_eq_some_iff.mp hi).1
      rw [List.length_singleton] at this
      omega
    rw [h0] at hi hj
    cases hi
    cases hj
    exact hv
theorem LsAt.get {S : Hp} {qs : List Addr} {L : List (List Nat)} (h : LsAt S qs L) {i : Nat} {v : V} (hi : (qs.map V.ref)[i]? = some v) : ∃ q ns, v = .ref q ∧ L[i]? = some ns ∧ S q = some (.lst (natsV ns)) := by
  rw [List.getElem?_map] at hi
  cases e : qs[i]? with
  | none => rw [e] at hi; cases hi
  | some q =>
    rw [e] at hi
    cases hi
    have hl := (List.getElem?_eq_some_iff.mp e).1
    have hd := List.getElem?_eq_getElem (h.1 ▸ hl : i < L.length)
    exact ⟨q, _, rfl, hd, h.2 i q _ e hd⟩
def sp_lists_of (K : PySem.W.Frag) : Sp := Pr (ι := Nat × Nat) (fun x => [.int x.1, .int x.2]) (fun _ x S => x.1 ≤ 10 ∧ x.2 ≤ x.1) (fun x S0 v S => ∃ q qs, v = .ref q ∧ S q = some (.lst (qs.map V.ref)) ∧ LsAt S qs (listsOf x.1 x.2))
theorem c_lists_of (T : Txt K mg) : C8.Cal P w K mg base 1 "lists_of" (sp_lists_of K) [] := mk_lists_of T (pr_len (ps := ["many", "size"]) fun _ => rfl) (Bd.bs fun cdv A outer s H Q E hr => by
  have hu := hu_of hr
  have nd := sc_lists_of.nd
  refine ⟨_, (pss_cons (ps_set (i := 2) nd rfl (by first | exact .inl rfl | exact .inr rfl) (pe_lst (pa_cons (pe_lst pa_nil) pa_nil)))
      (pss_cons (ps_for PassesOwn.never rfl (pi_range1 rfl (T.free 54 rfl) (pa_cons (pv 1) pa_nil)) (pg_name (i := 3) nd rfl (by first | exact .inl rfl | exact .inr rfl))
      (pss_one (ps_setLc2 (i := 2) (own := [("numbers", 4), ("more", 5)]) (vs1 := [5]) (g := gName 4) (g1 := gName 5) (tt := tYes) rfl nd rfl rfl (sw_true rfl rfl rfl (by decide +kernel)) (piL (K := K) rfl (pv 2)) (blkOk_by (own := [("numbers", 4), ("more", 5)]) (N := N_lists_of) (sc := d_lists_of.scope) (by decide +kernel)) (by decide) (fun _ _ _ _ _ => (pg_name (i := 4) nd rfl (by first | exact .inl rfl | exact .inr rfl))) (fun _ _ _ _ _ => pts_nil) (fun _ _ _ _ _ => (pi_range1 rfl (T.free 54 rfl) (pa_cons (pv 0) pa_nil))) (fun _ _ _ _ _ => (pg_name (i := 5) nd rfl (by first | exact .inl rfl | exact .inr rfl))) (fun _ _ _ _ _ => (pts_one (PW.pt (pw_or (pt_cmpR (opEqD (K := K) rfl hr.units) (pv 4) (pe_lst pa_nil) (nomark _)) (pw_or1 (pt_cmpR op_gt (pv 5) (pe_ix (ixL (K := K) rfl) (pv 4) (pe_un un_neg pe_int) (fun _ _ => rfl)) (nomark _))))))) (fun _ _ _ _ _ => (pe_lst (paStar (K := K) rfl (pv 4) (pa_cons (pv 5) pa_nil)))))))
      (pss_one (ps_ret (pv 2))))), fun g S0 x hp hQ => ?_⟩
  obtain ⟨many, size⟩ := x
  obtain ⟨h1, h2⟩ := hp
  dsimp only at h1 h2
  show G ⟨g, S0, H⟩ _ (start N_lists_of [.int many, .int size]) [] S0
  refine gs_asg (R := fun v S => ∃ q qs, v = .ref q ∧ S q = some (.lst (qs.map V.ref)) ∧ LsAt S qs (listsOf many 0)) (w_lstR (Ra := fun xs S => ∃ q, xs = [.ref q] ∧ S q = some (.lst [])) (w_consR (w_lst (xs := []) w_nil) fun v S e ⟨q, ev, hq⟩ => w_nilR fun S2 e2 => ⟨q, by rw [ev], e2 _ _ hq⟩) fun xs S e ⟨q, ex, hq⟩ => ⟨by rw [ex]; exact (by decide : 1 ≤ 1000), fun p hp => ⟨p, [q], rfl, by rw [upd_same, ex]; rfl, rfl, fun i a b ha hb => ?_⟩⟩) fun v S1 e1 ⟨pp, qs, ev, hpp, hqs⟩ => ?_
  · match i, ha, hb with
    | 0, ha, hb => cases ha; cases hb; exact (Ex.new hp) _ _ hq
  subst ev
  refine gs_for (Rs := fun ys _ => ys = (List.range size).map fun (i : Nat) => V.int (i : Int)) (w_iN (n := size) (w_cons (w_var rfl) w_nil) rfl (by omega)) fun ys S2 e2 ey => ?_
  subst ey
  refine ⟨fun t σ' m' K' => ∃ pp qs, (∃ a b c, σ' = [some (.int many), some (.int size), some (.ref pp), a, b, c]) ∧ m' = [] ∧ Ex S2 K' ∧ K' pp = some (.lst (qs.map V.ref)) ∧ LsAt K' qs (listsOf many t), ⟨pp, qs, ⟨none, none, none, rfl⟩, rfl, .refl _, e2 _ _ hpp, hqs.mono e2⟩, fun _ _ _ _ ⟨_, _, _, _, h, _⟩ => h, ?_, fun σ' m' K' ⟨pp, qs, ⟨a, b, c, es⟩, em, eK, hpp, hqs⟩ => ?_⟩
  · rintro t z σ' m' K' hz ⟨pp, qs, ⟨a, b, c, es⟩, em, eK, hpp, hqs⟩
    subst es em
    have ht : t < size := by
      have := (List.getElem?_eq_some_iff.mp hz).1
      rw [List.length_map, List.length_range] at this
      exact this
    refine g_name ?_
    have hf1 := lists_few many t h1 (by omega)
    have hf2 := lists_few many (t + 1) h1 (by omega)
    have hin := lists_in (many := many) t
    have enext : listsOf many (t + 1) = (listsOf many t).flatMap fun ns => (moreOn many ns).map fun m => ns ++ [m] := rfl
    generalize listsOf many t = L at hqs hf1 hin enext
    refine g_asg (R := fun v S => ∃ p' qs', v = .ref p' ∧ S p' = some (.lst (qs'.map V.ref)) ∧ LsAt S qs' (listsOf many (t + 1))) (w_lc2 (Rs := fun xs _ => xs = qs.map V.ref) (w_iL (w_var rfl) (sq_of hpp)) fun xs S3 e3 ex => ?_) fun v S9 e9 ⟨p', qs', ev, h1, h2⟩ => ?_
    rotate_left
    · subst ev
      exact g_turn ⟨p', qs', ⟨_, _, _, rfl⟩, rfl, eK.trans e9, h1, h2⟩
    subst ex
    refine ⟨fun i acc S' => ∃ gs, acc = gs.map V.ref ∧ LsAt S' gs ((L.take i).flatMap fun ns => (moreOn many ns).map fun m => ns ++ [m]) ∧ Ex S3 S', ⟨[], rfl, ⟨rfl, fun i a b h => by cases h⟩, .refl _⟩, ?_, fun acc S' p' e4 ⟨gs, ea, hg, e5⟩ hp' hk => ⟨p', gs, rfl, by rw [upd_same, ea], ?_⟩⟩
    rotate_left
    · rw [List.length_map, hqs.1, List.take_length, ← enext] at hg
      exact hg.mono (Ex.new hp')
    rintro i x acc S' hx e4 ⟨gs, ea, hg, e5⟩
    obtain ⟨q, ns, ex, hns, hq⟩ := (hqs.mono (e3.trans e4)).get hx
    subst ex
    have hin := hin ns (List.mem_of_getElem? hns)
    have hil := (List.getElem?_eq_some_iff.mp hns).1
    have hpre : ((L.take (i + 1)).flatMap fun ns => (moreOn many ns).map fun m => ns ++ [m]).length ≤ 300 := by
      refine Nat.le_trans ?_ hf2
      rw [enext]
      conv => rhs; rw [← List.take_append_drop (i + 1) L, List.flatMap_append, List.length_append]
      omega
    rw [take_next hns, List.flatMap_append, List.flatMap_cons, List.flatMap_nil, List.append_nil, List.length_append, List.length_map] at hpre
    refine ⟨_, tg_name, rfl, w_val fun H e Q q => q, fun ys S => ys = (List.range many).map fun (i : Nat) => V.int (i : Int), fun S4 e6 => w_iN (n := many) (w_cons (w_var rfl) w_nil) rfl (by omega), fun ys S4 e6 ey => ?_⟩
    subst ey
    have hq4 := e6 _ _ hq
    refine ⟨fun j ac S5 => ∃ gs', ac = gs'.map V.ref ∧ LsAt S5 gs' (((L.take i).flatMap fun ns => (moreOn many ns).map fun m => ns ++ [m]) ++ ((((List.range many).take j).filter fun m => decide (ns = []) || decide (ns.getLast?.getD 0 < m)).map fun m => ns ++ [m])) ∧ Ex S4 S5, ⟨gs, ea, by rw [List.take_zero]; simpa using hg.mono e6, .refl _⟩, fun j ac S5 ⟨gs', eac, hg', _⟩ => ?_, fun j v ac S5 hj e7 ⟨gs', eac, hg', e8⟩ => ?_, fun ac S5 e7 ⟨gs', eac, hg', e8⟩ => ⟨gs', eac, ?_, (e5.trans e6).trans e8⟩⟩
    · rw [eac, List.length_map, hg'.1, List.length_append, List.length_map]
      have h1 := List.length_filter_le (fun m => decide (ns = []) || decide (ns.getLast?.getD 0 < m)) ((List.range many).take j)
      have h2 := List.length_take_le' j (List.range many)
      rw [List.length_range] at h2
      omega
    · obtain ⟨hjl, ev⟩ : j < many ∧ v = .int (j : Nat) := by
        have hl := (List.getElem?_eq_some_iff.mp hj).1
        rw [List.length_map, List.length_range] at hl
        rw [List.getElem?_map, List.getElem?_range hl] at hj
        exact ⟨hl, (Option.some.inj hj).symm⟩
      subst ev
      have htk : (List.range many).take (j + 1) = (List.range many).take j ++ [j] := take_next (List.getElem?_range hjl)
      have hq5 := e8 _ _ hq4
      refine ⟨_, tg_name, rfl, W.imp (w_or (a := decide (ns = [])) (b := decide (ns.getLast?.getD 0 < j)) (w_test (w_opN2 (o := .lst ([].map V.int)) (w_var rfl) (w_lstO w_nil) fun p S e hs => ?_)) fun hne => w_test (w_op (w_var rfl) (w_op (w_var rfl) (w_un w_c w_rU) (w_ixL (v := .int ((ns.getLast?.getD 0 : Nat) : Int)) (sq_of hq5) ?_)) (w_rI0.is ?_))) fun b S6 e10 eb => ?_⟩
      · refine (w_eqLI (ns := ns.map fun (n : Nat) => (n : Int)) (ms := []) (by rw [List.map_map]; exact e _ _ hq5) hs).is ?_
        congr 1
        by_cases h : ns = []
        · rw [h]; rfl
        · rw [decide_eq_false h]; exact decide_eq_false fun z => h (List.map_eq_nil_iff.mp z)
      · have hne := of_decide_eq_false hne
        obtain ⟨us, u, hu⟩ : ∃ us u, ns = us ++ [u] := ⟨_, _, (List.dropLast_concat_getLast hne).symm⟩
        rw [hu]
        unfold natsV
        rw [List.map_append, List.getLast?_append]
        exact atI_last _ _
      · show V.bl (decide (((ns.getLast?.getD 0 : Nat) : Int) < (j : Int))) = _
        congr 1
        exact decide_eq_decide.mpr Int.ofNat_lt
      · cases eb
        refine ⟨fun hb => W.imp (w_lst (xs := natsV (ns ++ [j])) (w_star (w_var rfl) fun x S e ex => ⟨q, _, ex, .inr (sq_of (e _ _ (e10 _ _ hq5))), (w_cons (w_var rfl) w_nil).imp fun ys S2 e2 hy => ?_⟩) ?_) fun v S7 e11 ⟨q', ev, hq'⟩ => ⟨gs' ++ [q'], ?_, ?_, (e8.trans e10).trans e11⟩, fun hb => ⟨gs', eac, ?_, e8.trans e10⟩⟩
        · cases hy
          unfold natsV
          rw [List.map_append]
          rfl
        · rw [List.length_map, List.length_append, hin.1, List.length_singleton]
          omega
        · rw [ev, eac, List.map_append]
          rfl
        · rw [htk, List.filter_append, List.filter_cons_of_pos (p := fun m => decide (ns = []) || decide (ns.getLast?.getD 0 < m)) hb, List.filter_nil, List.map_append, ← List.append_assoc]
          exact ((hg'.mono e10).mono e11).snoc hq'
        · rw [htk, List.filter_append, List.filter_cons_of_neg (p := fun m => decide (ns = []) || decide (ns.getLast?.getD 0 < m)) (by rw [hb]; decide), List.filter_nil, List.append_nil]
          exact hg'.mono e10
    · rw [List.length_map, List.take_length] at hg'
      rw [take_next hns, List.flatMap_append, List.flatMap_cons, List.flatMap_nil, List.append_nil]
      exact hg'
  subst es em
  rw [List.length_map, List.length_range] at hqs
  exact g_weak ((e1.trans e2).trans eK) (.refl _) (g_retP (R := Is (.ref pp)) (w_var rfl) hQ fun v S e ev => ⟨pp, qs, ev, e _ _ hpp, hqs.mono e⟩))

end
end Cm

/-! ## E12 -/
set_option maxHeartbeats 4000000
/-! Clashes: the fewest clash; looks. -/
namespace Cm
open PySem PySem.Spec PyProof.Rows L2 Evl
local macro_rules | `(tactic| walk_at "w") => `(tactic| first
  | exact w_c
  | ((refine w_var ?_); rfl)
  | exact w_nil
  | ((refine w_cons (x := ?x) (xs := ?xs) ?h1 ?h2); (case h1 => walk_at "w"); (case h2 => walk_at "w"))
  | ((refine w_op (x := ?x) (y := ?y) ?h1 ?h2 ?h3); (case h1 => walk_at "w"); (case h2 => walk_at "w"); (case h3 => walk_at "w"))
  | exact w_rI0
  | exact w_rU
  | ((refine w_un (x := ?x) ?h1 ?h2); (case h1 => walk_at "w"); (case h2 => walk_at "w"))
  | ((refine w_rEq ?_); rfl)
  | ((refine w_rNe ?_); rfl)
  | ((refine w_test (b := ?b) ?h1); (case h1 => walk_at "w"))
  | ((refine w_tB (b := ?b) ?h1); (case h1 => walk_at "w"))
  | ((refine w_not (a := ?a) ?h1); (case h1 => walk_at "w"))
  | ((refine w_orU (a := ?a) (b := ?b) ?h1 ?h2); (case h1 => walk_at "w"); (case h2 => walk_at "w"))
  | ((refine w_andU (a := ?a) (b := ?b) ?h1 ?h2); (case h1 => walk_at "w"); (case h2 => walk_at "w"))
  | ((refine w_notV (a := ?a) ?h1); (case h1 => walk_at "w"))
  | ((refine w_orVU (a := ?a) (b := ?b) ?h1 ?h2); (case h1 => walk_at "w"); (case h2 => walk_at "w"))
  | ((refine w_andVU (a := ?a) (b := ?b) ?h1 ?h2); (case h1 => walk_at "w"); (case h2 => walk_at "w"))
  | ((refine w_chain1 (x := ?x) (y := ?y) (z := ?z) (p := ?p) (q := ?q) ?h1 ?h2 ?h3 ?h4 ?h5); (case h1 => walk_at "w"); (case h2 => walk_at "w"); (case h3 => walk_at "w"); (case h4 => walk_at "w"); (case h5 => walk_at "w"))
  | exact w_isN
  | exact w_max2
  | exact w_min2
  | exact w_int1
  | exact w_abs
  | (refine w_rI ?_; decide)
  | assumption)

section
variable {P : Program} {w : World} {K : PySem.W.Frag} {mg : Str → Option Value} {base : Heap} {g : Bg} {S : Hp}
theorem v_lists {many size : Nat} (h : many ≤ 10 ∧ size ≤ many) : SpW g (sp_lists_of K) [.int many, .int size] S (fun v S' => ∃ q qs, v = .ref q ∧ S' q = some (.lst (qs.map V.ref)) ∧ LsAt S' qs (listsOf many size)) := w_pr (many, size) (fun _ e => h) fun _ _ _ _ _ h => h
theorem find_stop {α : Type} {L : List α} {p : α → Bool} {j : Nat} {x : α} (h : (L.take j).find? p = none) (hx : L[j]? = some x) (hp : p x = true) : L.find? p = some x := by
  have e : L = L.take j ++ x :: L.drop (j + 1) := by
    conv => lhs; rw [← List.take_append_drop (j + 1) L, take_next hx, List.append_assoc]
    rfl
  rw [e, List.find?_append, h, List.find?_cons_of_pos hp]
  rfl
theorem find_next {α : Type} {L : List α} {p : α → Bool} {j : Nat} {x : α} (h : (L.take j).find? p = none) (hx : L[j]? = some x) (hp : p x = false) : (L.take (j + 1)).find? p = none := by
  rw [take_next hx, List.find?_append, h, List.find?_cons_of_neg (by rw [hp]; decide)]
  rfl
theorem some_stop {α β : Type} {L : List α} {f : α → Option β} {j : Nat} {x : α} {y : β} (h : (L.take j).findSome? f = none) (hx : L[j]? = some x) (hp : f x = some y) : L.findSome? f = some y := by
  have e : L = L.take j ++ x :: L.drop (j + 1) := by
    conv => lhs; rw [← List.take_append_drop (j + 1) L, take_next hx, List.append_assoc]
    rfl
  rw [e, List.findSome?_append, h, List.findSome?_cons, hp]
  rfl
theorem some_next {α β : Type} {L : List α} {f : α → Option β} {j : Nat} {x : α} (h : (L.take j).findSome? f = none) (hx : L[j]? = some x) (hp : f x = none) : (L.take (j + 1)).findSome? f = none := by
  rw [take_next hx, List.findSome?_append, h, List.findSome?_cons, hp]
  rfl
def Rec.clashAt (R : Rec) (k : Nat) : Option (List Nat) := (listsOf R.fs.length (k + 1)).find? fun ns => decide ((R.pick ns).howMany = 0)
def Rec.clash (R : Rec) : Option (List Nat) := if 0 < R.howMany then none else (List.range R.fs.length).findSome? R.clashAt
def ClashIs (S : Hp) (v : V) : Option (List Nat) → Prop
  | none => v = .non
  | some ns => ∃ q, v = .ref q ∧ S q = some (.lst (natsV ns))
def sp_fewest_clash (K : PySem.W.Frag) : Sp := Pr (ι := Addr × Rec) (fun x => [.ref x.1]) (fun _ x S => RecAt K S x.1 x.2 ∧ x.2.Ok) (fun x S0 v S => ClashIs S v x.2.clash)
theorem c_fewest_clash (T : Txt K mg) : C8.Cal P w K mg base 10 "fewest_clash" (sp_fewest_clash K) [] := mk_fewest_clash T (pr_len (ps := ["record"]) fun _ => rfl) (Bd.bs fun cdv A outer s H Q E hr => by
  have hu := hu_of hr
  have nd := sc_fewest_clash.nd
  refine ⟨_, (pss_cons (ps_if (pt_cmpR op_gt (C8.pe_mt0 (m_Record_how_many (K := K) T) hr (by decide) (pv 0)) pe_int (nomark _)) (pss_one (ps_ret pe_non)) pss_nil)
      (pss_cons (ps_set (i := 1) nd rfl (by first | exact .inl rfl | exact .inr rfl) (pe_callB (cbLen (K := K) rfl) rfl (T.free 51 rfl) bt_len (pa_cons (C8.pe_mt0 (m_Record_facts (K := K) T) hr (by decide) (pv 0)) pa_nil)))
      (pss_cons (ps_for PassesOwn.never rfl (pi_range2 rfl (T.free 54 rfl) (pa_cons pe_int (pa_cons (pe_op op_add (pv 1) pe_int) pa_nil))) (pg_name (i := 2) nd rfl (by first | exact .inl rfl | exact .inr rfl))
      (pss_one (ps_for PassesOwn.never rfl (piL (K := K) rfl (C8.pe_c (c_lists_of (K := K) T) hr (by decide) rfl (pa_cons (pv 1) (pa_cons (pv 2) pa_nil)))) (pg_name (i := 3) nd rfl (by first | exact .inl rfl | exact .inr rfl))
      (pss_one (ps_if (pt_cmpR op_eq (C8.pe_mt0 (m_Record_how_many (K := K) T) hr (by decide) (C8.pe_c (c_record_of (K := K) T) hr (by decide) rfl (pa_cons (pv 0) (pa_cons (pv 3) pa_nil)))) pe_int (nomark _)) (pss_one (ps_ret (pv 3))) pss_nil)))))
      (pss_one (ps_ret pe_non))))), fun g S0 x hp hQ => ?_⟩
  obtain ⟨r, R⟩ := x
  obtain ⟨hr0, ok⟩ := hp
  dsimp only at hr0 ok
  obtain ⟨y, er, hr1, hB⟩ := RecAt.b hr0
  subst er
  have hfl := ok.fl
  show G ⟨g, S0, H⟩ _ (start N_fewest_clash [.ref y.r]) [] S0
  refine gs_ifN (b := decide (0 < R.howMany)) (w_test (w_op (w_m0 (w_var rfl) hr1 rfl w_nil (v_how_many hr0 ok)) w_c w_rI0)) (fun hb => ?_) fun hb => ?_
  · refine g_retI (v := .non) w_c hQ fun S e => ?_
    show ClashIs S .non R.clash
    unfold Rec.clash
    rw [if_pos (of_decide_eq_true hb)]
    rfl
  have hz := of_decide_eq_false hb
  have hclash : R.clash = (List.range R.fs.length).findSome? R.clashAt := if_neg hz
  refine gs_asgI (w_lenFacts (w_m0 (w_var rfl) hr1 rfl w_nil (v_facts hr0))) ?_
  refine gs_for (Rs := fun ys _ => ys = rgL 1 R.fs.length) ((w_iR2 (w_cons w_c (w_cons (w_op (w_var rfl) w_c w_rI0) w_nil)) (by omega)).imp fun J S e ⟨ys, h1, h2⟩ => ⟨ys, h1, by rw [h2]; congr 1; omega⟩) fun ys S2 e2 ey => ?_
  subst ey
  refine ⟨fun i σ' m' K' => (∃ a b, σ' = [some (.ref y.r), some (.int (R.fs.length : Nat)), a, b] ∧ ((List.range R.fs.length).take i).findSome? R.clashAt = none) ∧ m' = [] ∧ Ex S2 K', ⟨⟨none, none, rfl, rfl⟩, rfl, .refl _⟩, fun _ _ _ _ h => h.2.2, ?_, fun σ' m' K' ⟨⟨a, b, es, hno⟩, em, e3⟩ => ?_⟩
  · rintro i z σ' m' K' hz ⟨⟨a, b, es, hno⟩, em, e3⟩
    subst es em
    obtain ⟨hi, ez⟩ := rgL_at hz
    subst ez
    have e0 : Ex S0 K' := e2.trans e3
    have hrg : (List.range R.fs.length)[i]? = some i := List.getElem?_range hi
    have hin := lists_in (many := R.fs.length) (i + 1)
    refine g_name (g_for (Rs := fun ys S => ∃ qs, ys = qs.map V.ref ∧ LsAt S qs (listsOf R.fs.length (i + 1))) (w_iLR (w_c0 (w_cons (w_var rfl) (w_cons (w_var rfl) w_nil)) (show SpW g (sp_lists_of K) [.int (R.fs.length : Nat), .int (1 + (i : Nat))] K' _ from (show (1 + (i : Int)) = ((i + 1 : Nat) : Int) by omega) ▸ v_lists ⟨hfl, by omega⟩)) fun v S e ⟨q, qs, ev, hq, hL⟩ => ⟨q, _, ev, sq_of hq, qs, rfl, hL⟩) fun ys S5 e5 ⟨qs, ey, hL⟩ => ?_)
    subst ey
    refine ⟨fun j σ' m' K4 => (∃ b, σ' = [some (.ref y.r), some (.int (R.fs.length : Nat)), some (.int (1 + (i : Nat))), b] ∧ ((listsOf R.fs.length (i + 1)).take j).find? (fun ns => decide ((R.pick ns).howMany = 0)) = none) ∧ m' = [] ∧ Ex S5 K4, ⟨⟨_, rfl, rfl⟩, rfl, .refl _⟩, fun _ _ _ _ h => h.2.2, ?_, fun σ' m' K4 ⟨⟨b, es, hno2⟩, em, e6⟩ => ?_⟩
    · rintro j z σ' m' K4 hz ⟨⟨b, es, hno2⟩, em, e6⟩
      subst es em
      have e04 := (e0.trans e5).trans e6
      obtain ⟨q, ns, ez, hns, hq⟩ := (hL.mono e6).get hz
      subst ez
      have hn := hin ns (List.mem_of_getElem? hns)
      refine g_name (g_ifN (b := decide ((R.pick ns).howMany = 0)) (w_test (w_op (w_howPick (hr0.mono e04) ok (w_consR (w_var rfl : W _ _ _ (Is (.ref y.r))) fun v S e ev => w_consR (w_var rfl : W _ _ _ (Is (.ref q))) fun v2 S2 e2 ev2 => w_nilR fun S3 e3 => ⟨q, by rw [ev, ev2], e3 _ _ (e2 _ _ (e _ _ hq))⟩) hn.2 (by rw [hn.1]; omega)) w_c w_eqI)) (fun hb => ?_) fun hb => ?_)
      · refine g_weak e04 (.refl _) (g_retI (v := .ref q) (w_var rfl) hQ fun S e => ?_)
        show ClashIs S (.ref q) R.clash
        rw [hclash, some_stop hno hrg (find_stop hno2 hns hb)]
        exact ⟨q, rfl, e _ _ hq⟩
      · exact g_turn ⟨⟨_, rfl, find_next hno2 hns hb⟩, rfl, e6⟩
    · subst es em
      rw [List.length_map, hL.1, List.take_length] at hno2
      exact g_turn ⟨⟨_, _, rfl, some_next hno hrg hno2⟩, rfl, (e3.trans e5).trans e6⟩
  subst es em
  refine g_weak (e2.trans e3) (.refl _) (g_retI (v := .non) w_c hQ fun S e => ?_)
  show ClashIs S .non R.clash
  rw [rgL_len] at hno
  rw [hclash]
  have := hno
  rw [show (List.range R.fs.length).take R.fs.length = List.range R.fs.length from List.take_of_length_le (by rw [List.length_range]; exact Nat.le_refl _)] at this
  rw [this]
  rfl)

theorem v_clash {r : Addr} {R : Rec} (h : RecAt K S r R) (ok : R.Ok) : SpW g (sp_fewest_clash K) [.ref r] S (fun v S' => ClashIs S' v R.clash) := w_pr (r, R) (fun _ e => ⟨h.mono e, ok⟩) fun _ _ _ _ _ h => h
end
end Cm

/-! ## P3 -/
set_option maxHeartbeats 4000000
/-! Dicts of numbers by numbers. -/
namespace Cm
open PySem PySem.Spec PyProof.Rows L2 Evl
abbrev Ip := List (Int × Int)
def ik (p : Int) : Key := .inl p
theorem ik_inj {p q : Int} : ik p = ik q ↔ p = q := ⟨fun h => Sum.inl.inj h, fun h => by rw [h]⟩
def ienc (D : Ip) : List (Key × V) := D.map fun e => (ik e.1, .int e.2)
namespace Ip
def get (D : Ip) (p : Int) : Option Int := (D.find? fun e => decide (e.1 = p)).map (·.2)
def get0 (D : Ip) (p : Int) : Int := (D.get p).getD 0
def put (D : Ip) (p : Int) (n : Int) : Ip := if D.any fun e => decide (e.1 = p) then D.map fun e => if e.1 = p then (e.1, n) else e else D ++ [(p, n)]
end Ip
theorem ienc_len (D : Ip) : (ienc D).length = D.length := List.length_map _
theorem ienc_get (D : Ip) (p : Int) : valV (ienc D) (ik p) = (D.get p).map V.int := by
  unfold valV ienc Ip.get
  rw [List.find?_map]
  have e : ((fun kv : Key × V => decide (kv.1 = ik p)) ∘ fun e : Int × Int => (ik e.1, V.int e.2)) = fun e : Int × Int => decide (e.1 = p) := by
    funext e
    exact decide_eq_decide.mpr ik_inj
  rw [e]
  cases D.find? fun e => decide (e.1 = p) <;> rfl
theorem ienc_put (D : Ip) (p : Int) (n : Int) : putK (ienc D) (ik p) (.int n) = ienc (D.put p n) := by
  unfold putK Ip.put
  have e : (ienc D).any (fun kv => decide (kv.1 = ik p)) = D.any fun e => decide (e.1 = p) := by
    unfold ienc
    rw [List.any_map]
    congr 1
    funext e
    exact decide_eq_decide.mpr ik_inj
  rw [e]
  cases D.any fun e => decide (e.1 = p) with
  | true =>
    rw [if_pos rfl, if_pos rfl]
    unfold ienc
    rw [List.map_map, List.map_map]
    refine List.map_congr_left fun e _ => ?_
    show (if ik e.1 = ik p then (ik e.1, V.int n) else (ik e.1, .int e.2)) = (ik (if e.1 = p then (e.1, n) else e).1, .int (if e.1 = p then (e.1, n) else e).2)
    by_cases h : e.1 = p
    · rw [if_pos h, if_pos (ik_inj.mpr h)]
    · rw [if_neg h, if_neg (fun z => h (ik_inj.mp z))]
  | false =>
    rw [if_neg (by decide), if_neg (by decide)]
    unfold ienc
    rw [List.map_append]
    rfl
namespace Ip
theorem get_put (D : Ip) (p q : Int) (n : Int) : (D.put p n).get q = if q = p then some n else D.get q := by
  have h := valV_put (ienc D) (ik p) (ik q) (.int n)
  rw [ienc_put, ienc_get, ienc_get] at h
  by_cases z : q = p
  · rw [if_pos z]
    rw [if_pos (ik_inj.mpr z)] at h
    cases e : (D.put p n).get q with
    | none => rw [e] at h; cases h
    | some x => rw [e] at h; cases h; rfl
  · rw [if_neg z]
    rw [if_neg (fun y => z (ik_inj.mp y))] at h
    cases e : (D.put p n).get q <;> cases e2 : D.get q <;> rw [e, e2] at h <;> cases h <;> rfl
theorem get_mem {D : Ip} {p : Int} {n : Int} (h : D.get p = some n) : (p, n) ∈ D := by
  unfold get at h
  obtain ⟨e, he, en⟩ := Option.map_eq_some_iff.mp h
  have h1 := List.mem_of_find?_eq_some he
  have h2 : e.1 = p := by simpa using List.find?_some he
  rw [← h2, ← en]
  exact h1
theorem mem_get {D : Ip} (nd : (D.map (·.1)).Nodup) {p : Int} {n : Int} (h : (p, n) ∈ D) : D.get p = some n := by
  unfold get
  induction D with
  | nil => cases h
  | cons e D ih =>
    have nd := List.nodup_cons.mp nd
    rcases List.mem_cons.mp h with z | z
    · rw [← z, List.find?_cons_of_pos (by simp)]
      rfl
    · have : e.1 ≠ p := fun y => nd.1 (by show e.1 ∈ _; rw [y]; exact List.mem_map.mpr ⟨_, z, rfl⟩)
      rw [List.find?_cons_of_neg (by simpa using this)]
      exact ih nd.2 z
theorem put_keys {D : Ip} {p : Int} {n : Int} : (D.put p n).map (·.1) = if p ∈ D.map (·.1) then D.map (·.1) else D.map (·.1) ++ [p] := by
  unfold put
  have e : (D.any fun e => decide (e.1 = p)) = decide (p ∈ D.map (·.1)) := by
    rw [Bool.eq_iff_iff, List.any_eq_true, decide_eq_true_iff]
    constructor
    · rintro ⟨x, h1, h2⟩
      exact List.mem_map.mpr ⟨x, h1, of_decide_eq_true h2⟩
    · intro h
      obtain ⟨x, h1, h2⟩ := List.mem_map.mp h
      exact ⟨x, h1, decide_eq_true h2⟩
  rw [e]
  by_cases h : p ∈ D.map (·.1)
  · rw [decide_eq_true h, if_pos rfl, if_pos h, List.map_map]
    refine List.map_congr_left fun e _ => ?_
    show (if e.1 = p then (e.1, n) else e).1 = e.1
    by_cases z : e.1 = p
    · rw [if_pos z]
    · rw [if_neg z]
  · rw [decide_eq_false h, if_neg (by decide), if_neg h, List.map_append]
    rfl
end Ip
end Cm

/-! ## M1 -/
set_option maxHeartbeats 4000000
/-! The mathematics: sums over beginnings, ends, trips. -/
namespace Cm
open PySem PySem.Spec PyProof.Rows L2 Evl
/-- the sum of f over a list -/
def S1 {α : Type} (L : List α) (f : α → Int) : Int := (L.map f).sum
section
variable {α β : Type} {L M : List α} {f g : α → Int}
theorem S1_nil : S1 ([] : List α) f = 0 := rfl
theorem S1_cons {a : α} : S1 (a :: L) f = f a + S1 L f := by unfold S1; rw [List.map_cons, List.sum_cons]
theorem S1_one {a : α} : S1 [a] f = f a := by rw [S1_cons, S1_nil, Int.add_zero]
theorem S1_append : S1 (L ++ M) f = S1 L f + S1 M f := by
  induction L with
  | nil => rw [List.nil_append, S1_nil, Int.zero_add]
  | cons a L ih => rw [List.cons_append, S1_cons, S1_cons, ih, Int.add_assoc]
theorem S1_map {h : β → α} {N : List β} : S1 (N.map h) f = S1 N fun x => f (h x) := by unfold S1; rw [List.map_map]; rfl
theorem S1_flat {h : β → List α} {N : List β} : S1 (N.flatMap h) f = S1 N fun x => S1 (h x) f := by
  induction N with
  | nil => rfl
  | cons a N ih => rw [List.flatMap_cons, S1_append, S1_cons, ih]
theorem S1_congr (h : ∀ x ∈ L, f x = g x) : S1 L f = S1 L g := by unfold S1; rw [List.map_congr_left h]
theorem S1_filter {p : α → Bool} : S1 (L.filter p) f = S1 L fun x => if p x = true then f x else 0 := by
  induction L with
  | nil => rfl
  | cons a L ih =>
    rw [S1_cons]
    cases h : p a with
    | true => rw [List.filter_cons_of_pos h, S1_cons, ih, if_pos rfl]
    | false => rw [List.filter_cons_of_neg (by rw [h]; decide), ih, if_neg (by decide), Int.zero_add]
theorem S1_mul {c : Int} : S1 L (fun x => c * f x) = c * S1 L f := by
  induction L with
  | nil => rw [S1_nil, S1_nil, Int.mul_zero]
  | cons a L ih => rw [S1_cons, S1_cons, ih, Int.mul_add]
theorem S1_add : S1 L (fun x => f x + g x) = S1 L f + S1 L g := by
  induction L with
  | nil => rfl
  | cons a L ih => rw [S1_cons, S1_cons, S1_cons, ih]; omega
theorem S1_zero : S1 L (fun _ => 0) = 0 := by
  induction L with
  | nil => rfl
  | cons a L ih => rw [S1_cons, ih]; rfl
theorem S1_none (h : ∀ x ∈ L, f x = 0) : S1 L f = 0 := (S1_congr h).trans S1_zero
theorem S1_le (h : ∀ x ∈ L, f x ≤ g x) : S1 L f ≤ S1 L g := by
  induction L with
  | nil => exact Int.le_refl _
  | cons a L ih =>
    rw [S1_cons, S1_cons]
    have := h a List.mem_cons_self
    have := ih fun x hx => h x (List.mem_cons_of_mem _ hx)
    omega
theorem S1_pos (h : ∀ x ∈ L, 0 ≤ f x) : 0 ≤ S1 L f := by
  have := S1_le (L := L) (f := fun _ => 0) (g := f) h
  rwa [S1_zero] at this
theorem S1_in (h : ∀ x ∈ L, 0 ≤ f x) {a : α} (ha : a ∈ L) : f a ≤ S1 L f := by
  induction L with
  | nil => cases ha
  | cons b L ih =>
    rw [S1_cons]
    rcases List.mem_cons.mp ha with e | e
    · have := S1_pos fun x hx => h x (List.mem_cons_of_mem _ hx)
      rw [e]; omega
    · have := ih (fun x hx => h x (List.mem_cons_of_mem _ hx)) e
      have := h b List.mem_cons_self
      omega
theorem S1_len : S1 L (fun _ => 1) = L.length := by
  induction L with
  | nil => rfl
  | cons a L ih => rw [S1_cons, ih, List.length_cons]; omega
theorem S1_swap {N : List β} {h : α → β → Int} : S1 L (fun x => S1 N (h x)) = S1 N fun y => S1 L fun x => h x y := by
  induction L with
  | nil => exact S1_zero.symm
  | cons a L ih =>
    rw [S1_cons, ih, ← S1_add]
    exact S1_congr fun y _ => (S1_cons (L := L) (a := a) (f := fun x => h x y)).symm
theorem S1_some (h : ∀ x ∈ L, 0 ≤ f x) (p : 0 < S1 L f) : ∃ x ∈ L, 0 < f x := by
  induction L with
  | nil => exact absurd p (Int.lt_irrefl 0)
  | cons a L ih =>
    by_cases z : 0 < f a
    · exact ⟨a, List.mem_cons_self, z⟩
    · rw [S1_cons] at p
      obtain ⟨x, hx, hp⟩ := ih (fun x hx => h x (List.mem_cons_of_mem _ hx)) (by omega)
      exact ⟨x, List.mem_cons_of_mem _ hx, hp⟩
end
/-! dicts, whatever the keys are -/
section
variable {κ : Type} [DecidableEq κ]
def qget (D : List (κ × Int)) (p : κ) : Option Int := (D.find? fun e => decide (e.1 = p)).map (·.2)
def qget0 (D : List (κ × Int)) (p : κ) : Int := (qget D p).getD 0
def qput (D : List (κ × Int)) (p : κ) (n : Int) : List (κ × Int) := if D.any fun e => decide (e.1 = p) then D.map fun e => if e.1 = p then (e.1, n) else e else D ++ [(p, n)]
variable {D : List (κ × Int)} {p q : κ} {n : Int} {e : κ × Int} {φ : κ → Int}
theorem qput_eq (h : e.1 = p) (hp : p ∉ D.map (·.1)) : qput (e :: D) p n = (p, n) :: D := by
  unfold qput
  rw [List.any_cons, decide_eq_true h, Bool.true_or, if_pos rfl, List.map_cons, if_pos h, h]
  congr 1
  conv => rhs; rw [← List.map_id D]
  refine List.map_congr_left fun x hx => ?_
  rw [if_neg fun z => hp (by rw [← z]; exact List.mem_map_of_mem hx)]
  rfl
theorem qput_ne (h : e.1 ≠ p) : qput (e :: D) p n = e :: qput D p n := by
  unfold qput
  rw [List.any_cons, decide_eq_false h, Bool.false_or]
  split
  · rw [List.map_cons, if_neg h]
  · rfl
theorem qget_eq (h : e.1 = p) : qget (e :: D) p = some e.2 := by
  unfold qget
  rw [List.find?_cons_of_pos (by simpa using h)]
  rfl
theorem qget_ne (h : e.1 ≠ p) : qget (e :: D) p = qget D p := by
  unfold qget
  rw [List.find?_cons_of_neg (by simpa using h)]
theorem qget_no (h : p ∉ D.map (·.1)) : qget D p = none := by
  induction D with
  | nil => rfl
  | cons e D ih =>
    rw [List.map_cons, List.mem_cons, not_or] at h
    rw [qget_ne (Ne.symm h.1), ih h.2]
theorem qget_in (h : p ∈ D.map (·.1)) : ∃ n, qget D p = some n ∧ (p, n) ∈ D := by
  induction D with
  | nil => cases h
  | cons e D ih =>
    by_cases z : e.1 = p
    · exact ⟨e.2, qget_eq z, by rw [← z]; exact List.mem_cons_self⟩
    · rw [List.map_cons, List.mem_cons] at h
      obtain ⟨n, h1, h2⟩ := ih (h.resolve_left (Ne.symm z))
      exact ⟨n, (qget_ne z).trans h1, List.mem_cons_of_mem _ h2⟩
theorem qput_keys : (qput D p n).map (·.1) = if p ∈ D.map (·.1) then D.map (·.1) else D.map (·.1) ++ [p] := by
  induction D with
  | nil => rfl
  | cons e D ih =>
    by_cases z : e.1 = p
    · rw [if_pos (by rw [List.map_cons, z]; exact List.mem_cons_self)]
      unfold qput
      rw [List.any_cons, decide_eq_true z, Bool.true_or, if_pos rfl, List.map_map]
      refine List.map_congr_left fun x _ => ?_
      show (if x.1 = p then (x.1, n) else x).1 = x.1
      split <;> rfl
    · rw [qput_ne z, List.map_cons, ih]
      by_cases y : p ∈ D.map (·.1)
      · rw [if_pos y, if_pos (by rw [List.map_cons]; exact List.mem_cons_of_mem _ y), List.map_cons]
      · rw [if_neg y, if_neg (by rw [List.map_cons, List.mem_cons, not_or]; exact ⟨Ne.symm z, y⟩), List.map_cons, List.cons_append]
theorem qput_nd (nd : (D.map (·.1)).Nodup) : ((qput D p n).map (·.1)).Nodup := by
  rw [qput_keys]
  split
  · exact nd
  · rename_i h
    rw [List.nodup_append]
    exact ⟨nd, by simp, fun x hx y hy e => h (by rw [← List.mem_singleton.mp hy, ← e]; exact hx)⟩
theorem qput_mem : q ∈ (qput D p n).map (·.1) ↔ q ∈ D.map (·.1) ∨ q = p := by
  rw [qput_keys]
  split
  · rename_i h
    exact ⟨.inl, fun z => z.elim id fun y => by rw [y]; exact h⟩
  · rw [List.mem_append, List.mem_singleton]
theorem qput_sum (nd : (D.map (·.1)).Nodup) : S1 (qput D p (qget0 D p + n)) (fun e => e.2 * φ e.1) = S1 D (fun e => e.2 * φ e.1) + n * φ p := by
  induction D with
  | nil =>
    show S1 [(p, 0 + n)] _ = _
    rw [S1_one, S1_nil, Int.zero_add, Int.zero_add]
  | cons e D ih =>
    have nd2 := List.nodup_cons.mp nd
    by_cases z : e.1 = p
    · rw [qput_eq z (by rw [← z]; exact nd2.1), S1_cons, S1_cons]
      show (qget0 (e :: D) p + n) * φ p + _ = _
      unfold qget0
      rw [qget_eq z, ← z]
      show (e.2 + n) * φ e.1 + _ = _
      rw [Int.add_mul]
      omega
    · have : qget0 (e :: D) p = qget0 D p := by unfold qget0; rw [qget_ne z]
      rw [qput_ne z, S1_cons, S1_cons, this, ih nd2.2]
      omega
theorem qput_pos (h : ∀ e ∈ D, 1 ≤ e.2) (hn : 1 ≤ n) : ∀ e ∈ qput D p (qget0 D p + n), 1 ≤ e.2 := by
  have h0 : 0 ≤ qget0 D p := by
    unfold qget0
    by_cases z : p ∈ D.map (·.1)
    · obtain ⟨m, h1, h2⟩ := qget_in z
      have := h _ h2
      rw [h1]
      exact Int.le_trans (by decide) this
    · rw [qget_no z]; exact Int.le_refl _
  generalize qget0 D p = m at h0 ⊢
  unfold qput
  intro e he
  split at he
  · obtain ⟨x, hx, ex⟩ := List.mem_map.mp he
    subst ex
    split
    · show 1 ≤ m + n
      omega
    · exact h x hx
  · rcases List.mem_append.mp he with z | z
    · exact h e z
    · rw [List.mem_singleton.mp z]
      show 1 ≤ m + n
      omega
/-- numbers added up -/
def qall (L : List (κ × Int)) (D : List (κ × Int)) : List (κ × Int) := L.foldl (fun D x => qput D x.1 (qget0 D x.1 + x.2)) D
theorem qall_nd {L : List (κ × Int)} : ∀ {D : List (κ × Int)}, (D.map (·.1)).Nodup → ((qall L D).map (·.1)).Nodup := by
  induction L with
  | nil => exact id
  | cons x L ih => exact fun h => ih (qput_nd h)
theorem qall_sum {L : List (κ × Int)} : ∀ {D : List (κ × Int)}, (D.map (·.1)).Nodup → S1 (qall L D) (fun e => e.2 * φ e.1) = S1 D (fun e => e.2 * φ e.1) + S1 L (fun e => e.2 * φ e.1) := by
  induction L with
  | nil => intro D _; rw [S1_nil, Int.add_zero]; rfl
  | cons x L ih =>
    intro D h
    show S1 (qall L (qput D x.1 (qget0 D x.1 + x.2))) _ = _
    rw [ih (qput_nd h), qput_sum h, S1_cons, Int.add_assoc]
theorem qall_pos {L : List (κ × Int)} (hL : ∀ e ∈ L, 1 ≤ e.2) : ∀ {D : List (κ × Int)}, (∀ e ∈ D, 1 ≤ e.2) → ∀ e ∈ qall L D, 1 ≤ e.2 := by
  induction L with
  | nil => exact fun h => h
  | cons x L ih => exact fun h => ih (fun e he => hL e (List.mem_cons_of_mem _ he)) (qput_pos h (hL x List.mem_cons_self))
theorem qall_mem {L : List (κ × Int)} : ∀ {D : List (κ × Int)}, q ∈ (qall L D).map (·.1) ↔ q ∈ D.map (·.1) ∨ q ∈ L.map (·.1) := by
  induction L with
  | nil => intro D; exact ⟨.inl, fun h => h.elim id fun z => by cases z⟩
  | cons x L ih =>
    intro D
    show q ∈ (qall L (qput D x.1 (qget0 D x.1 + x.2))).map (·.1) ↔ _
    rw [ih, qput_mem, List.map_cons, List.mem_cons, or_assoc]
theorem qput_len : (qput D p n).length ≤ D.length + 1 := by
  unfold qput
  split
  · rw [List.length_map]; omega
  · rw [List.length_append]; exact Nat.le_refl _
theorem qall_len {L : List (κ × Int)} : ∀ {D : List (κ × Int)}, (qall L D).length ≤ D.length + L.length := by
  induction L with
  | nil => exact Nat.le_refl _
  | cons x L ih =>
    intro D
    show (qall L (qput D x.1 (qget0 D x.1 + x.2))).length ≤ _
    have h1 := ih (D := qput D x.1 (qget0 D x.1 + x.2))
    have h2 := qput_len (D := D) (p := x.1) (n := qget0 D x.1 + x.2)
    rw [List.length_cons]
    omega
theorem qget_sum (nd : (D.map (·.1)).Nodup) : S1 D (fun e => e.2 * (if e.1 = p then 1 else 0)) = qget0 D p := by
  unfold qget0
  induction D with
  | nil => rfl
  | cons e D ih =>
    have nd2 := List.nodup_cons.mp nd
    rw [S1_cons]
    by_cases z : e.1 = p
    · rw [qget_eq z, if_pos z, Int.mul_one]
      have : S1 D (fun e => e.2 * (if e.1 = p then 1 else 0)) = 0 := by
        rw [ih nd2.2, qget_no (by rw [← z]; exact nd2.1)]
        rfl
      rw [this, Int.add_zero]
      rfl
    · rw [qget_ne z, if_neg z, Int.mul_zero, Int.zero_add, ih nd2.2]
end
theorem Dp_put {D : Dp} {p : Pl} {n : Int} : D.put p n = qput D p n := rfl
theorem Dp_get {D : Dp} {p : Pl} : D.get p = qget D p := rfl
theorem Dp_get0 {D : Dp} {p : Pl} : D.get0 p = qget0 D p := rfl
theorem Ip_put {D : Ip} {p : Int} {n : Int} : D.put p n = qput D p n := rfl
theorem Ip_get {D : Ip} {p : Int} : D.get p = qget D p := rfl
theorem Ip_get0 {D : Ip} {p : Int} : D.get0 p = qget0 D p := rfl
end Cm

/-! ## M2 -/
set_option maxHeartbeats 4000000
/-! The mathematics: beginnings and ends of a record. -/
namespace Cm
open PySem PySem.Spec PyProof.Rows L2 Evl
namespace Rec
variable (R : Rec)
/-- the places of all beginnings of so many ticks -/
def pref : Nat → List Pl
  | 0 => R.begins
  | t + 1 => (pref t).flatMap fun p => (R.steps t p).map (R.goal p)
/-- the number of ends of k ticks behind mark t at p -/
def cnt : Nat → Nat → Pl → Int
  | 0, _, _ => 1
  | k + 1, t, p => S1 (R.steps t p) fun d => cnt k (t + 1) (R.goal p d)
variable {R}
theorem cnt_pos : ∀ {k t : Nat} {p : Pl}, 0 ≤ R.cnt k t p
  | 0, _, _ => (by decide : (0 : Int) ≤ 1)
  | k + 1, t, p => S1_pos fun d _ => cnt_pos
theorem addAll_q {p : Pl} {n : Int} {ds : List Nat} {D : Dp} : R.addAll p n ds D = qall (ds.map fun d => (R.goal p d, n)) D := by
  unfold addAll qall
  rw [List.foldl_map]
  rfl
theorem goOn_q {t : Nat} {es D : Dp} : R.goOn t es D = qall (es.flatMap fun e => (R.steps t e.1).map fun d => (R.goal e.1 d, e.2)) D := by
  unfold goOn
  induction es generalizing D with
  | nil => rfl
  | cons e es ih =>
    rw [List.foldl_cons, ih, addAll_q, List.flatMap_cons]
    unfold qall
    rw [List.foldl_append]
theorem ahead_nd : ∀ t, ((R.ahead t).map (·.1)).Nodup
  | 0 => by
    unfold ahead begins
    split <;> simp
  | t + 1 => by
    show ((R.goOn t (R.ahead t) []).map (·.1)).Nodup
    rw [goOn_q]
    exact qall_nd List.nodup_nil
theorem ahead_sum (φ : Pl → Int) : ∀ t, S1 (R.ahead t) (fun e => e.2 * φ e.1) = S1 (R.pref t) φ
  | 0 => by
    show S1 (R.begins.map fun p => (p, (1 : Int))) _ = _
    rw [S1_map]
    exact S1_congr fun x _ => Int.one_mul _
  | t + 1 => by
    show S1 (R.goOn t (R.ahead t) []) _ = S1 ((R.pref t).flatMap fun p => (R.steps t p).map (R.goal p)) φ
    rw [goOn_q, qall_sum (D := []) List.nodup_nil, S1_nil, Int.zero_add, S1_flat, S1_flat, ← ahead_sum _ t]
    refine S1_congr fun e _ => ?_
    rw [S1_map, S1_map, ← S1_mul]
theorem ahead_pos : ∀ t, ∀ e ∈ R.ahead t, 1 ≤ e.2
  | 0 => fun e he => by
    obtain ⟨p, _, ep⟩ := List.mem_map.mp he
    rw [← ep]
    exact Int.le_refl _
  | t + 1 => by
    show ∀ e ∈ R.goOn t (R.ahead t) [], 1 ≤ e.2
    rw [goOn_q]
    refine qall_pos (fun e he => ?_) fun e he => by cases he
    obtain ⟨x, hx, h2⟩ := List.mem_flatMap.mp he
    obtain ⟨d, _, ed⟩ := List.mem_map.mp h2
    rw [← ed]
    exact ahead_pos t x hx
theorem ahead_goal {t : Nat} {p : Pl} {d : Nat} (hp : p ∈ (R.ahead t).map (·.1)) (hd : d ∈ R.steps t p) : R.goal p d ∈ (R.ahead (t + 1)).map (·.1) := by
  show _ ∈ (R.goOn t (R.ahead t) []).map (·.1)
  rw [goOn_q, qall_mem]
  obtain ⟨e, he, ep⟩ := List.mem_map.mp hp
  subst ep
  exact .inr (List.mem_map.mpr ⟨(R.goal e.1 d, e.2), List.mem_flatMap.mpr ⟨e, he, List.mem_map.mpr ⟨d, hd, rfl⟩⟩, rfl⟩)
theorem steps_len {t : Nat} {p : Pl} : (R.steps t p).length ≤ R.top + 1 :=
  Nat.le_trans (List.length_filter_le _ _) (Nat.le_trans (List.length_filter_le _ _) (by rw [List.length_range]; exact Nat.le_refl _))
theorem flat_len {α β : Type} {b : Nat} {f : α → List β} (h : ∀ x, (f x).length ≤ b) : ∀ L : List α, (L.flatMap f).length ≤ L.length * b
  | [] => Nat.zero_le _
  | a :: L => by
    rw [List.flatMap_cons, List.length_append, List.length_cons, Nat.succ_mul]
    have := h a
    have := flat_len h L
    omega
theorem pref_len : ∀ t, (R.pref t).length ≤ (R.top + 1) ^ t
  | 0 => by
    rw [Nat.pow_zero]
    unfold pref begins
    split <;> simp
  | t + 1 => by
    rw [Nat.pow_succ]
    refine Nat.le_trans (flat_len (b := R.top + 1) (fun p => by rw [List.length_map]; exact steps_len) _) (Nat.mul_le_mul_right _ (pref_len t))
theorem ahead_le {t : Nat} {e : Pl × Int} (he : e ∈ R.ahead t) : e.2 ≤ ((R.top + 1) ^ t : Nat) := by
  have h1 := S1_in (L := R.ahead t) (f := fun e => e.2 * (fun _ => 1) e.1) (fun x hx => by have := ahead_pos t x hx; show 0 ≤ x.2 * 1; omega) he
  rw [ahead_sum (fun _ => 1) t, S1_len] at h1
  have := pref_len (R := R) t
  have h2 : e.2 * 1 ≤ ((R.pref t).length : Int) := h1
  omega
theorem ahead_small (ok : R.Ok) {t : Nat} (ht : t ≤ R.n) {e : Pl × Int} (he : e ∈ R.ahead t) : e.2 ≤ 16777216 := by
  have h1 := ahead_le he
  have h2 : (R.top + 1) ^ t ≤ (R.top + 1) ^ R.n := Nat.pow_le_pow_right (by omega) ht
  have := ok.few
  omega
/-- the ends at a mark -/
def backs (k : Nat) : Dp := ((R.ahead (R.n - k)).filter fun e => decide (0 < R.cnt k (R.n - k) e.1)).map fun e => (e.1, R.cnt k (R.n - k) e.1)
theorem fm_get {D : Dp} {f : Pl → Int} {p : Pl} : qget ((D.filter fun e => decide (0 < f e.1)).map fun e => (e.1, f e.1)) p = if p ∈ D.map (·.1) ∧ 0 < f p then some (f p) else none := by
  induction D with
  | nil => rfl
  | cons e D ih =>
    by_cases z : 0 < f e.1
    · rw [List.filter_cons_of_pos (p := fun e : Pl × Int => decide (0 < f e.1)) (decide_eq_true z), List.map_cons]
      by_cases y : e.1 = p
      · rw [qget_eq (e := (e.1, f e.1)) y, if_pos ⟨by rw [List.map_cons, y]; exact List.mem_cons_self, by rw [← y]; exact z⟩, ← y]
      · rw [qget_ne (e := (e.1, f e.1)) y, ih]
        by_cases x : p ∈ D.map (·.1) ∧ 0 < f p
        · rw [if_pos x, if_pos ⟨by rw [List.map_cons]; exact List.mem_cons_of_mem _ x.1, x.2⟩]
        · rw [if_neg x, if_neg fun w => x ⟨by
            have := w.1
            rw [List.map_cons, List.mem_cons] at this
            exact this.resolve_left (Ne.symm y), w.2⟩]
    · rw [List.filter_cons_of_neg (p := fun e : Pl × Int => decide (0 < f e.1)) (by rw [decide_eq_false z]; decide), ih]
      by_cases x : p ∈ D.map (·.1) ∧ 0 < f p
      · rw [if_pos x, if_pos ⟨by rw [List.map_cons]; exact List.mem_cons_of_mem _ x.1, x.2⟩]
      · rw [if_neg x, if_neg fun w => x ⟨by
          have := w.1
          rw [List.map_cons, List.mem_cons] at this
          exact this.resolve_left fun y => z (by rw [← y]; exact w.2), w.2⟩]
theorem fm_congr {D : Dp} {f g : Pl → Int} (h : ∀ e ∈ D, f e.1 = g e.1) : ((D.filter fun e => decide (0 < f e.1)).map fun e => (e.1, f e.1)) = (D.filter fun e => decide (0 < g e.1)).map fun e => (e.1, g e.1) := by
  rw [List.filter_congr (p := fun e : Pl × Int => decide (0 < f e.1)) (q := fun e : Pl × Int => decide (0 < g e.1)) fun e he => by rw [h e he]]
  exact List.map_congr_left fun e he => by rw [h e (List.mem_filter.mp he).1]
theorem backs_get {k : Nat} {p : Pl} : qget (R.backs k) p = if p ∈ (R.ahead (R.n - k)).map (·.1) ∧ 0 < R.cnt k (R.n - k) p then some (R.cnt k (R.n - k) p) else none := fm_get
theorem backs_get0 {k : Nat} {p : Pl} (hp : p ∈ (R.ahead (R.n - k)).map (·.1)) : qget0 (R.backs k) p = R.cnt k (R.n - k) p := by
  unfold qget0
  rw [backs_get]
  by_cases z : 0 < R.cnt k (R.n - k) p
  · rw [if_pos ⟨hp, z⟩]; rfl
  · rw [if_neg fun y => z y.2]
    have := cnt_pos (R := R) (k := k) (t := R.n - k) (p := p)
    show 0 = _
    omega
theorem backOn_q {t : Nat} {B : Dp} : ∀ (es D : Dp), (es.map (·.1)).Nodup → (∀ e ∈ es, e.1 ∉ D.map (·.1)) → R.backOn t B es D = D ++ (es.filter fun e => decide (0 < R.num t B e.1)).map fun e => (e.1, R.num t B e.1)
  | [], D, _, _ => (List.append_nil _).symm
  | e :: es, D, nd, h => by
    have nd2 := List.nodup_cons.mp nd
    show R.backOn t B es (if 0 < R.num t B e.1 then D.put e.1 (R.num t B e.1) else D) = _
    have hin : ∀ x ∈ es, x.1 ≠ e.1 := fun x hx z => nd2.1 (by show e.1 ∈ _; rw [← z]; exact List.mem_map_of_mem (f := (·.1)) hx)
    by_cases z : 0 < R.num t B e.1
    · have hp : D.put e.1 (R.num t B e.1) = D ++ [(e.1, R.num t B e.1)] := by
        unfold Dp.put
        rw [if_neg]
        intro y
        obtain ⟨x, hx, ex⟩ := List.any_eq_true.mp y
        exact h e List.mem_cons_self (List.mem_map.mpr ⟨x, hx, of_decide_eq_true ex⟩)
      rw [if_pos z, hp, backOn_q es _ nd2.2 ?_, List.filter_cons_of_pos (p := fun e : Pl × Int => decide (0 < R.num t B e.1)) (decide_eq_true z), List.map_cons, List.append_assoc]
      · rfl
      · intro x hx y
        rw [List.map_append, List.mem_append] at y
        exact y.elim (h x (List.mem_cons_of_mem _ hx)) fun y => hin x hx (List.mem_singleton.mp y)
    · rw [if_neg z, backOn_q es _ nd2.2 (fun x hx => h x (List.mem_cons_of_mem _ hx)), List.filter_cons_of_neg (p := fun e : Pl × Int => decide (0 < R.num t B e.1)) (by rw [decide_eq_false z]; decide)]
theorem back_eq : ∀ {k : Nat}, k ≤ R.n → R.back k = R.backs k
  | 0, _ => by
    unfold back backs
    rw [List.filter_eq_self.mpr (fun e _ => by show decide ((0 : Int) < 1) = true; decide)]
    rfl
  | k + 1, hk => by
    have ih := back_eq (k := k) (by omega)
    have e1 : R.n - 1 - k = R.n - (k + 1) := by omega
    have e2 : R.n - (k + 1) + 1 = R.n - k := by omega
    show R.backOn (R.n - 1 - k) (R.back k) (R.ahead (R.n - 1 - k)) [] = _
    rw [backOn_q _ _ (ahead_nd _) (fun _ _ z => by cases z), List.nil_append, e1, ih]
    have hn : ∀ e ∈ R.ahead (R.n - (k + 1)), R.num (R.n - (k + 1)) (R.backs k) e.1 = R.cnt (k + 1) (R.n - (k + 1)) e.1 := fun e he => by
      show S1 ((R.steps (R.n - (k + 1)) e.1).filter _) (fun d => qget0 (R.backs k) (R.goal e.1 d)) = S1 (R.steps (R.n - (k + 1)) e.1) fun d => R.cnt k (R.n - (k + 1) + 1) (R.goal e.1 d)
      rw [S1_filter]
      refine S1_congr fun d hd => ?_
      have hg := ahead_goal (List.mem_map_of_mem (f := (·.1)) he) hd
      rw [e2] at hg ⊢
      rw [backs_get0 hg, Dp_get, backs_get]
      by_cases z : 0 < R.cnt k (R.n - k) (R.goal e.1 d)
      · rw [if_pos (by rw [if_pos ⟨hg, z⟩]; rfl)]
      · rw [if_neg (by rw [if_neg (fun y => z y.2)]; decide)]
        have := cnt_pos (R := R) (k := k) (t := R.n - k) (p := R.goal e.1 d)
        omega
    exact fm_congr hn
theorem howMany_pref : R.howMany = S1 (R.pref R.n) fun _ => 1 := by
  rw [← ahead_sum]
  show S1 (R.ahead R.n) _ = _
  exact S1_congr fun e _ => (Int.mul_one _).symm
end Rec
end Cm

/-! ## M3 -/
set_option maxHeartbeats 4000000
/-! The mathematics: all trips; what a fact says of a trip. -/
namespace Cm
open PySem PySem.Spec PyProof.Rows L2 Evl
/-- all lists of k speeds -/
def trips (top : Nat) : Nat → List (List Nat)
  | 0 => [[]]
  | k + 1 => (List.range (top + 1)).flatMap fun d => (trips top k).map (d :: ·)
section
variable {top : Nat} {f : List Nat → Int}
theorem trips_nil : S1 (trips top 0) f = f [] := S1_one
theorem trips_succ {k : Nat} : S1 (trips top (k + 1)) f = S1 (List.range (top + 1)) fun d => S1 (trips top k) fun w => f (d :: w) := by
  show S1 ((List.range (top + 1)).flatMap _) f = _
  rw [S1_flat]
  exact S1_congr fun d _ => S1_map
theorem trips_one : S1 (trips top 1) f = S1 (List.range (top + 1)) fun d => f [d] := by
  rw [trips_succ]
  exact S1_congr fun d _ => trips_nil
theorem trips_add : ∀ {a b : Nat} {f : List Nat → Int}, S1 (trips top (a + b)) f = S1 (trips top a) fun u => S1 (trips top b) fun v => f (u ++ v)
  | 0, b, f => by rw [Nat.zero_add, trips_nil]; rfl
  | a + 1, b, f => by
    rw [show a + 1 + b = (a + b) + 1 by omega, trips_succ, trips_succ]
    exact S1_congr fun d _ => trips_add
theorem trips_mem : ∀ {k : Nat} {w : List Nat}, w ∈ trips top k ↔ w.length = k ∧ ∀ d ∈ w, d ≤ top
  | 0, w => by
    show w ∈ [[]] ↔ _
    rw [List.mem_singleton]
    constructor
    · intro h; subst h; exact ⟨rfl, fun d hd => by cases hd⟩
    · exact fun h => List.eq_nil_of_length_eq_zero h.1
  | k + 1, w => by
    show w ∈ (List.range (top + 1)).flatMap _ ↔ _
    rw [List.mem_flatMap]
    constructor
    · rintro ⟨d, hd, h⟩
      obtain ⟨v, hv, e⟩ := List.mem_map.mp h
      subst e
      have hv := trips_mem.mp hv
      have := List.mem_range.mp hd
      exact ⟨by rw [List.length_cons, hv.1], fun x hx => (List.mem_cons.mp hx).elim (fun e => by omega) (hv.2 x)⟩
    · rintro ⟨h1, h2⟩
      match w, h1, h2 with
      | d :: v, h1, h2 => exact ⟨d, List.mem_range.mpr (by have := h2 d List.mem_cons_self; omega), List.mem_map.mpr ⟨v, trips_mem.mpr ⟨by rw [List.length_cons] at h1; omega, fun x hx => h2 x (List.mem_cons_of_mem _ hx)⟩, rfl⟩⟩
end
namespace Rec
variable (R : Rec)
def run (p : Pl) (w : List Nat) : Pl := w.foldl R.goal p
def okF : Nat → Pl → List Nat → Bool
  | _, _, [] => true
  | t, p, d :: w => decide (d ∈ R.steps t p) && okF (t + 1) (R.goal p d) w
def okT (w : List Nat) : Bool := R.agreesAt 0 (0, 0) && R.okF 0 (0, 0) w
variable {R}
theorem okF_append : ∀ {u v : List Nat} {t : Nat} {p : Pl}, R.okF t p (u ++ v) = (R.okF t p u && R.okF (t + u.length) (R.run p u) v)
  | [], v, t, p => by
    rw [List.nil_append]
    show _ = (true && R.okF (t + 0) p v)
    rw [Bool.true_and, Nat.add_zero]
  | d :: u, v, t, p => by
    show (decide (d ∈ R.steps t p) && R.okF (t + 1) (R.goal p d) (u ++ v)) = ((decide (d ∈ R.steps t p) && R.okF (t + 1) (R.goal p d) u) && R.okF (t + (u.length + 1)) (R.run (R.goal p d) u) v)
    rw [okF_append, Bool.and_assoc, show t + 1 + u.length = t + (u.length + 1) by omega]
theorem steps_sum {t : Nat} {p : Pl} {g : Nat → Int} : S1 (R.steps t p) g = S1 (List.range (R.top + 1)) fun d => if d ∈ R.steps t p then g d else 0 := by
  unfold steps left
  rw [S1_filter, S1_filter]
  refine S1_congr fun d hd => ?_
  cases h1 : R.fs.all (lets t d) with
  | true =>
    rw [if_pos rfl]
    cases h2 : R.stepOk t p d with
    | true => rw [if_pos rfl, if_pos (List.mem_filter.mpr ⟨List.mem_filter.mpr ⟨hd, h1⟩, h2⟩)]
    | false => rw [if_neg (by decide), if_neg fun z => by have := (List.mem_filter.mp z).2; rw [h2] at this; cases this]
  | false => rw [if_neg (by decide), if_neg fun z => by have := (List.mem_filter.mp (List.mem_filter.mp z).1).2; rw [h1] at this; cases this]
theorem cnt_trips : ∀ {k t : Nat} {p : Pl}, R.cnt k t p = S1 (trips R.top k) fun w => if R.okF t p w = true then 1 else 0
  | 0, t, p => by rw [trips_nil]; rfl
  | k + 1, t, p => by
    show S1 (R.steps t p) (fun d => R.cnt k (t + 1) (R.goal p d)) = _
    rw [steps_sum, trips_succ]
    refine S1_congr fun d _ => ?_
    by_cases h : d ∈ R.steps t p
    · rw [if_pos h, cnt_trips]
      refine S1_congr fun w _ => ?_
      show _ = if (decide (d ∈ R.steps t p) && R.okF (t + 1) (R.goal p d) w) = true then 1 else 0
      rw [decide_eq_true h, Bool.true_and]
    · rw [if_neg h]
      refine (S1_none fun w _ => ?_).symm
      show (if (decide (d ∈ R.steps t p) && R.okF (t + 1) (R.goal p d) w) = true then (1 : Int) else 0) = 0
      rw [decide_eq_false h, Bool.false_and]
      rfl
theorem okT_append {u v : List Nat} : R.okT (u ++ v) = (R.okT u && R.okF u.length (R.run (0, 0) u) v) := by
  unfold okT
  rw [okF_append, Nat.zero_add, Bool.and_assoc]
theorem run_append {u v : List Nat} {p : Pl} : R.run p (u ++ v) = R.run (R.run p u) v := List.foldl_append
theorem pref_trips : ∀ {t : Nat} {φ : Pl → Int}, S1 (R.pref t) φ = S1 (trips R.top t) fun u => if R.okT u = true then φ (R.run (0, 0) u) else 0
  | 0, φ => by
    rw [trips_nil]
    show S1 R.begins φ = if (R.agreesAt 0 (0, 0) && true) = true then φ (0, 0) else 0
    rw [Bool.and_true]
    unfold begins
    split
    · exact S1_one
    · rfl
  | t + 1, φ => by
    show S1 ((R.pref t).flatMap fun p => (R.steps t p).map (R.goal p)) φ = _
    rw [S1_flat, pref_trips, trips_add]
    refine S1_congr fun u hu => ?_
    rw [trips_one, S1_map, steps_sum]
    have hl := (trips_mem.mp hu).1
    by_cases h : R.okT u = true
    · rw [if_pos h]
      refine S1_congr fun d _ => ?_
      rw [okT_append, h, Bool.true_and, hl, run_append]
      show _ = if (decide (d ∈ R.steps t (R.run (0, 0) u)) && true) = true then φ (R.goal (R.run (0, 0) u) d) else 0
      rw [Bool.and_true]
      by_cases z : d ∈ R.steps t (R.run (0, 0) u)
      · rw [if_pos z, if_pos (decide_eq_true z)]
      · rw [if_neg z, if_neg (by rw [decide_eq_false z]; decide)]
    · rw [if_neg h]
      refine (S1_none fun d _ => ?_).symm
      rw [okT_append, Bool.eq_false_iff.mpr h, Bool.false_and]
      rfl
theorem tot_trips : R.howMany = S1 (trips R.top R.n) fun w => if R.okT w = true then 1 else 0 := by rw [howMany_pref, pref_trips]
theorem look_at {t : Nat} (ht : t ≤ R.n) {ψ : Pl → Int} : S1 (R.pref t) (fun p => ψ p * R.cnt (R.n - t) t p) = S1 (trips R.top R.n) fun w => if R.okT w = true then ψ (R.run (0, 0) (w.take t)) else 0 := by
  rw [pref_trips]
  conv => rhs; rw [show R.n = t + (R.n - t) by omega, trips_add]
  refine S1_congr fun u hu => ?_
  have hl := (trips_mem.mp hu).1
  by_cases h : R.okT u = true
  · rw [if_pos h, cnt_trips, ← S1_mul]
    refine S1_congr fun v _ => ?_
    rw [okT_append, h, Bool.true_and, hl, List.take_left' hl]
    split
    · exact Int.mul_one _
    · exact Int.mul_zero _
  · rw [if_neg h]
    refine (S1_none fun v _ => ?_).symm
    rw [okT_append, Bool.eq_false_iff.mpr h, Bool.false_and]
    rfl
theorem look_speed {t : Nat} (ht : t < R.n) {ψ : Nat → Int} : S1 (R.pref t) (fun p => S1 (R.steps t p) fun d => ψ d * R.cnt (R.n - (t + 1)) (t + 1) (R.goal p d)) = S1 (trips R.top R.n) fun w => if R.okT w = true then ψ (w.getD t 0) else 0 := by
  rw [pref_trips]
  conv => rhs; rw [show R.n = t + ((R.n - (t + 1)) + 1) by omega, trips_add]
  refine S1_congr fun u hu => ?_
  have hl := (trips_mem.mp hu).1
  rw [trips_succ]
  by_cases h : R.okT u = true
  · rw [if_pos h, steps_sum]
    refine S1_congr fun d _ => ?_
    have e : ∀ v, R.okT (u ++ d :: v) = (decide (d ∈ R.steps t (R.run (0, 0) u)) && R.okF (t + 1) (R.goal (R.run (0, 0) u) d) v) := fun v => by
      rw [okT_append, h, Bool.true_and, hl]
      rfl
    have e2 : ∀ v : List Nat, (u ++ d :: v).getD t 0 = d := fun v => by
      rw [List.getD_eq_getElem?_getD, List.getElem?_append_right (by omega), hl, Nat.sub_self]
      rfl
    by_cases z : d ∈ R.steps t (R.run (0, 0) u)
    · rw [if_pos z, cnt_trips, ← S1_mul]
      refine S1_congr fun v _ => ?_
      rw [e, e2, decide_eq_true z, Bool.true_and]
      split
      · exact Int.mul_one _
      · exact Int.mul_zero _
    · rw [if_neg z]
      refine (S1_none fun v _ => ?_).symm
      rw [e, decide_eq_false z, Bool.false_and]
      rfl
  · rw [if_neg h]
    refine (S1_none fun d _ => ?_).symm
    refine S1_none fun v _ => ?_
    rw [okT_append, Bool.eq_false_iff.mpr h, Bool.false_and]
    rfl
end Rec
/-! what facts say of a trip -/
namespace Mtr
variable (M : Mtr)
def go (p : Pl) (d : Nat) : Pl := (M.countOn p.1 d, p.2 + d)
/-- the place behind some ticks -/
def pl (w : List Nat) : Pl := w.foldl M.go (0, 0)
def told (w : List Nat) : Fact → Bool
  | .speeds t l => decide (w.getD t 0 ∈ l)
  | .passed t v => decide (v = (M.pl (w.take t)).2)
  | .showed t c => decide (c = M.priceAt (M.pl (w.take t)).1)
  | .jumped t b => b == decide (M.jumpsAt (M.pl (w.take t)).1 < M.jumpsAt (M.pl (w.take (t + 1))).1)
end Mtr
namespace Rec
variable {R : Rec}
theorem run_pl {w : List Nat} : R.run (0, 0) w = R.M.pl w := rfl
theorem okF_iff : ∀ {w : List Nat} {t : Nat} {p : Pl}, R.okF t p w = true ↔ ∀ i, (hi : i < w.length) → w[i] ∈ R.steps (t + i) (R.run p (w.take i))
  | [], t, p => ⟨fun _ i hi => absurd hi (Nat.not_lt_zero _), fun _ => rfl⟩
  | d :: w, t, p => by
    show (decide (d ∈ R.steps t p) && R.okF (t + 1) (R.goal p d) w) = true ↔ _
    rw [Bool.and_eq_true, decide_eq_true_iff, okF_iff]
    constructor
    · rintro ⟨h1, h2⟩ i hi
      match i with
      | 0 => exact h1
      | i + 1 =>
        have := h2 i (by rw [List.length_cons] at hi; omega)
        rw [show t + (i + 1) = t + 1 + i by omega]
        exact this
    · refine fun h => ⟨h 0 (by rw [List.length_cons]; omega), fun i hi => ?_⟩
      have := h (i + 1) (by rw [List.length_cons]; omega)
      rw [show t + (i + 1) = t + 1 + i by omega] at this
      exact this
theorem pl_next {M : Mtr} {w : List Nat} {i : Nat} (hi : i < w.length) : M.pl (w.take (i + 1)) = M.go (M.pl (w.take i)) w[i] := by
  rw [take_next (List.getElem?_eq_getElem hi)]
  unfold Mtr.pl
  rw [List.foldl_append]
  rfl
/-- what a fact asks of a trip, tick by tick -/
theorem told_iff {f : Fact} {w : List Nat} (hw : w.length = R.n) (hf : f.Ok R.n) : R.M.told w f = true ↔ R.holdsAt 0 (0, 0) f = true ∧ ∀ i, (hi : i < w.length) → lets i w[i] f = true ∧ R.holdsIn i (R.M.pl (w.take i)).1 (R.M.pl (w.take (i + 1))).1 f = true ∧ R.holdsAt (i + 1) (R.M.pl (w.take (i + 1))) f = true := by
  cases f with
  | speeds t l =>
    have ht : t < w.length := by rw [hw]; exact hf.1
    show decide (w.getD t 0 ∈ l) = true ↔ true = true ∧ ∀ i, (hi : i < w.length) → (!decide (t = i) || decide (w[i] ∈ l)) = true ∧ true = true ∧ true = true
    have e : w.getD t 0 = w[t] := by rw [List.getD_eq_getElem?_getD, List.getElem?_eq_getElem ht]; rfl
    rw [e, decide_eq_true_iff]
    constructor
    · refine fun h => ⟨rfl, fun i hi => ⟨?_, rfl, rfl⟩⟩
      by_cases z : t = i
      · subst z
        rw [decide_eq_true h, Bool.or_true]
      · rw [decide_eq_false z]; rfl
    · rintro ⟨_, h⟩
      have := (h t ht).1
      rw [decide_eq_true rfl] at this
      exact of_decide_eq_true this
  | passed t v =>
    have ht : t ≤ w.length := by rw [hw]; exact hf.1
    show decide (v = (R.M.pl (w.take t)).2) = true ↔ (!decide (t = 0) || decide (v = 0)) = true ∧ ∀ i, (hi : i < w.length) → true = true ∧ true = true ∧ (!decide (t = i + 1) || decide (v = (R.M.pl (w.take (i + 1))).2)) = true
    constructor
    · refine fun h => ⟨?_, fun i hi => ⟨rfl, rfl, ?_⟩⟩
      · by_cases z : t = 0
        · subst z
          have h : decide (v = 0) = true := h
          rw [h, Bool.or_true]
        · rw [decide_eq_false z]; rfl
      · by_cases z : t = i + 1
        · subst z
          rw [h, Bool.or_true]
        · rw [decide_eq_false z]; rfl
    · rintro ⟨h0, h⟩
      match t, ht, h0, h with
      | 0, _, h0, _ => exact h0
      | t + 1, ht, _, h =>
        have := (h t (by omega)).2.2
        rw [decide_eq_true rfl] at this
        exact this
  | showed t v =>
    have ht : t ≤ w.length := by rw [hw]; exact hf.1
    show decide (v = R.M.priceAt (R.M.pl (w.take t)).1) = true ↔ (!decide (t = 0) || decide (v = R.M.priceAt 0)) = true ∧ ∀ i, (hi : i < w.length) → true = true ∧ true = true ∧ (!decide (t = i + 1) || decide (v = R.M.priceAt (R.M.pl (w.take (i + 1))).1)) = true
    constructor
    · refine fun h => ⟨?_, fun i hi => ⟨rfl, rfl, ?_⟩⟩
      · by_cases z : t = 0
        · subst z
          have h : decide (v = R.M.priceAt 0) = true := h
          rw [h, Bool.or_true]
        · rw [decide_eq_false z]; rfl
      · by_cases z : t = i + 1
        · subst z
          rw [h, Bool.or_true]
        · rw [decide_eq_false z]; rfl
    · rintro ⟨h0, h⟩
      match t, ht, h0, h with
      | 0, _, h0, _ => exact h0
      | t + 1, ht, _, h =>
        have := (h t (by omega)).2.2
        rw [decide_eq_true rfl] at this
        exact this
  | jumped t b =>
    have ht : t < w.length := by rw [hw]; exact hf
    show (b == R.jumps (R.M.pl (w.take t)).1 (R.M.pl (w.take (t + 1))).1) = true ↔ true = true ∧ ∀ i, (hi : i < w.length) → true = true ∧ (!decide (t = i) || (b == R.jumps (R.M.pl (w.take i)).1 (R.M.pl (w.take (i + 1))).1)) = true ∧ true = true
    constructor
    · refine fun h => ⟨rfl, fun i hi => ⟨rfl, ?_, rfl⟩⟩
      by_cases z : t = i
      · subst z
        rw [h, Bool.or_true]
      · rw [decide_eq_false z]; rfl
    · rintro ⟨_, h⟩
      have := (h t ht).2.1
      rw [decide_eq_true rfl] at this
      exact this
theorem okT_all {w : List Nat} (ok : R.Ok) (hw : w ∈ trips R.top R.n) : R.okT w = R.fs.all (R.M.told w) := by
  obtain ⟨hl, ht⟩ := trips_mem.mp hw
  rw [Bool.eq_iff_iff]
  unfold okT
  rw [Bool.and_eq_true, okF_iff, List.all_eq_true]
  constructor
  · rintro ⟨h0, h⟩ f hf
    refine (told_iff hl (ok.fo f hf)).mpr ⟨List.all_eq_true.mp h0 f hf, fun i hi => ?_⟩
    have h2 := List.mem_filter.mp (h i hi)
    have h3 := List.mem_filter.mp h2.1
    have h4 := Bool.and_eq_true_iff.mp h2.2
    rw [Nat.zero_add] at h3 h4
    rw [pl_next hi]
    exact ⟨List.all_eq_true.mp h3.2 f hf, List.all_eq_true.mp h4.1 f hf, List.all_eq_true.mp h4.2 f hf⟩
  · intro h
    have h2 := fun f hf => (told_iff hl (ok.fo f hf)).mp (h f hf)
    refine ⟨List.all_eq_true.mpr fun f hf => (h2 f hf).1, fun i hi => ?_⟩
    rw [Nat.zero_add]
    have h3 := fun f hf => (h2 f hf).2 i hi
    rw [pl_next hi] at h3
    refine List.mem_filter.mpr ⟨List.mem_filter.mpr ⟨List.mem_range.mpr (by have := ht _ (List.getElem_mem hi); omega), List.all_eq_true.mpr fun f hf => (h3 f hf).1⟩, Bool.and_eq_true_iff.mpr ⟨List.all_eq_true.mpr fun f hf => (h3 f hf).2.1, List.all_eq_true.mpr fun f hf => (h3 f hf).2.2⟩⟩
end Rec
/-- the number of trips that some facts let be -/
def Mtr.tot (M : Mtr) (top n : Nat) (fs : List Fact) : Int := S1 (trips top n) fun w => if fs.all (M.told w) = true then 1 else 0
theorem Rec.howMany_tot {R : Rec} (ok : R.Ok) : R.howMany = R.M.tot R.top R.n R.fs := by
  rw [Rec.tot_trips]
  exact S1_congr fun w hw => by rw [Rec.okT_all ok hw]
end Cm

/-! ## M4 -/
set_option maxHeartbeats 4000000
/-! Looks in plain words. -/
namespace Cm
open PySem PySem.Spec PyProof.Rows L2 Evl
inductive Kd where
  | speed
  | way
  | price
deriving DecidableEq
def Kd.s : Kd → Str
  | .speed => "speed"
  | .way => "way"
  | .price => "price"
abbrev Lk := Kd × Nat
namespace Rec
variable (R : Rec)
def LkOk : Lk → Prop
  | (.speed, t) => t < R.n
  | (_, t) => t ≤ R.n
/-- what is seen at a place -/
def seen : Kd → Pl → Int
  | .way, p => p.2
  | _, p => R.M.priceAt p.1
/-- the speeds seen at a place, with the numbers -/
def lsp (t : Nat) (p : Pl) (ds : List Nat) : List (Int × Int) := (ds.filter fun d => decide (0 < (R.back (R.n - (t + 1))).get0 (R.goal p d))).map fun (d : Nat) => ((d : Int), (R.ahead t).get0 p * (R.back (R.n - (t + 1))).get0 (R.goal p d))
/-- all that is seen, with the numbers, from some places -/
def lps (k : Kd) (t : Nat) (es : Dp) : List (Int × Int) := match k with
  | .speed => es.flatMap fun e => R.lsp t e.1 (R.steps t e.1)
  | k => es.map fun e => (R.seen k e.1, (R.ahead t).get0 e.1 * e.2)
def look (l : Lk) : Ip := qall (R.lps l.1 l.2 (R.back (R.n - l.2))) []
variable {R}
theorem backs_in {k : Nat} {e : Pl × Int} (he : e ∈ R.backs k) : e.1 ∈ (R.ahead (R.n - k)).map (·.1) ∧ e.2 = R.cnt k (R.n - k) e.1 ∧ 0 < e.2 := by
  obtain ⟨x, hx, ex⟩ := List.mem_map.mp he
  obtain ⟨h1, h2⟩ := List.mem_filter.mp hx
  subst ex
  exact ⟨List.mem_map.mpr ⟨x, h1, rfl⟩, rfl, of_decide_eq_true h2⟩
theorem ahead_get0 {t : Nat} {p : Pl} (hp : p ∈ (R.ahead t).map (·.1)) : (p, (R.ahead t).get0 p) ∈ R.ahead t := by
  obtain ⟨n, h1, h2⟩ := qget_in hp
  rw [Dp_get0]
  unfold qget0
  rw [h1]
  exact h2
theorem back_key {t : Nat} (ht : t ≤ R.n) {e : Pl × Int} (he : e ∈ R.back (R.n - t)) : e.1 ∈ (R.ahead t).map (·.1) ∧ e.2 = R.cnt (R.n - t) t e.1 ∧ 0 < e.2 := by
  rw [back_eq (by omega)] at he
  have := backs_in he
  rwa [show R.n - (R.n - t) = t by omega] at this
/-- the weight of a place: the beginnings to it -/
theorem ahead_one {t : Nat} {p : Pl} (hp : p ∈ (R.ahead t).map (·.1)) : 1 ≤ (R.ahead t).get0 p := ahead_pos t _ (ahead_get0 hp)
theorem lps_pos {k : Kd} {t : Nat} (ht : R.LkOk (k, t)) : ∀ x ∈ R.lps k t (R.back (R.n - t)), 1 ≤ x.2 := by
  have ht' : t ≤ R.n := by cases k <;> first | exact Nat.le_of_lt ht | exact ht
  have gen : ∀ k : Kd, ∀ x ∈ (R.back (R.n - t)).map (fun e => (R.seen k e.1, (R.ahead t).get0 e.1 * e.2)), 1 ≤ x.2 := fun k x hx => by
    obtain ⟨e, he, ex⟩ := List.mem_map.mp hx
    subst ex
    obtain ⟨h1, h2, h3⟩ := back_key ht' he
    have := Int.mul_pos (Int.lt_of_lt_of_le (by decide) (ahead_one h1)) h3
    exact this
  cases k with
  | speed =>
    intro x hx
    obtain ⟨e, he, h2⟩ := List.mem_flatMap.mp hx
    obtain ⟨d, hd, ed⟩ := List.mem_map.mp h2
    subst ed
    have hp := of_decide_eq_true (List.mem_filter.mp hd).2
    have := Int.mul_pos (Int.lt_of_lt_of_le (by decide) (ahead_one (back_key ht' he).1)) hp
    exact this
  | way => exact gen .way
  | price => exact gen .price
theorem look_pos {l : Lk} (ht : R.LkOk l) : ∀ x ∈ R.look l, 1 ≤ x.2 := qall_pos (lps_pos ht) fun x hx => by cases hx
theorem look_nd {l : Lk} : ((R.look l).map (·.1)).Nodup := qall_nd List.nodup_nil
/-- a sum over the ends' places is one over all places -/
theorem back_sum {t : Nat} (ht : t ≤ R.n) {G : Pl → Int} (h0 : ∀ p, R.cnt (R.n - t) t p = 0 → G p = 0) : S1 (R.back (R.n - t)) (fun e => (R.ahead t).get0 e.1 * G e.1) = S1 (R.pref t) G := by
  rw [back_eq (by omega), ← ahead_sum]
  unfold backs
  rw [show R.n - (R.n - t) = t by omega, S1_map, S1_filter]
  refine S1_congr fun e he => ?_
  have hg : (R.ahead t).get0 e.1 = e.2 := by
    have := Dp.mem_get (ahead_nd t) (p := e.1) (n := e.2) he
    unfold Dp.get0
    rw [this]
    rfl
  by_cases z : 0 < R.cnt (R.n - t) t e.1
  · rw [if_pos (decide_eq_true z), hg]
  · rw [if_neg (by rw [decide_eq_false z]; decide), h0 e.1 (by have := cnt_pos (R := R) (k := R.n - t) (t := t) (p := e.1); omega), Int.mul_zero]
/-- what is seen of a trip -/
def lookV (l : Lk) (w : List Nat) : Int := match l.1 with
  | .speed => w.getD l.2 0
  | k => R.seen k (R.M.pl (w.take l.2))
theorem look_sum (ok : R.Ok) {l : Lk} (hl : R.LkOk l) {φ : Int → Int} : S1 (R.look l) (fun e => e.2 * φ e.1) = S1 (trips R.top R.n) fun w => if R.fs.all (R.M.told w) = true then φ (R.lookV l w) else 0 := by
  obtain ⟨k, t⟩ := l
  have ht : t ≤ R.n := by cases k <;> first | exact Nat.le_of_lt hl | exact hl
  have e0 : S1 (R.look (k, t)) (fun e => e.2 * φ e.1) = S1 (R.lps k t (R.back (R.n - t))) fun e => e.2 * φ e.1 := by
    show S1 (qall (R.lps k t (R.back (R.n - t))) []) _ = _
    rw [qall_sum (D := []) List.nodup_nil, S1_nil, Int.zero_add]
  have gen : ∀ k : Kd, S1 ((R.back (R.n - t)).map fun e => (R.seen k e.1, (R.ahead t).get0 e.1 * e.2)) (fun e => e.2 * φ e.1) = S1 (trips R.top R.n) fun w => if R.okT w = true then φ (R.seen k (R.M.pl (w.take t))) else 0 := fun k => by
    have h1 := look_at ht (ψ := fun p => φ (R.seen k p))
    rw [← back_sum ht (fun p h => by rw [h, Int.mul_zero])] at h1
    rw [S1_map]
    refine Eq.trans (S1_congr fun e he => ?_) h1
    obtain ⟨_, h2, _⟩ := back_key ht he
    rw [← h2]
    show (R.ahead t).get0 e.1 * e.2 * φ (R.seen k e.1) = _
    rw [Int.mul_assoc, Int.mul_comm e.2]
  rw [e0]
  refine Eq.trans ?_ (S1_congr (f := fun w => if R.okT w = true then φ (R.lookV (k, t) w) else 0) fun w hw => by rw [okT_all ok hw])
  cases k with
  | way => exact gen .way
  | price => exact gen .price
  | speed =>
    have hs := look_speed (R := R) hl (ψ := fun d => φ (d : Int))
    have hz : ∀ p, R.cnt (R.n - t) t p = 0 → S1 (R.steps t p) (fun d => φ (d : Int) * R.cnt (R.n - (t + 1)) (t + 1) (R.goal p d)) = 0 := fun p h => by
      rw [show R.n - t = (R.n - (t + 1)) + 1 by have h5 : t < R.n := hl; omega] at h
      have h : S1 (R.steps t p) (fun d => R.cnt (R.n - (t + 1)) (t + 1) (R.goal p d)) = 0 := h
      rw [← S1_zero (L := R.steps t p)]
      refine S1_congr fun d hd => ?_
      have h2 := S1_in (fun x _ => cnt_pos) hd (f := fun d => R.cnt (R.n - (t + 1)) (t + 1) (R.goal p d))
      have h3 := cnt_pos (R := R) (k := R.n - (t + 1)) (t := t + 1) (p := R.goal p d)
      have h4 : R.cnt (R.n - (t + 1)) (t + 1) (R.goal p d) = 0 := by rw [h] at h2; exact Int.le_antisymm h2 h3
      rw [h4, Int.mul_zero]
    have h1 := back_sum ht hz
    rw [hs] at h1
    refine Eq.trans ?_ h1
    show S1 ((R.back (R.n - t)).flatMap fun e => R.lsp t e.1 (R.steps t e.1)) _ = _
    rw [S1_flat]
    refine S1_congr fun e he => ?_
    unfold lsp
    rw [S1_map, S1_filter, ← S1_mul]
    refine S1_congr fun d hd => ?_
    have hg := ahead_goal (back_key ht he).1 hd
    have hb : (R.back (R.n - (t + 1))).get0 (R.goal e.1 d) = R.cnt (R.n - (t + 1)) (t + 1) (R.goal e.1 d) := by
      rw [back_eq (by omega), Dp_get0, backs_get0] <;> rw [show R.n - (R.n - (t + 1)) = t + 1 by have h5 : t < R.n := hl; omega]
      exact hg
    rw [hb]
    by_cases z : 0 < R.cnt (R.n - (t + 1)) (t + 1) (R.goal e.1 d)
    · rw [if_pos (decide_eq_true z)]
      show (R.ahead t).get0 e.1 * R.cnt (R.n - (t + 1)) (t + 1) (R.goal e.1 d) * φ (d : Int) = _
      rw [Int.mul_assoc, Int.mul_comm (R.cnt (R.n - (t + 1)) (t + 1) (R.goal e.1 d))]
    · rw [if_neg (by rw [decide_eq_false z]; decide)]
      have h3 := cnt_pos (R := R) (k := R.n - (t + 1)) (t := t + 1) (p := R.goal e.1 d)
      rw [show R.cnt (R.n - (t + 1)) (t + 1) (R.goal e.1 d) = 0 by omega, Int.mul_zero, Int.mul_zero]
/-- the numbers of a look are all trips -/
theorem look_all (ok : R.Ok) {l : Lk} (hl : R.LkOk l) : S1 (R.look l) (·.2) = R.howMany := by
  have h := look_sum ok hl (φ := fun _ => 1)
  rw [howMany_tot ok]
  exact Eq.trans (S1_congr fun e _ => (Int.mul_one _).symm) h
/-- what a look tells, as a fact -/
def _root_.Cm.lookF (l : Lk) (s : Int) : Fact := match l.1 with
  | .speed => .speeds l.2 [s.toNat]
  | .way => .passed l.2 s
  | .price => .showed l.2 s
theorem look_key {l : Lk} (hl : R.LkOk l) {s : Int} (hs : s ∈ (R.look l).map (·.1)) : s ∈ (R.lps l.1 l.2 (R.back (R.n - l.2))).map (·.1) := by
  have := qall_mem.mp hs
  exact this.resolve_left fun z => by cases z
theorem speed_key {t : Nat} {es : Dp} {s : Int} (hs : s ∈ (R.lps .speed t es).map (·.1)) : ∃ d : Nat, s = d ∧ d ≤ R.top := by
  obtain ⟨x, hx, e⟩ := List.mem_map.mp hs
  obtain ⟨e2, _, h2⟩ := List.mem_flatMap.mp hx
  obtain ⟨d, hd, ed⟩ := List.mem_map.mp h2
  subst ed
  exact ⟨d, e.symm, steps_le (List.mem_filter.mp hd).1⟩
/-- telling what a look tells leaves just its number -/
theorem look_told (ok : R.Ok) {l : Lk} (hl : R.LkOk l) {s : Int} (hs : s ∈ (R.look l).map (·.1)) : (R.look l).get0 s = R.M.tot R.top R.n (R.fs ++ [lookF l s]) := by
  rw [Ip_get0, ← qget_sum look_nd, look_sum ok hl (φ := fun x => if x = s then 1 else 0)]
  refine S1_congr fun w hw => ?_
  rw [List.all_append]
  have : [lookF l s].all (R.M.told w) = decide (R.lookV l w = s) := by
    rw [List.all_cons, List.all_nil, Bool.and_true]
    obtain ⟨k, t⟩ := l
    cases k with
    | way => exact decide_eq_decide.mpr eq_comm
    | price => exact decide_eq_decide.mpr eq_comm
    | speed =>
      obtain ⟨d, ed, _⟩ := speed_key (look_key hl hs)
      subst ed
      show decide (w.getD t 0 ∈ [(d : Int).toNat]) = decide (((w.getD t 0 : Nat) : Int) = d)
      refine decide_eq_decide.mpr ?_
      rw [List.mem_singleton, Int.toNat_natCast]
      omega
  rw [this]
  cases h : R.fs.all (R.M.told w) with
  | true =>
    rw [if_pos rfl, Bool.true_and]
    by_cases z : R.lookV l w = s
    · rw [if_pos z, if_pos (decide_eq_true z)]
    · rw [if_neg z, if_neg (by rw [decide_eq_false z]; decide)]
  | false => rw [if_neg (by decide), Bool.false_and, if_neg (by decide)]
end Rec
end Cm

/-! ## E13 -/
set_option maxHeartbeats 4000000
/-! Looks. -/
namespace Cm
open PySem PySem.Spec PyProof.Rows L2 Evl
local macro_rules | `(tactic| walk_at "w") => `(tactic| first
  | exact w_c
  | ((refine w_var ?_); rfl)
  | exact w_nil
  | ((refine w_cons (x := ?x) (xs := ?xs) ?h1 ?h2); (case h1 => walk_at "w"); (case h2 => walk_at "w"))
  | ((refine w_op (x := ?x) (y := ?y) ?h1 ?h2 ?h3); (case h1 => walk_at "w"); (case h2 => walk_at "w"); (case h3 => walk_at "w"))
  | exact w_rI0
  | exact w_rU
  | ((refine w_un (x := ?x) ?h1 ?h2); (case h1 => walk_at "w"); (case h2 => walk_at "w"))
  | ((refine w_rEq ?_); rfl)
  | ((refine w_rNe ?_); rfl)
  | ((refine w_test (b := ?b) ?h1); (case h1 => walk_at "w"))
  | ((refine w_tB (b := ?b) ?h1); (case h1 => walk_at "w"))
  | ((refine w_not (a := ?a) ?h1); (case h1 => walk_at "w"))
  | ((refine w_orU (a := ?a) (b := ?b) ?h1 ?h2); (case h1 => walk_at "w"); (case h2 => walk_at "w"))
  | ((refine w_andU (a := ?a) (b := ?b) ?h1 ?h2); (case h1 => walk_at "w"); (case h2 => walk_at "w"))
  | ((refine w_notV (a := ?a) ?h1); (case h1 => walk_at "w"))
  | ((refine w_orVU (a := ?a) (b := ?b) ?h1 ?h2); (case h1 => walk_at "w"); (case h2 => walk_at "w"))
  | ((refine w_andVU (a := ?a) (b := ?b) ?h1 ?h2); (case h1 => walk_at "w"); (case h2 => walk_at "w"))
  | ((refine w_chain1 (x := ?x) (y := ?y) (z := ?z) (p := ?p) (q := ?q) ?h1 ?h2 ?h3 ?h4 ?h5); (case h1 => walk_at "w"); (case h2 => walk_at "w"); (case h3 => walk_at "w"); (case h4 => walk_at "w"); (case h5 => walk_at "w"))
  | exact w_isN
  | exact w_max2
  | exact w_min2
  | exact w_int1
  | exact w_abs
  | (refine w_rI ?_; decide)
  | assumption)

section
variable {P : Program} {w : World} {K : PySem.W.Frag} {mg : Str → Option Value} {base : Heap} {g : Bg} {S : Hp}
def DsAt (S : Hp) (as : List Addr) (f : Nat → Dp) : Prop := ∀ (j : Nat) a, as[j]? = some a → S a = some (.dT (enc (f j)))
theorem DsAt.mono {S S' : Hp} {as : List Addr} {f : Nat → Dp} (e : Ex S S') (h : DsAt S as f) : DsAt S' as f := fun j a ha => e _ _ (h j a ha)
theorem DpsAt.ds {S0 S : Hp} {as : List Addr} {f : Nat → Dp} (h : DpsAt S0 S as f) : DsAt S as f := fun j a ha => (h j a ha).2
def SidesAt (S' S : Hp) (q : Addr) (R : Rec) : Prop := ∃ pa pb as bs, S q = some (.tup [.ref pa, .ref pb]) ∧ S pa = some (.lst (as.map V.ref)) ∧ S pb = some (.lst (bs.map V.ref)) ∧ as.length = R.n + 1 ∧ bs.length = R.n + 1 ∧ DsAt S as R.ahead ∧ DpsAt S' S bs fun j => R.back (R.n - j)
theorem SidesAt.mono {S0 S S' : Hp} {q : Addr} {R : Rec} (e : Ex S S') (h : SidesAt S0 S q R) : SidesAt S0 S' q R := by
  obtain ⟨pa, pb, as, bs, h1, h2, h3, h4, h5, h6, h7⟩ := h
  exact ⟨pa, pb, as, bs, e _ _ h1, e _ _ h2, e _ _ h3, h4, h5, h6.mono e, h7.mono e⟩
def LkAt (S : Hp) (q : Addr) (l : Lk) : Prop := S q = some (.tup [.str l.1.s, .int l.2])
theorem LkAt.mono {S S' : Hp} {q : Addr} {l : Lk} (e : Ex S S') (h : LkAt S q l) : LkAt S' q l := e _ _ h
theorem enc_val {D : Dp} {p : Pl} (h : p ∈ D.map (·.1)) : valV (enc D) (pk p) = some (.int (D.get0 p)) := by
  obtain ⟨n, h1, _⟩ := qget_in h
  rw [enc_get, Dp_get, h1, Dp_get0]
  unfold qget0
  rw [h1]
  rfl
theorem Rec.backs_nd {R : Rec} {k : Nat} : ((R.backs k).map (·.1)).Nodup := by
  unfold Rec.backs
  rw [List.map_map]
  show (((R.ahead (R.n - k)).filter _).map (·.1)).Nodup
  exact (Rec.ahead_nd _).sublist (List.Sublist.map _ List.filter_sublist)
theorem ienc_got {D : Ip} {p : Int} : (valV (ienc D) (ik p)).getD (.int 0) = .int (D.get0 p) := by
  rw [ienc_get]
  unfold Ip.get0
  cases D.get p <;> rfl
theorem few_speed {D : Ip} {b : Nat} (nd : (D.map (·.1)).Nodup) (h : ∀ k : Int, k ∈ D.map (·.1) → ∃ d : Nat, k = d ∧ d ≤ b) : D.length ≤ b + 1 := by
  have h0 : (D.map (·.1)).Pairwise fun a b : Int => a.toNat ≠ b.toNat := List.Pairwise.imp_of_mem (fun hx hy ne e => by
    obtain ⟨d, e1, _⟩ := h _ hx
    obtain ⟨d2, e2, _⟩ := h _ hy
    exact ne (by omega)) nd
  have h1 := nodup_lt (b + 1) ((D.map (·.1)).map Int.toNat) (List.pairwise_map.mpr h0) fun x hx => by
    obtain ⟨k, hk, ek⟩ := List.mem_map.mp hx
    obtain ⟨d, e1, e2⟩ := h k hk
    omega
  rw [List.length_map, List.length_map] at h1
  exact h1
theorem qall_app {κ : Type} [DecidableEq κ] {L M D : List (κ × Int)} : qall (L ++ M) D = qall M (qall L D) := List.foldl_append
theorem back_len {R : Rec} (ok : R.Ok) {t : Nat} (ht : t ≤ R.n) : (R.back (R.n - t)).length ≤ 90000 := by
  rw [Rec.back_eq (by omega)]
  unfold Rec.backs
  rw [List.length_map, show R.n - (R.n - t) = t by omega]
  exact Nat.le_trans (List.length_filter_le _ _) (Rec.bx_few ok ht (Rec.ahead_bx ok t))
theorem lsp_app {R : Rec} {t : Nat} {p : Pl} {a b : List Nat} : R.lsp t p (a ++ b) = R.lsp t p a ++ R.lsp t p b := by
  unfold Rec.lsp
  rw [List.filter_append, List.map_append]
theorem lsp_key {R : Rec} {t : Nat} {p : Pl} {ds : List Nat} (hd : ∀ d ∈ ds, d ≤ R.top) {s : Int} (hs : s ∈ (R.lsp t p ds).map (·.1)) : ∃ d : Nat, s = d ∧ d ≤ R.top := by
  obtain ⟨x, hx, e⟩ := List.mem_map.mp hs
  obtain ⟨d, h2, ed⟩ := List.mem_map.mp hx
  subst ed
  exact ⟨d, e.symm, hd d (List.mem_filter.mp h2).1⟩
theorem lps_s {R : Rec} {t : Nat} {es : Dp} {e : Pl × Int} : R.lps .speed t (es ++ [e]) = R.lps .speed t es ++ R.lsp t e.1 (R.steps t e.1) := by
  show (es ++ [e]).flatMap _ = _
  rw [List.flatMap_append, List.flatMap_singleton]
  rfl
theorem lps_o {R : Rec} {k : Kd} (hk : k ≠ .speed) {t : Nat} {es : Dp} : R.lps k t es = es.map fun e => (R.seen k e.1, (R.ahead t).get0 e.1 * e.2) := by
  cases k with
  | speed => exact absurd rfl hk
  | way => rfl
  | price => rfl
def sp_is_look (K : PySem.W.Frag) : Sp := Pr (ι := Addr × Rec × Addr × Lk) (fun x => [.ref x.1, .ref x.2.2.1]) (fun _ x S => RecAt K S x.1 x.2.1 ∧ x.2.1.Ok ∧ LkAt S x.2.2.1 x.2.2.2 ∧ x.2.1.LkOk x.2.2.2) (fun _ _ v _ => v = .bl true)
theorem c_is_look (T : Txt K mg) : C8.Cal P w K mg base 3 "is_look" (sp_is_look K) [] := mk_is_look T (pr_len (ps := ["record", "value"]) fun _ => rfl) (Bd.bs fun cdv A outer s H Q E hr => by
  have hu := hu_of hr
  have nd := sc_is_look.nd
  refine ⟨_, (pss_cons (ps_if (PW.pt (pw_or (pt_not (pt_val (pe_callB (cbIsi (K := K) rfl) rfl (T.free 49 rfl) bt_isinstance (pa_cons (pv 1) (pa_cons (pe_bltn (v := .ty "tuple") rfl (T.free 52 rfl) bt_tuple rfl) pa_nil))))) (pw_or (pt_cmpR op_ne (pe_callB (cbLen (K := K) rfl) rfl (T.free 51 rfl) bt_len (pa_cons (pv 1) pa_nil)) pe_int (nomark _)) (pw_or1 (pt_not (pt_val (pe_callB (cbIsi (K := K) rfl) rfl (T.free 49 rfl) bt_isinstance (pa_cons (pe_ix (ixT (K := K) rfl) (pv 1) pe_int (fun _ _ => rfl)) (pa_cons (pe_bltn (v := .ty "str") rfl (T.free 58 rfl) bt_str rfl) pa_nil))))))))) (pss_one (ps_ret pe_bl)) pss_nil)
      (pss_cons (ps_set (i := 2) nd rfl (by first | exact .inl rfl | exact .inr rfl) (pe_ifExp (pt_cmpR op_eq (pe_ix (ixT (K := K) rfl) (pv 1) pe_int (fun _ _ => rfl)) pe_str (nomark _)) (pe_op op_sub (pe_callB (call_lenOwn (m_Record_len (K := K) T) hr (by decide)) rfl (T.free 51 rfl) bt_len (pa_cons (pv 0) pa_nil)) pe_int) (pe_callB (call_lenOwn (m_Record_len (K := K) T) hr (by decide)) rfl (T.free 51 rfl) bt_len (pa_cons (pv 0) pa_nil))))
      (pss_one (ps_ret (pe_and (pe_cmpR (opInQ (K := K) rfl) (pe_ix (ixT (K := K) rfl) (pv 1) pe_int (fun _ _ => rfl)) (pe_lst (pa_cons pe_str (pa_cons pe_str (pa_cons pe_str pa_nil)))) rfl) (pe_one (C8.pe_c (c_is_between (K := K) T) hr (by decide) rfl (pa_cons (pe_ix (ixT (K := K) rfl) (pv 1) pe_int (fun _ _ => rfl)) (pa_cons pe_int (pa_cons (pv 2) pa_nil)))))))))), fun g S0 x hp hQ => ?_⟩
  obtain ⟨r, R, q, k, t⟩ := x
  obtain ⟨hr0, ok, hq, hl⟩ := hp
  dsimp only at hr0 ok hq hl
  obtain ⟨y, er, hr1, hB⟩ := RecAt.b hr0
  subst er
  have hn := ok.n1
  have hq : S0 q = some (.tup [.str k.s, .int t]) := hq
  show G ⟨g, S0, H⟩ _ (start N_is_look [.ref y.r, .ref q]) [] S0
  refine gs_ifF (w_orU (w_not (w_tB (w_cb (by walk_at "w") (w_isiT (b := true) hq (by decide +kernel))))) (w_orU (w_test (w_op (w_cb (by walk_at "w") (w_lenT (st_of hq))) w_c (w_rNe rfl))) (w_not (w_tB (w_cb (w_cons (w_op (w_var rfl) w_c (w_ixT (v := .str k.s) (st_of hq) rfl)) (w_cons w_c w_nil)) (w_isiS (b := true) (by decide +kernel))))))) (show (!true || (!decide (V.int 2 = V.int 2) || !true)) = false by decide +kernel) ?_
  have hlen : ∀ {σ : L2.St} (h : σ[0]? = some (some (.ref y.r))), W g (tCB (rLenOwn (CR K) (sp_Record_len K)) (tCons (tVar 0) tNil) σ) S0 (Is (.int (R.n : Nat))) := fun h => w_cb (w_cons (w_var h) w_nil) (w_lenOwn hr1 (by omega) (v_rlen (x := y) hr1 hB.pp.tic))
  have hin : ∀ {S : Hp} {p : Addr}, S p = some (.lst [.str "speed", .str "way", .str "price"]) → W g (rIn K false (.str k.s) (.ref p)) S (Is (.bl true)) := fun h => (w_inQ (sq_of h) rfl rfl).is (by
    congr 1
    cases k <;> decide +kernel)
  refine gs_asgI (v := .int (if k = .speed then (R.n : Int) - 1 else R.n)) ?_ (g_retI (v := .bl true) ((w_andVU (a := true) (b := true) (w_opN2 (x := .str k.s) (o := .lst [.str "speed", .str "way", .str "price"]) (w_op (w_var rfl) w_c (w_ixT (st_of hq) rfl)) (w_lstO (w_cons w_c (w_cons w_c (w_cons w_c w_nil)))) fun p S e hs => hin hs) ((w_c0 (w_cons (w_op (w_var rfl) w_c (w_ixT (v := .int t) (st_of hq) rfl)) (w_cons w_c (w_cons (w_var rfl) w_nil))) v_is_between).is ?_))) hQ fun S e => rfl)
  · refine w_if (a := decide (k = .speed)) (w_test (w_op (w_op (w_var rfl) w_c (w_ixT (v := .str k.s) (st_of hq) rfl)) w_c (w_eqS ?_))) (fun h => (w_op (hlen rfl) w_c w_rI0).is ?_) fun h => (hlen rfl).is ?_
    · cases k <;> decide +kernel
    · rw [if_pos (of_decide_eq_true h)]
    · rw [if_neg (of_decide_eq_false h)]
  · cases k with
    | speed =>
      have hl : t < R.n := hl
      rw [if_pos rfl, decide_eq_true (by omega), decide_eq_true (by omega)]
      rfl
    | way =>
      have hl : t ≤ R.n := hl
      rw [if_neg (by decide), decide_eq_true (by omega), decide_eq_true (by omega)]
      rfl
    | price =>
      have hl : t ≤ R.n := hl
      rw [if_neg (by decide), decide_eq_true (by omega), decide_eq_true (by omega)]
      rfl)

theorem v_is_look {r q : Addr} {R : Rec} {l : Lk} (h : RecAt K S r R) (ok : R.Ok) (hq : LkAt S q l) (hl : R.LkOk l) : SpW g (sp_is_look K) [.ref r, .ref q] S (Is (.bl true)) := w_pr (r, R, q, l) (fun _ e => ⟨h.mono e, ok, hq.mono e, hl⟩) fun _ _ _ _ _ h => h
def sp_numbers_of (K : PySem.W.Frag) : Sp := Pr (ι := Addr × Rec × Addr × Lk × Addr) (fun x => [.ref x.1, .ref x.2.2.1, .ref x.2.2.2.2]) (fun _ x S => x.2.1.Ok ∧ LkAt S x.2.2.1 x.2.2.2.1 ∧ x.2.1.LkOk x.2.2.2.1 ∧ ∃ S', Ex S' S ∧ RecAt K S' x.1 x.2.1 ∧ SidesAt S' S x.2.2.2.2 x.2.1) (fun x _ v S => ∃ d, v = .ref d ∧ S d = some (.dK (ienc (x.2.1.look x.2.2.2.1))))
theorem c_numbers_of (T : Txt K mg) : C8.Cal P w K mg base 8 "numbers_of" (sp_numbers_of K) [] := mk_numbers_of T (pr_len (ps := ["record", "look", "sides"]) fun _ => rfl) (Bd.bs fun cdv A outer s H Q E hr => by
  have hu := hu_of hr
  have nd := sc_numbers_of.nd
  refine ⟨_, (pss_cons (ps_asg (pv 1) (pgTup (K := K) rfl rfl (pgs_cons (pg_name (i := 3) nd rfl (by first | exact .inl rfl | exact .inr rfl)) (pgs_cons (pg_name (i := 4) nd rfl (by first | exact .inl rfl | exact .inr rfl)) pgs_nil))))
      (pss_cons (ps_asg (pv 2) (pgTup (K := K) rfl rfl (pgs_cons (pg_name (i := 5) nd rfl (by first | exact .inl rfl | exact .inr rfl)) (pgs_cons (pg_name (i := 6) nd rfl (by first | exact .inl rfl | exact .inr rfl)) pgs_nil))))
      (pss_cons (ps_set (i := 7) nd rfl (by first | exact .inl rfl | exact .inr rfl) pe_dnewK)
      (pss_cons (ps_lock (ps_for PassesOwn.never rfl (pi_keys (pe_ix (ixL (K := K) rfl) (pv 6) (pv 4) (fun _ _ => rfl))) (pg_name (i := 8) nd rfl (by first | exact .inl rfl | exact .inr rfl))
      (pss_one (ps_if (pt_cmpR op_eq (pv 3) pe_str (nomark _)) (pss_one (ps_for PassesOwn.never rfl (piL (K := K) rfl (C8.pe_mt (m_Record_steps_from (K := K) T) hr (by decide) (pv 0) (pa_cons (pv 4) (pa_cons (pv 8) pa_nil)))) (pgTup (K := K) rfl rfl (pgs_cons (pg_name (i := 9) nd rfl (by first | exact .inl rfl | exact .inr rfl)) (pgs_cons (pg_name (i := 10) nd rfl (by first | exact .inl rfl | exact .inr rfl)) pgs_nil)))
      (pss_cons (ps_set (i := 12) nd rfl (by first | exact .inl rfl | exact .inr rfl) (pe_dget2 hu (pe_ix (ixL (K := K) rfl) (pv 6) (pe_op op_add (pv 4) pe_int) (fun _ _ => rfl)) (pv 10) pe_int ⟨rfl, rfl, rfl, rfl⟩))
      (pss_one (ps_if (pt_cmpR op_gt (pv 12) pe_int (nomark _)) (pss_one (ps_dput hu (pv 7) (pe_callTy call_int_str rfl (T.free 59 rfl) bt_int (pa_cons (pv 9) pa_nil)) (pe_op op_add (pe_dget2 hu (pv 7) (pe_callTy call_int_str rfl (T.free 59 rfl) bt_int (pa_cons (pv 9) pa_nil)) pe_int ⟨rfl, rfl, rfl, rfl⟩) (pe_op op_mul (pe_dget hu (pe_ix (ixL (K := K) rfl) (pv 5) (pv 4) (fun _ _ => rfl)) (pv 8) (fun _ _ => rfl)) (pv 12))) rfl)) pss_nil))))) (pss_cons (ps_set (i := 11) nd rfl (by first | exact .inl rfl | exact .inr rfl) (pe_ifExp (pt_cmpR op_eq (pv 3) pe_str (nomark _)) (pe_ix (ixT (K := K) rfl) (pv 8) pe_int (fun _ _ => rfl)) (C8.pe_mt (m_Meter_price_at (K := K) T) hr (by decide) (pe_pr (p_Record_meter (K := K) T) hr (by decide) (pv 0)) (pa_cons (pe_ix (ixT (K := K) rfl) (pv 8) pe_int (fun _ _ => rfl)) pa_nil))))
      (pss_one (ps_dput hu (pv 7) (pv 11) (pe_op op_add (pe_dget2 hu (pv 7) (pv 11) pe_int ⟨rfl, rfl, rfl, rfl⟩) (pe_op op_mul (pe_dget hu (pe_ix (ixL (K := K) rfl) (pv 5) (pv 4) (fun _ _ => rfl)) (pv 8) (fun _ _ => rfl)) (pe_dget hu (pe_ix (ixL (K := K) rfl) (pv 6) (pv 4) (fun _ _ => rfl)) (pv 8) (fun _ _ => rfl)))) rfl)))))))
      (pss_one (ps_ret (pv 7))))))), fun g S0 x hp hQ => ?_⟩
  obtain ⟨r, R, q, ⟨k, t⟩, q2⟩ := x
  obtain ⟨ok, hq, hl, S', eS', hr0, pa, pb, as, bs, hq2, hpa, hpb, hal, hbl, hda, hdb⟩ := hp
  dsimp only at hr0 ok hq hl hq2 hal hbl hda hdb
  obtain ⟨y, er, hr1, hB⟩ := RecAt.b hr0
  subst er
  have hn := ok.n1
  have ht1 := ok.t1
  have hq : S0 q = some (.tup [.str k.s, .int t]) := hq
  have ht : t ≤ R.n := by cases k <;> first | exact Nat.le_of_lt hl | exact hl
  show G ⟨g, S0, H⟩ _ (start N_numbers_of [.ref y.r, .ref q, .ref q2]) [] S0
  refine gs_un2 (w_var rfl) (st_of hq) (gs_un2 (w_var rfl) (st_of hq2) (gs_newK fun f hf hfh => ?_))
  obtain ⟨a, hat⟩ : ∃ a, as[t]? = some a := ⟨_, List.getElem?_eq_getElem (show t < as.length by omega)⟩
  obtain ⟨b, hbt⟩ : ∃ b, bs[t]? = some b := ⟨_, List.getElem?_eq_getElem (show t < bs.length by omega)⟩
  have haS := hda t a hat
  obtain ⟨hb0, hbS⟩ := hdb t b hbt
  have hbS : S0 b = some (.dT (enc (R.back (R.n - t)))) := hbS
  refine g_lock (d := b) (u := .dT (enc (R.back (R.n - t)))) hbS trivial notS_T fun was od => ?_
  have nb : ∀ {x : Addr} {o : HO}, S0 x = some o → (∀ kvs, o ≠ .dT kvs) → upd S0 b (.frz od (.dT (enc (R.back (R.n - t))))) x = some o := fun {x o} h n => by
    rw [upd_ne (fun z => by rw [z, hbS] at h; cases h; exact n _ rfl)]
    exact h
  have hrd : ∀ {x : Addr} {u : HO}, S0 x = some u → Rd (upd S0 b (.frz od (.dT (enc (R.back (R.n - t)))))) x u := fun h => rd_lock hbS h
  have hKb : upd S0 b (.frz od (.dT (enc (R.back (R.n - t))))) b = some (.frz od (.dT (enc (R.back (R.n - t))))) := upd_same
  have hKpa := nb hpa fun _ z => by cases z
  have hKpb := nb hpb fun _ z => by cases z
  have hKa := hrd haS
  have hKb2 := hrd hbS
  have eL : Ex S' (upd S0 b (.frz od (.dT (enc (R.back (R.n - t)))))) := Ex.upd0 eS' hb0
  have hbl9 := back_len ok ht
  refine g_forKT (kvs := enc (R.back (R.n - t))) (w_iKT (w_op (w_var rfl) (w_var rfl) (w_ixL (sq_of hKpb) (at_map hbt))) hKb) fun S3 e3 => ?_
  refine ⟨fun j σ' m' K'' => (∃ a8 a9 a10 a11 a12, σ' = [some (.ref y.r), some (.ref q), some (.ref q2), some (.str k.s), some (.int t), some (.ref pa), some (.ref pb), some (.ref f), a8, a9, a10, a11, a12]) ∧ m' = [(f, .dK (ienc (qall (R.lps k t ((R.back (R.n - t)).take j)) [])))] ∧ Ex S3 K'', ⟨⟨_, _, _, _, _, rfl⟩, by
    have : R.lps k t [] = [] := by cases k <;> rfl
    rw [List.take_zero, this]
    rfl, .refl _⟩, fun _ _ _ _ h => h.2.2, ?_, fun σ' m' K'' ⟨⟨a8, a9, a10, a11, a12, es⟩, em, e4⟩ => ?_⟩
  · rintro j ky x qk σ' m' K'' hj ⟨⟨a8, a9, a10, a11, a12, es⟩, em, e4⟩ ne eqk
    subst es em
    obtain ⟨⟨pl, n⟩, hje, eky, ex⟩ := enc_at hj
    subst eky ex
    have hmem := List.mem_of_getElem? hje
    obtain ⟨hkey, hcnt, hn0⟩ := Rec.back_key ht hmem
    have hpl := (Rec.ahead_bx ok t).bx pl hkey
    have hone : 1 ≤ (R.ahead t).get0 pl := Rec.ahead_one hkey
    have hsml : (R.ahead t).get0 pl ≤ 16777216 := Rec.ahead_small ok ht (Rec.ahead_get0 hkey)
    have hbg : (R.back (R.n - t)).get0 pl = n := by
      have nd : ((R.back (R.n - t)).map (·.1)).Nodup := by
        rw [Rec.back_eq (by omega)]
        exact Rec.backs_nd
      have := Dp.mem_get nd hmem
      unfold Dp.get0
      rw [this]
      rfl
    have hbkey : pl ∈ (R.back (R.n - t)).map (·.1) := List.mem_map.mpr ⟨_, hmem, rfl⟩
    refine g_name ?_
    have hqk : PlAt (upd K'' qk (.tup ((pk pl).map kV))) qk pl := upd_same
    generalize upd K'' qk (.tup ((pk pl).map kV)) = K3 at eqk hqk ⊢
    have e33 : Ex _ K3 := (e3.trans e4).trans eqk
    have eA : Ex S' K3 := eL.trans e33
    have gA : ∀ {S : Hp}, Ex K3 S → ∀ H, Ex S H → DGet H a (.ref qk) (some (.int ((R.ahead t).get0 pl))) := fun e H e8 => .inr ⟨_, pk pl, qk, Rd.mono ((e33.trans e).trans e8) hKa, rfl, e8 _ _ (e _ _ hqk), (enc_val hkey).symm⟩
    have gB : ∀ {S : Hp}, Ex K3 S → ∀ H, Ex S H → DGet H b (.ref qk) (some (.int n)) := fun e H e8 => .inr ⟨_, pk pl, qk, Rd.mono ((e33.trans e).trans e8) hKb2, rfl, e8 _ _ (e _ _ hqk), by rw [enc_val hbkey, hbg]⟩
    by_cases hk : k = .speed
    · subst hk
      have htl : t < R.n := hl
      obtain ⟨b2, hb2⟩ : ∃ b, bs[t + 1]? = some b := ⟨_, List.getElem?_eq_getElem (show t + 1 < bs.length by omega)⟩
      have hb2S : S0 b2 = some (.dT (enc (R.back (R.n - (t + 1))))) := (hdb (t + 1) b2 hb2).2
      have hKb3 := hrd hb2S
      have hix : atI (bs.map V.ref) ((t : Int) + 1) = some (.ref b2) := at_map (j := t + 1) hb2
      refine g_ifT (w_test (w_op (w_var rfl) w_c (w_eqS (c := true) (by decide +kernel)))) rfl ?_
      refine g_for (Rs := fun ys S => StepsAt S ys R pl (R.steps t pl)) (w_iLR (w_m0 (w_var rfl) (eA _ _ hr1) rfl (by walk_at "w") (v_steps (hr0.mono eA) ok htl hqk hpl.1.1)) fun v S e ⟨p', vs, ev, hs, hst⟩ => ⟨p', vs, ev, sq_of hs, hst⟩) fun ys S5 e5 hst => ?_
      refine ⟨fun l σ' m' K4 => (∃ a9 a10 a12, σ' = [some (.ref y.r), some (.ref q), some (.ref q2), some (.str (Kd.s .speed)), some (.int t), some (.ref pa), some (.ref pb), some (.ref f), some (.ref qk), a9, a10, a11, a12]) ∧ m' = [(f, .dK (ienc (qall (R.lsp t pl ((R.steps t pl).take l)) (qall (R.lps .speed t ((R.back (R.n - t)).take j)) []))))] ∧ Ex S5 K4, ⟨⟨_, _, _, rfl⟩, by rw [List.take_zero]; rfl, .refl _⟩, fun _ _ _ _ h => h.2.2, ?_, fun σ' m' K4 ⟨⟨a9, a10, a12, es⟩, em, e6⟩ => ?_⟩
      · rintro l v σ' m' K4 hl5 ⟨⟨a9, a10, a12, es⟩, em, e6⟩
        subst es em
        obtain ⟨dd, hdd, a1, b1, ev, h1, h2⟩ := hst.get hl5
        subst ev
        have hlen : (qall (R.lsp t pl ((R.steps t pl).take l)) (qall (R.lps .speed t ((R.back (R.n - t)).take j)) [])).length ≤ R.top + 1 := few_speed (qall_nd (qall_nd List.nodup_nil)) fun s hs => by
          rcases qall_mem.mp hs with z | z
          · exact Rec.speed_key ((qall_mem.mp z).resolve_left fun z => by cases z)
          · exact lsp_key (fun d hd => Rec.steps_le (List.mem_of_mem_take hd)) z
        have enext : qall (R.lsp t pl ((R.steps t pl).take (l + 1))) (qall (R.lps .speed t ((R.back (R.n - t)).take j)) []) = if 0 < (R.back (R.n - (t + 1))).get0 (R.goal pl dd) then Ip.put (qall (R.lsp t pl ((R.steps t pl).take l)) (qall (R.lps .speed t ((R.back (R.n - t)).take j)) [])) (dd : Int) (Ip.get0 (qall (R.lsp t pl ((R.steps t pl).take l)) (qall (R.lps .speed t ((R.back (R.n - t)).take j)) [])) (dd : Int) + (R.ahead t).get0 pl * (R.back (R.n - (t + 1))).get0 (R.goal pl dd)) else qall (R.lsp t pl ((R.steps t pl).take l)) (qall (R.lps .speed t ((R.back (R.n - t)).take j)) []) := by
          rw [take_next hdd, lsp_app, qall_app]
          unfold Rec.lsp
          by_cases z : 0 < (R.back (R.n - (t + 1))).get0 (R.goal pl dd)
          · rw [if_pos z, List.filter_cons_of_pos (p := fun d => decide (0 < (R.back (R.n - (t + 1))).get0 (R.goal pl d))) (decide_eq_true z)]
            rfl
          · rw [if_neg z, List.filter_cons_of_neg (p := fun d => decide (0 < (R.back (R.n - (t + 1))).get0 (R.goal pl d))) (by rw [decide_eq_false z]; decide)]
            rfl
        generalize hDD : qall (R.lsp t pl ((R.steps t pl).take l)) (qall (R.lps .speed t ((R.back (R.n - t)).take j)) []) = DD at hlen enext ⊢
        refine g_tg (tg_t2 (st_of (e6 _ _ h1))) ?_
        have e36 : Ex K3 K4 := e5.trans e6
        have e3K : Ex _ K4 := e33.trans e36
        have hi9 : dg1 dd = dg1 dd := rfl
        generalize hends : (R.back (R.n - (t + 1))).get0 (R.goal pl dd) = ends at enext
        refine gs_asgI (v := .int ends) ((w_dget2 (w_op (w_var rfl) (w_op (w_var rfl) w_c w_rI0) (w_ixL (sq_of (e3K _ _ hKpb)) hix)) (w_var rfl) w_c (fun H e8 => .inr ⟨_, Rd.mono (e3K.trans e8) hKb3⟩) (fun H e8 => .inr ⟨_, pk (R.goal pl dd), b1, Rd.mono (e3K.trans e8) hKb3, rfl, e8 _ _ (e6 _ _ h2), rfl⟩)).is (enc_got.trans (by rw [hends]))) ?_
        refine g_ifN (b := decide (0 < ends)) (w_test (w_op (w_var rfl) w_c w_rI0)) (fun hb => ?_) fun hb => ?_
        · have hdd9 : dd ≤ 9 := Nat.le_trans (Rec.steps_le (List.mem_of_getElem? hdd)) ht1.2
          refine g_dputK (ky := ik (dd : Int)) (R := Is (.int (Ip.get0 DD (dd : Int) + (R.ahead t).get0 pl * ends))) (fun e => w_op (x := .int (Ip.get0 DD (dd : Int))) (y := .int ((R.ahead t).get0 pl * ends)) ((w_dget2 (w_var rfl) (w_cb (w_cons (w_var rfl) w_nil) (w_intS (int_dg dd hdd9) (show 1 ≤ 640 by decide))) w_c (fun H e8 => .inl ⟨_, .inl (e8 _ _ ov_cons)⟩) (fun H e8 => DGet.k (k := ik (dd : Int)) (e8 _ _ ov_cons))).is ienc_got)
            (w_op (w_dget (w_op (w_var rfl) (w_var rfl) (w_ixL (sq_of (e _ _ (e3K _ _ hKpa))) (at_map hat))) (w_var rfl) (gA (e36.trans e))) (w_var rfl) (w_rI (.inl ⟨by omega, by omega⟩))) w_rI0) (fun S => w_var rfl) (fun S => w_cb (w_cons (w_var rfl) w_nil) (w_intS (int_dg dd hdd9) (show 1 ≤ 640 by decide))) (by rw [ienc_len]; omega) fun v S7 e7 e7' ev => ?_
          cases ev
          refine g_turn ⟨⟨_, _, _, rfl⟩, ?_, e6.trans e7'⟩
          rw [ienc_put, enext, if_pos (of_decide_eq_true hb)]
        · refine g_turn ⟨⟨_, _, _, rfl⟩, ?_, e6⟩
          rw [enext, if_neg (of_decide_eq_false hb)]
      · subst es em
        refine g_turn ⟨⟨_, _, _, _, _, rfl⟩, ?_, ((e4.trans eqk).trans e5).trans e6⟩
        rw [hst.1, List.take_length, take_next hje, lps_s, qall_app]
    · refine g_ifFE (w_test (w_op (w_var rfl) w_c (w_eqS (c := false) (by cases k <;> first | exact absurd rfl hk | decide +kernel)))) rfl ?_
      have hlen : (qall (R.lps k t ((R.back (R.n - t)).take j)) []).length ≤ 90000 := by
        refine Nat.le_trans qall_len ?_
        rw [lps_o hk, List.length_map]
        have := List.length_take_le' j (R.back (R.n - t))
        simp
        omega
      have enext : qall (R.lps k t ((R.back (R.n - t)).take (j + 1))) [] = Ip.put (qall (R.lps k t ((R.back (R.n - t)).take j)) []) (R.seen k pl) (Ip.get0 (qall (R.lps k t ((R.back (R.n - t)).take j)) []) (R.seen k pl) + (R.ahead t).get0 pl * n) := by
        rw [take_next hje, lps_o hk, lps_o hk, List.map_append, qall_app]
        rfl
      generalize qall (R.lps k t ((R.back (R.n - t)).take j)) [] = DD at hlen enext ⊢
      refine gs_asgI (v := .int (R.seen k pl)) ?_ ?_
      · obtain ⟨dxm, nm, tm, um, dm, hm1, hm2⟩ := hB.pp.met
        cases k with
        | speed => exact absurd rfl hk
        | way => exact w_if (a := true) (w_test (w_op (w_var rfl) w_c (w_eqS (c := true) (by decide +kernel)))) (fun _ => w_op (w_var rfl) w_c (w_ixT (st_of hqk) rfl)) fun z => by cases z
        | price => exact w_if (a := false) (w_test (w_op (w_var rfl) w_c (w_eqS (c := false) (by decide +kernel)))) (fun z => by cases z) fun _ => w_m0 (w_prop (w_var rfl) (eA _ _ hr1) (v_rmeter (x := y) (eA _ _ hr1))) (eA _ _ hm1) rfl (w_cons (w_op (w_var rfl) w_c (w_ixT (st_of hqk) rfl)) w_nil) (v_price_at (hB.pp.met.mono eA) ok.m hpl.1.1)
      · refine g_dputK (ky := ik (R.seen k pl)) (R := Is (.int (Ip.get0 DD (R.seen k pl) + (R.ahead t).get0 pl * n))) (fun e => w_op (x := .int (Ip.get0 DD (R.seen k pl))) (y := .int ((R.ahead t).get0 pl * n)) ((w_dget2 (w_var rfl) (w_var rfl) w_c (fun H e8 => .inl ⟨_, .inl (e8 _ _ ov_cons)⟩) (fun H e8 => DGet.k (k := ik (R.seen k pl)) (e8 _ _ ov_cons))).is ienc_got)
          (w_op (w_dget (w_op (w_var rfl) (w_var rfl) (w_ixL (sq_of (e _ _ (e33 _ _ hKpa))) (at_map hat))) (w_var rfl) (gA e)) (w_dget (w_op (w_var rfl) (w_var rfl) (w_ixL (sq_of (e _ _ (e33 _ _ hKpb))) (at_map hbt))) (w_var rfl) (gB e)) (w_rI (.inl ⟨by omega, by omega⟩))) w_rI0) (fun S => w_var rfl) (fun S => w_var rfl) (by rw [ienc_len]; omega) fun v S7 e7 e7' ev => ?_
        cases ev
        refine g_turn ⟨⟨_, _, _, _, _, rfl⟩, ?_, (e4.trans eqk).trans e7'⟩
        rw [ienc_put, enext]
  subst es em
  rw [enc_len, List.take_length]
  refine g_unlock was notS_T (e4 _ _ (e3 _ _ hKb)) ?_
  have eU : Ex S0 (upd K'' b (.dT (enc (R.back (R.n - t))))) := Ex.unlock hbS (e3.trans e4)
  generalize upd K'' b (.dT (enc (R.back (R.n - t)))) = K5 at eU ⊢
  refine g_keepH fun k5 h5 => ?_
  exact g_weak (eU.trans (Ex.new k5)) (.refl _) (g_retP (R := Is (.ref f)) (w_var rfl) hQ fun v S e ev => ⟨f, ev, e _ _ upd_same⟩))

end
end Cm

/-! ## E14 -/
set_option maxHeartbeats 4000000
/-! Looks: the numbers of one, the best of all. -/
namespace Cm
open PySem PySem.Spec PyProof.Rows L2 Evl
local macro_rules | `(tactic| walk_at "w") => `(tactic| first
  | exact w_c
  | ((refine w_var ?_); rfl)
  | exact w_nil
  | ((refine w_cons (x := ?x) (xs := ?xs) ?h1 ?h2); (case h1 => walk_at "w"); (case h2 => walk_at "w"))
  | ((refine w_op (x := ?x) (y := ?y) ?h1 ?h2 ?h3); (case h1 => walk_at "w"); (case h2 => walk_at "w"); (case h3 => walk_at "w"))
  | exact w_rI0
  | exact w_rU
  | ((refine w_un (x := ?x) ?h1 ?h2); (case h1 => walk_at "w"); (case h2 => walk_at "w"))
  | ((refine w_rEq ?_); rfl)
  | ((refine w_rNe ?_); rfl)
  | ((refine w_test (b := ?b) ?h1); (case h1 => walk_at "w"))
  | ((refine w_tB (b := ?b) ?h1); (case h1 => walk_at "w"))
  | ((refine w_not (a := ?a) ?h1); (case h1 => walk_at "w"))
  | ((refine w_orU (a := ?a) (b := ?b) ?h1 ?h2); (case h1 => walk_at "w"); (case h2 => walk_at "w"))
  | ((refine w_andU (a := ?a) (b := ?b) ?h1 ?h2); (case h1 => walk_at "w"); (case h2 => walk_at "w"))
  | ((refine w_notV (a := ?a) ?h1); (case h1 => walk_at "w"))
  | ((refine w_orVU (a := ?a) (b := ?b) ?h1 ?h2); (case h1 => walk_at "w"); (case h2 => walk_at "w"))
  | ((refine w_andVU (a := ?a) (b := ?b) ?h1 ?h2); (case h1 => walk_at "w"); (case h2 => walk_at "w"))
  | ((refine w_chain1 (x := ?x) (y := ?y) (z := ?z) (p := ?p) (q := ?q) ?h1 ?h2 ?h3 ?h4 ?h5); (case h1 => walk_at "w"); (case h2 => walk_at "w"); (case h3 => walk_at "w"); (case h4 => walk_at "w"); (case h5 => walk_at "w"))
  | exact w_isN
  | exact w_max2
  | exact w_min2
  | exact w_int1
  | exact w_abs
  | (refine w_rI ?_; decide)
  | assumption)

section
variable {P : Program} {w : World} {K : PySem.W.Frag} {mg : Str → Option Value} {base : Heap} {g : Bg} {S : Hp}
theorem v_numbers {S' : Hp} {r q q2 : Addr} {R : Rec} {l : Lk} (ok : R.Ok) (hq : LkAt S q l) (hl : R.LkOk l) (e : Ex S' S) (h : RecAt K S' r R) (hs : SidesAt S' S q2 R) : SpW g (sp_numbers_of K) [.ref r, .ref q, .ref q2] S (fun v S'' => ∃ d, v = .ref d ∧ S'' d = some (.dK (ienc (R.look l)))) :=
  w_pr (r, R, q, l, q2) (fun _ e2 => ⟨ok, hq.mono e2, hl, S', e.trans e2, h, hs.mono e2⟩) fun _ _ _ _ _ h => h
theorem w_sides {σ : L2.St} {i : Nat} {r : Addr} {R : Rec} {E E2 : XK} (h : RecAt K S r R) (ok : R.Ok) (hv : σ[i]? = some (some (.ref r))) :
    W g (tTup (tCons (tMeth (CR K) "numbers_ahead" (sp_Record_numbers_ahead K) [] E (tVar i) tNil) (tCons (tMeth (CR K) "numbers_behind" (sp_Record_numbers_behind K) [] E2 (tVar i) tNil) tNil)) σ) S (fun v S' => ∃ q, v = .ref q ∧ SidesAt S S' q R) := by
  obtain ⟨y, er, hr1, hB⟩ := RecAt.b h
  subst er
  refine w_tupR (Ra := fun xs S' => ∃ pa pb as bs, xs = [.ref pa, .ref pb] ∧ S' pa = some (.lst (as.map V.ref)) ∧ S' pb = some (.lst (bs.map V.ref)) ∧ as.length = R.n + 1 ∧ bs.length = R.n + 1 ∧ DsAt S' as R.ahead ∧ DpsAt S S' bs fun j => R.back (R.n - j)) (w_consR (w_m0 (w_var hv) hr1 rfl w_nil (v_ahead h ok)) fun v S1 e1 ⟨pa, as, ev, h1, h2, h3⟩ => w_consR (w_m0 (w_var hv) (e1 _ _ hr1) rfl w_nil (v_behind (h.mono e1) ok)) fun v2 S2 e2 ⟨pb, bs, ev2, h4, h5, h6⟩ => w_nilR fun S3 e3 => ⟨pa, pb, as, bs, by rw [ev, ev2], e3 _ _ (e2 _ _ h1), e3 _ _ h4, h2, h5, (h3.ds.mono e2).mono e3, fun j a ha => ⟨e1.free (h6 j a ha).1, e3 _ _ (h6 j a ha).2⟩⟩) fun xs S1 e1 ⟨pa, pb, as, bs, ex, h1, h2, h3, h4, h5, h6⟩ => ⟨by rw [ex]; exact (by decide : 2 ≤ 1000), fun p hp => ⟨p, rfl, pa, pb, as, bs, by rw [upd_same, ex], ?_, ?_, h3, h4, h5.mono (Ex.new hp), fun j a ha => ⟨(h6 j a ha).1, (Ex.new hp) _ _ (h6 j a ha).2⟩⟩⟩
  · exact (Ex.new hp) _ _ h1
  · exact (Ex.new hp) _ _ h2
def sp_look_numbers (K : PySem.W.Frag) : Sp := Pr (ι := Addr × Rec × Addr × Lk) (fun x => [.ref x.1, .ref x.2.2.1]) (fun _ x S => RecAt K S x.1 x.2.1 ∧ x.2.1.Ok ∧ LkAt S x.2.2.1 x.2.2.2 ∧ x.2.1.LkOk x.2.2.2) (fun x _ v S => ∃ d, v = .ref d ∧ S d = some (.dK (ienc (x.2.1.look x.2.2.2))))
theorem c_look_numbers (T : Txt K mg) : C8.Cal P w K mg base 10 "look_numbers" (sp_look_numbers K) [] := mk_look_numbers T (pr_len (ps := ["record", "look"]) fun _ => rfl) (Bd.bs fun cdv A outer s H Q E hr => by
  have hu := hu_of hr
  have nd := sc_look_numbers.nd
  refine ⟨_, (pss_cons (ps_if (pt_not (pt_val (C8.pe_c (c_is_look (K := K) T) hr (by decide) rfl (pa_cons (pv 0) (pa_cons (pv 1) pa_nil))))) (pss_one ps_never) pss_nil)
      (pss_one (ps_ret (C8.pe_c (c_numbers_of (K := K) T) hr (by decide) rfl (pa_cons (pv 0) (pa_cons (pv 1) (pa_cons (pe_tup (pa_cons (C8.pe_mt0 (m_Record_numbers_ahead (K := K) T) hr (by decide) (pv 0)) (pa_cons (C8.pe_mt0 (m_Record_numbers_behind (K := K) T) hr (by decide) (pv 0)) pa_nil))) pa_nil))))))), fun g S0 x hp hQ => ?_⟩
  obtain ⟨r, R, q, l⟩ := x
  obtain ⟨hr0, ok, hq, hl⟩ := hp
  dsimp only at hr0 ok hq hl
  show G ⟨g, S0, H⟩ _ (start N_look_numbers [.ref r, .ref q]) [] S0
  refine gs_ifF (w_not (w_tB (w_c0 (w_cons (w_var rfl) (w_cons (w_var rfl) w_nil)) (v_is_look hr0 ok hq hl)))) rfl ?_
  exact g_retP (w_cR (Ra := fun vs S => ∃ q2, vs = [.ref r, .ref q, .ref q2] ∧ SidesAt S0 S q2 R) (w_consR (R := fun vs S => ∃ q2, vs = [.ref r, .ref q, .ref q2] ∧ SidesAt S0 S q2 R) (w_var rfl : W _ _ _ (Is (.ref r))) fun v S e ev => w_consR (w_var rfl : W _ _ _ (Is (.ref q))) fun v2 S2 e2 ev2 => w_consR (w_sides (hr0.mono (e.trans e2)) ok rfl) fun v3 S3 e3 ⟨q2, ev3, h3⟩ => w_nilR fun S4 e4 => ⟨q2, by rw [ev, ev2, ev3], by
    obtain ⟨pa, pb, as, bs, h1, h2, h3, h4, h5, h6, h7⟩ := h3.mono e4
    exact ⟨pa, pb, as, bs, h1, h2, h3, h4, h5, h6, fun j a ha => ⟨(e.trans e2).free (h7 j a ha).1, (h7 j a ha).2⟩⟩⟩) fun vs S e ⟨q2, ev, h2⟩ => ev ▸ v_numbers ok (hq.mono e) hl e hr0 h2) hQ fun v S e h => h)

theorem v_look_numbers {r q : Addr} {R : Rec} {l : Lk} (h : RecAt K S r R) (ok : R.Ok) (hq : LkAt S q l) (hl : R.LkOk l) : SpW g (sp_look_numbers K) [.ref r, .ref q] S (fun v S'' => ∃ d, v = .ref d ∧ S'' d = some (.dK (ienc (R.look l)))) := w_pr (r, R, q, l) (fun _ e => ⟨h.mono e, ok, hq.mono e, hl⟩) fun _ _ _ _ _ h => h
/-- the greatest number of a look -/
def Ip.worst (D : Ip) : Int := (D.map (·.2)).foldl max 0
theorem fmax_le : ∀ (L : List Int) (a : Int), a ≤ L.foldl max a ∧ ∀ y ∈ L, y ≤ L.foldl max a
  | [], a => ⟨Int.le_refl _, fun y hy => by cases hy⟩
  | x :: L, a => by
    obtain ⟨h1, h2⟩ := fmax_le L (max a x)
    have h3 := Int.le_max_left a x
    have h4 := Int.le_max_right a x
    refine ⟨Int.le_trans h3 h1, fun y hy => ?_⟩
    rcases List.mem_cons.mp hy with e | e
    · rw [e]; exact Int.le_trans h4 h1
    · exact h2 y e
theorem fmax_mem : ∀ (L : List Int) (a : Int), L.foldl max a = a ∨ L.foldl max a ∈ L
  | [], a => .inl rfl
  | x :: L, a => by
    rcases fmax_mem L (max a x) with h | h
    · show L.foldl max (max a x) = a ∨ _
      rw [h]
      rcases Int.le_total a x with z | z
      · right
        show L.foldl max (max a x) ∈ x :: L
        rw [h, Int.max_eq_right z]
        exact List.mem_cons_self
      · left
        exact Int.max_eq_left z
    · exact .inr (List.mem_cons_of_mem _ h)
theorem worst_le {D : Ip} : ∀ y ∈ D.map (·.2), y ≤ D.worst := (fmax_le _ 0).2
theorem worst_mem {D : Ip} (h : D ≠ []) (hp : ∀ e ∈ D, 1 ≤ e.2) : D.worst ∈ D.map (·.2) := by
  refine (fmax_mem (D.map (·.2)) 0).resolve_left fun z => ?_
  cases D with
  | nil => exact h rfl
  | cons e D =>
    have h1 := worst_le (D := e :: D) e.2 (by rw [List.map_cons]; exact List.mem_cons_self)
    have h2 := hp e List.mem_cons_self
    have h3 : Ip.worst (e :: D) = 0 := z
    omega
namespace Rec
variable (R : Rec)
def lks (k : Kd) : List Lk := match k with
  | .speed => (List.range R.n).map fun t => (Kd.speed, t)
  | k => (List.range (R.n + 1)).map fun t => (k, t)
def looks : List Lk := R.lks .speed ++ R.lks .way ++ R.lks .price
def lksTo : Nat → List Lk
  | 0 => R.lks .speed
  | 1 => R.lks .speed ++ R.lks .way
  | _ => R.looks
def worst (l : Lk) : Int := (R.look l).worst
def bestOn (ls : List Lk) : Option (Lk × Int) := ls.foldl (fun b l => match b with
  | none => some (l, R.worst l)
  | some x => if R.worst l < x.2 then some (l, R.worst l) else some x) none
def best : Option (Lk × Int) := R.bestOn R.looks
def better (l : Lk) : Option (Lk × Int) → Bool
  | none => true
  | some x => decide (R.worst l < x.2)
variable {R}
theorem looks_ok {l : Lk} (h : l ∈ R.looks) : R.LkOk l := by
  unfold looks lks at h
  rcases List.mem_append.mp h with h | h
  · rcases List.mem_append.mp h with h | h
    · obtain ⟨t, ht, e⟩ := List.mem_map.mp h
      subst e
      exact List.mem_range.mp ht
    · obtain ⟨t, ht, e⟩ := List.mem_map.mp h
      subst e
      exact Nat.le_of_lt_succ (List.mem_range.mp ht)
  · obtain ⟨t, ht, e⟩ := List.mem_map.mp h
    subst e
    exact Nat.le_of_lt_succ (List.mem_range.mp ht)
theorem look_ne (ok : R.Ok) {l : Lk} (hl : R.LkOk l) (hh : 0 < R.howMany) : R.look l ≠ [] := fun z => by
  have := look_all ok hl
  rw [z] at this
  rw [← this] at hh
  exact absurd hh (by decide)
end Rec
def LksAt (S : Hp) (xs : List V) (ls : List Lk) : Prop := xs.length = ls.length ∧ ∀ (i : Nat) l x, ls[i]? = some l → xs[i]? = some x → ∃ q, x = .ref q ∧ LkAt S q l
theorem LksAt.mono {S S' : Hp} {xs : List V} {ls : List Lk} (e : ∀ a ys, S a = some (.tup ys) → S' a = some (.tup ys)) (h : LksAt S xs ls) : LksAt S' xs ls := ⟨h.1, fun i l x h1 h2 => by
  obtain ⟨q, ex, hq⟩ := h.2 i l x h1 h2
  exact ⟨q, ex, e _ _ hq⟩⟩
theorem LksAt.append {S : Hp} {xs ys : List V} {ls ms : List Lk} (h : LksAt S xs ls) (k : LksAt S ys ms) : LksAt S (xs ++ ys) (ls ++ ms) := ⟨by rw [List.length_append, List.length_append, h.1, k.1], fun i l x h1 h2 => by
  by_cases z : i < ls.length
  · rw [List.getElem?_append_left z] at h1
    rw [List.getElem?_append_left (by rw [h.1]; exact z)] at h2
    exact h.2 i l x h1 h2
  · rw [List.getElem?_append_right (by omega)] at h1
    rw [List.getElem?_append_right (by rw [h.1]; omega), h.1] at h2
    exact k.2 _ l x h1 h2⟩
def BestAt (S : Hp) (v : V) : Option (Lk × Int) → Prop
  | none => v = .non
  | some (l, m) => ∃ q ql, v = .ref q ∧ S q = some (.tup [.ref ql, .int m]) ∧ LkAt S ql l
theorem BestAt.mono {S S' : Hp} {v : V} {b : Option (Lk × Int)} (e : Ex S S') (h : BestAt S v b) : BestAt S' v b := by
  match b, h with
  | none, h => exact h
  | some (l, m), ⟨q, ql, h1, h2, h3⟩ => exact ⟨q, ql, h1, e _ _ h2, h3.mono e⟩
theorem lks_at {R : Rec} {k : Kd} {n : Nat} (hk : R.lks k = (List.range n).map fun t => (k, t)) {xs : List V} (hl : xs.length = n) (h : ∀ (i : Nat) y x, (List.range n)[i]? = some y → xs[i]? = some x → ∃ q, x = V.ref q ∧ LkAt S q (k, y)) : LksAt S xs (R.lks k) := ⟨by rw [hk, List.length_map, List.length_range, hl], fun i l x h1 h2 => by
  rw [hk, List.getElem?_map] at h1
  cases e : (List.range n)[i]? with
  | none => rw [e] at h1; cases h1
  | some t => rw [e] at h1; cases h1; exact h i t x e h2⟩
/-- max(list(numbers_of(record, look, sides).values())) -/
theorem w_worst {σ : L2.St} {S' : Hp} {r q q2 : Addr} {R : Rec} {l : Lk} {i j k : Nat} {E : XK} (ok : R.Ok) (hq : LkAt S q l) (hl : R.LkOk l) (hh : 0 < R.howMany) (e : Ex S' S) (h : RecAt K S' r R) (hs : SidesAt S' S q2 R) (hi : σ[i]? = some (some (.ref r))) (hj : σ[j]? = some (some (.ref q))) (hk : σ[k]? = some (some (.ref q2))) :
    W g (tCB (rMax K) (tCons (tListVals (tCall (sp_numbers_of K) [] E (tCons (tVar i) (tCons (tVar j) (tCons (tVar k) tNil))))) tNil) σ) S (Is (.int (R.worst l))) :=
  w_cbR (w_consR (R := fun vs S => ∃ p, vs = [.ref p] ∧ S p = some (.lst (((R.look l).map (·.2)).map V.int))) (Ra := fun v S => ∃ p, v = .ref p ∧ S p = some (.lst (((R.look l).map (·.2)).map V.int))) (w_valsR (w_c0 (w_cons (w_var hi) (w_cons (w_var hj) (w_cons (w_var hk) w_nil))) (v_numbers ok hq hl e h hs)) fun x S e ⟨d, ex, hd⟩ => ⟨d, _, ex, fun H e2 => .inl ⟨_, .inl (e2 _ _ hd), rfl⟩, fun v S' e3 ⟨p, ev, _, hp⟩ => ⟨p, ev, by
    rw [hp]
    congr 2
    unfold ienc
    rw [List.map_map, List.map_map]
    rfl⟩⟩) fun v S e ⟨p, ev, hp⟩ => w_nilR fun S2 e2 => ⟨p, by rw [ev], e2 _ _ hp⟩) fun vs S e ⟨p, ev, hp⟩ => ev ▸ w_max (sq_of hp) (worst_mem (Rec.look_ne ok hl hh) (Rec.look_pos hl)) worst_le
def sp_best_look (K : PySem.W.Frag) : Sp := Pr (ι := Addr × Rec) (fun x => [.ref x.1]) (fun _ x S => RecAt K S x.1 x.2 ∧ x.2.Ok ∧ 0 < x.2.howMany) (fun x _ v S => BestAt S v x.2.best)
theorem c_best_look (T : Txt K mg) : C8.Cal P w K mg base 10 "best_look" (sp_best_look K) [] := mk_best_look T (pr_len (ps := ["record"]) fun _ => rfl) (Bd.bs fun cdv A outer s H Q E hr => by
  have hu := hu_of hr
  have nd := sc_best_look.nd
  refine ⟨_, (pss_cons (ps_if (pt_cmpR op_eq (C8.pe_mt0 (m_Record_how_many (K := K) T) hr (by decide) (pv 0)) pe_int (nomark _)) (pss_one (ps_ret pe_non)) pss_nil)
      (pss_cons (ps_setLc (i := 1) (own := [("tick", 7)]) (g := gName 7) (tt := tYes) rfl nd rfl rfl (sw_true rfl rfl rfl (by decide +kernel)) (pi_range1 rfl (T.free 54 rfl) (pa_cons (pe_callB (call_lenOwn (m_Record_len (K := K) T) hr (by decide)) rfl (T.free 51 rfl) bt_len (pa_cons (pv 0) pa_nil)) pa_nil)) (blkOk_by (own := [("tick", 7)]) (N := N_best_look) (sc := d_best_look.scope) (by decide +kernel)) (fun _ _ _ _ _ => (pg_name (i := 7) nd rfl (by first | exact .inl rfl | exact .inr rfl))) (fun _ _ _ _ _ => pts_nil) (fun _ _ _ _ _ => (pe_tup (pa_cons pe_str (pa_cons (pv 7) pa_nil)))))
      (pss_cons (ps_for PassesOwn.never rfl (piT (K := K) rfl (pe_tup (pa_cons pe_str (pa_cons pe_str pa_nil)))) (pg_name (i := 2) nd rfl (by first | exact .inl rfl | exact .inr rfl))
      (pss_one (ps_expr (peBm (K := K) rfl PySem.F.plainAttrs_list PySem.F.slot_list_extend PySem.F.type_list_extend mt_extend (pv 1) (pa_cons (pe_lc (own := [("tick", 7)]) (g := gName 7) (tt := tYes) rfl nd (pi_range1 rfl (T.free 54 rfl) (pa_cons (pe_op op_add (pe_callB (call_lenOwn (m_Record_len (K := K) T) hr (by decide)) rfl (T.free 51 rfl) bt_len (pa_cons (pv 0) pa_nil)) pe_int) pa_nil)) (blkOk_by (own := [("tick", 7)]) (N := N_best_look) (sc := d_best_look.scope) (by decide +kernel)) (fun _ _ _ _ _ => (pg_name (i := 7) nd rfl (by first | exact .inl rfl | exact .inr rfl))) (fun _ _ _ _ _ => pts_nil) (fun _ _ _ _ _ => (pe_tup (pa_cons (pv 2) (pa_cons (pv 7) pa_nil))))) pa_nil)))))
      (pss_cons (ps_set (i := 3) nd rfl (by first | exact .inl rfl | exact .inr rfl) (pe_tup (pa_cons (C8.pe_mt0 (m_Record_numbers_ahead (K := K) T) hr (by decide) (pv 0)) (pa_cons (C8.pe_mt0 (m_Record_numbers_behind (K := K) T) hr (by decide) (pv 0)) pa_nil))))
      (pss_cons (ps_set (i := 4) nd rfl (by first | exact .inl rfl | exact .inr rfl) pe_non)
      (pss_cons (ps_for PassesOwn.never rfl (piL (K := K) rfl (pv 1)) (pg_name (i := 5) nd rfl (by first | exact .inl rfl | exact .inr rfl))
      (pss_cons (ps_set (i := 6) nd rfl (by first | exact .inl rfl | exact .inr rfl) (pe_callB (cbMax (K := K) rfl rfl) rfl (T.free 55 rfl) bt_max (pa_cons (pe_listVals rfl rfl (T.free 53 rfl) (C8.pe_c (c_numbers_of (K := K) T) hr (by decide) rfl (pa_cons (pv 0) (pa_cons (pv 5) (pa_cons (pv 3) pa_nil))))) pa_nil)))
      (pss_one (ps_if (PW.pt (pw_or (pt_cmpR op_isN (pv 4) pe_non (nomark _)) (pw_or1 (pt_cmpR op_lt (pv 6) (pe_ix (ixT (K := K) rfl) (pv 4) pe_int (fun _ _ => rfl)) (nomark _))))) (pss_one (ps_set (i := 4) nd rfl (by first | exact .inl rfl | exact .inr rfl) (pe_tup (pa_cons (pv 5) (pa_cons (pv 6) pa_nil))))) pss_nil))))
      (pss_one (ps_ret (pv 4))))))))), fun g S0 x hp hQ => ?_⟩
  obtain ⟨r, R⟩ := x
  obtain ⟨hr0, ok, hh⟩ := hp
  dsimp only at hr0 ok hh
  obtain ⟨y, er, hr1, hB⟩ := RecAt.b hr0
  subst er
  have hn := ok.n1
  show G ⟨g, S0, H⟩ _ (start N_best_look [.ref y.r]) [] S0
  refine gs_ifF (b := decide (R.howMany = 0)) (w_test (w_op (w_m0 (w_var rfl) hr1 rfl w_nil (v_how_many hr0 ok)) w_c w_eqI)) (decide_eq_false (by omega)) ?_
  have hlen : ∀ {S : Hp} {σ : L2.St} (e : Ex S0 S) (h : σ[0]? = some (some (.ref y.r))), W g (tCB (rLenOwn (CR K) (sp_Record_len K)) (tCons (tVar 0) tNil) σ) S (Is (.int (R.n : Nat))) := fun e h => w_cb (w_cons (w_var h) w_nil) (w_lenOwn (e _ _ hr1) (by omega) (v_rlen (x := y) (e _ _ hr1) (e _ _ hB.pp.tic)))
  refine gs_asgNE (R := fun p ob S => ∃ xs, ob = .lst xs ∧ LksAt S xs (R.lks .speed)) ((w_lcN (ys := List.range R.n) (h := fun (n : Nat) => V.int (n : Int)) (Pv := fun n v S => ∃ q, v = .ref q ∧ LkAt S q (.speed, n)) (w_iN (w_cons (hlen (.refl _) rfl) w_nil) rfl (by omega)) (by rw [List.length_range]; omega) (fun n v S S' e ⟨q, ev, hq⟩ => ⟨q, ev, hq.mono e⟩) fun i n S hi e => ⟨_, tg_name, rfl, (w_tupO (xs := [.str "speed", .int (n : Nat)]) (w_cons w_c (w_cons (w_var rfl) w_nil))).imp fun v S e ⟨q, ev, _, hq⟩ => ⟨q, ev, hq⟩⟩).imp fun v S e ⟨p, xs, ev, hk, hs, hl, hP⟩ => ⟨p, .lst xs, ev, hk, hs, (fun _ z => by cases z), xs, rfl, lks_at rfl (hl.trans List.length_range) hP⟩) fun p ob S1 e1 hp1 hs1 ⟨xs, eo, hL⟩ => ?_
  subst eo
  have e01 : Ex S0 (cut1 S1 p) := Ex.cut e1 hp1
  have hL1 : LksAt (cut1 S1 p) xs (R.lks .speed) := hL.mono fun a ys h => cut_tup hs1 (fun _ z => by cases z) h
  generalize cut1 S1 p = K1 at e01 hL1 ⊢
  refine gs_for (Rs := fun ys _ => ys = [.str (Kd.s .way), .str (Kd.s .price)]) (w_iTR (w_tupO (xs := [.str (Kd.s .way), .str (Kd.s .price)]) (w_cons w_c (w_cons w_c w_nil))) fun v S e ⟨q, ev, _, hs⟩ => ⟨q, _, ev, st_of hs, rfl⟩) fun ys S2 e2 ey => ?_
  subst ey
  refine ⟨fun i σ' m' K' => (∃ a2, σ' = [some (.ref y.r), some (.ref p), a2, none, none, none, none, none]) ∧ (∃ xs, m' = [(p, .lst xs)] ∧ LksAt K' xs (R.lksTo i) ∧ i ≤ 2) ∧ Ex S2 K', ⟨⟨none, rfl⟩, ⟨xs, rfl, hL1.mono fun a ys h => e2 _ _ h, by omega⟩, .refl _⟩, fun _ _ _ _ h => h.2.2, ?_, fun σ' m' K' ⟨⟨a2, es⟩, ⟨xs, em, hL, _⟩, eK⟩ => ?_⟩
  · rintro i x σ' m' K' hx ⟨⟨a2, es⟩, ⟨xs, em, hL, _⟩, eK⟩
    subst es em
    have e0 : Ex S0 K' := (e01.trans e2).trans eK
    obtain ⟨kd, hkd, ex, hto, hi2⟩ : ∃ kd, R.lks kd = ((List.range (R.n + 1)).map fun t => (kd, t)) ∧ x = .str (Kd.s kd) ∧ R.lksTo (i + 1) = R.lksTo i ++ R.lks kd ∧ i + 1 ≤ 2 := by
      match i, hx with
      | 0, hx => cases hx; exact ⟨.way, rfl, rfl, rfl, by omega⟩
      | 1, hx => cases hx; exact ⟨.price, rfl, rfl, rfl, by omega⟩
      | i + 2, hx => cases hx
    subst ex
    have hxl : xs.length ≤ 100 := by
      rw [hL.1]
      have h1 : (R.lks .speed).length = R.n := by unfold Rec.lks; rw [List.length_map, List.length_range]
      have h2 : (R.lks .way).length = R.n + 1 := by unfold Rec.lks; rw [List.length_map, List.length_range]
      match i, hi2 with
      | 0, _ => show (R.lks .speed).length ≤ 100; omega
      | 1, _ => show (R.lks .speed ++ R.lks .way).length ≤ 100; rw [List.length_append]; omega
    refine g_name (g_extV (R := fun zs S => LksAt S zs (R.lks kd)) (w_var rfl) (by omega) (fun e => (w_lcN (ys := List.range (R.n + 1)) (h := fun (n : Nat) => V.int (n : Int)) (Pv := fun n v S => ∃ q, v = .ref q ∧ LkAt S q (kd, n)) (w_iN (w_cons (w_op (hlen (e0.trans e) rfl) w_c w_rI0) w_nil) (by omega) (by omega)) (by rw [List.length_range]; omega) (fun n v S S' e ⟨q, ev, hq⟩ => ⟨q, ev, hq.mono e⟩) fun i n S hi e => ⟨_, tg_name, rfl, (w_tupO (xs := [.str kd.s, .int (n : Nat)]) (w_cons (w_var rfl) (w_cons (w_var rfl) w_nil))).imp fun v S e ⟨q, ev, _, hq⟩ => ⟨q, ev, hq⟩⟩).imp fun v S e ⟨p2, zs, ev, hk, hs, hl, hP⟩ => ⟨p2, zs, ev, hk, hs, by rw [hl, List.length_range]; omega, lks_at hkd (hl.trans List.length_range) hP⟩) fun zs S3 e3 e4 hZ => ?_)
    refine g_turn ⟨⟨_, rfl⟩, ⟨_, rfl, ?_, hi2⟩, eK.trans e4⟩
    rw [hto]
    exact (hL.mono fun a ys h => e4 _ _ h).append (hZ.mono fun a ys h => drm_tup e3 (fun q hq => by rw [List.mem_singleton.mp hq]; exact fun _ z => by cases z) h)
  subst es em
  have hL : LksAt K' xs R.looks := hL
  refine g_keepH fun k3 h3 => ?_
  have e03 : Ex S0 (upd K' p (.lst xs)) := ((e01.trans e2).trans eK).trans (Ex.new k3)
  have hL3 : LksAt (upd K' p (.lst xs)) xs R.looks := hL.mono fun a ys h => (Ex.new k3) _ _ h
  have hp3 : upd K' p (.lst xs) p = some (.lst xs) := upd_same
  generalize upd K' p (.lst xs) = K3 at e03 hL3 hp3 ⊢
  refine gs_asg (w_sides (hr0.mono e03) ok rfl) fun v S4 e4 ⟨q2, ev, hS⟩ => ?_
  subst ev
  refine gs_asgI (v := .non) w_c ?_
  refine gs_for (Rs := fun ys _ => ys = xs) (w_iL (w_var rfl) (sq_of (e4 _ _ hp3))) fun ys S5 e5 ey => ?_
  subst ey
  refine ⟨fun i σ' m' K' => (∃ a2 v a5 a6, σ' = [some (.ref y.r), some (.ref p), a2, some (.ref q2), some v, a5, a6, none] ∧ BestAt K' v (R.bestOn (R.looks.take i))) ∧ m' = [] ∧ Ex S5 K', ⟨⟨_, _, _, _, rfl, rfl⟩, rfl, .refl _⟩, fun _ _ _ _ h => h.2.2, ?_, fun σ' m' K' ⟨⟨a2, v, a5, a6, es, hb⟩, em, eK⟩ => ?_⟩
  · rintro i x σ' m' K' hx ⟨⟨a2, v, a5, a6, es, hb⟩, em, eK⟩
    subst es em
    obtain ⟨l, hl⟩ : ∃ l, R.looks[i]? = some l := ⟨_, List.getElem?_eq_getElem (show i < R.looks.length by rw [← hL3.1]; exact (List.getElem?_eq_some_iff.mp hx).1)⟩
    obtain ⟨ql, ex, hql⟩ := hL3.2 i l x hl hx
    subst ex
    have e45 := (e4.trans e5).trans eK
    have hlk := Rec.looks_ok (List.mem_of_getElem? hl)
    have hqK := hql.mono e45
    have enext : R.bestOn (R.looks.take (i + 1)) = match R.bestOn (R.looks.take i) with
        | none => some (l, R.worst l)
        | some x => if R.worst l < x.2 then some (l, R.worst l) else some x := by
      rw [take_next hl]
      unfold Rec.bestOn
      rw [List.foldl_append]
      rfl
    refine g_name (gs_asgI (v := .int (R.worst l)) (w_worst ok hqK hlk hh e45 (hr0.mono e03) (hS.mono (e5.trans eK)) rfl rfl rfl) ?_)
    generalize R.bestOn (R.looks.take i) = bo at hb enext
    refine g_ifN (b := R.better l bo) ?_ (fun hb2 => ?_) fun hb2 => ?_
    · match bo, hb with
      | none, hb =>
        refine (w_or (a := true) (b := true) (w_test ((w_op (w_var rfl) w_c w_isN).is ?_)) fun z => by cases z).is rfl
        rw [show v = .non from hb, decide_eq_true rfl]
      | some (l0, m0), ⟨qb, ql0, ev, hqb, _⟩ =>
        subst ev
        exact (w_or (a := false) (b := decide (R.worst l < m0)) (w_test ((w_op (w_var rfl) w_c w_isN).is rfl)) fun _ => w_test (w_op (w_var rfl) (w_op (w_var rfl) w_c (w_ixT (st_of hqb) rfl)) w_rI0)).is (Bool.false_or _)
    · refine g_asg (w_tupO (xs := [.ref ql, .int (R.worst l)]) (w_cons (w_var rfl) (w_cons (w_var rfl) w_nil))) fun v2 S6 e6 ⟨qn, ev2, _, hqn⟩ => g_turn ⟨⟨_, _, _, _, rfl, ?_⟩, rfl, eK.trans e6⟩
      have : R.bestOn (R.looks.take (i + 1)) = some (l, R.worst l) := by
        rw [enext]
        match bo, hb2 with
        | none, _ => rfl
        | some x, hb2 =>
          show (if R.worst l < x.2 then some (l, R.worst l) else some x) = _
          rw [if_pos (of_decide_eq_true (show decide (R.worst l < x.2) = true from hb2))]
      rw [this]
      exact ⟨qn, ql, ev2, hqn, hqK.mono e6⟩
    · match bo, hb, hb2, enext with
      | none, _, hb2, _ => cases hb2
      | some (l0, m0), hb, hb2, enext =>
        refine g_turn ⟨⟨_, _, _, _, rfl, ?_⟩, rfl, eK⟩
        rw [enext]
        show BestAt K' v (if R.worst l < m0 then some (l, R.worst l) else some (l0, m0))
        rw [if_neg (of_decide_eq_false (show decide (R.worst l < m0) = false from hb2))]
        exact hb
  subst es em
  rw [hL3.1, List.take_length] at hb
  exact g_weak (((e03.trans e4).trans e5).trans eK) (.refl _) (g_retP (R := Is v) (w_var rfl) hQ fun u S e eu => by cases eu; exact hb.mono e))

end
end Cm

/-! ## E15 -/
set_option maxHeartbeats 4000000
/-! Trials; what is told in the law. -/
namespace Cm
open PySem PySem.Spec PyProof.Rows L2 Evl
local macro_rules | `(tactic| walk_at "w") => `(tactic| first
  | exact w_c
  | ((refine w_var ?_); rfl)
  | exact w_nil
  | ((refine w_cons (x := ?x) (xs := ?xs) ?h1 ?h2); (case h1 => walk_at "w"); (case h2 => walk_at "w"))
  | ((refine w_op (x := ?x) (y := ?y) ?h1 ?h2 ?h3); (case h1 => walk_at "w"); (case h2 => walk_at "w"); (case h3 => walk_at "w"))
  | exact w_rI0
  | exact w_rU
  | ((refine w_un (x := ?x) ?h1 ?h2); (case h1 => walk_at "w"); (case h2 => walk_at "w"))
  | ((refine w_rEq ?_); rfl)
  | ((refine w_rNe ?_); rfl)
  | ((refine w_test (b := ?b) ?h1); (case h1 => walk_at "w"))
  | ((refine w_tB (b := ?b) ?h1); (case h1 => walk_at "w"))
  | ((refine w_not (a := ?a) ?h1); (case h1 => walk_at "w"))
  | ((refine w_orU (a := ?a) (b := ?b) ?h1 ?h2); (case h1 => walk_at "w"); (case h2 => walk_at "w"))
  | ((refine w_andU (a := ?a) (b := ?b) ?h1 ?h2); (case h1 => walk_at "w"); (case h2 => walk_at "w"))
  | ((refine w_notV (a := ?a) ?h1); (case h1 => walk_at "w"))
  | ((refine w_orVU (a := ?a) (b := ?b) ?h1 ?h2); (case h1 => walk_at "w"); (case h2 => walk_at "w"))
  | ((refine w_andVU (a := ?a) (b := ?b) ?h1 ?h2); (case h1 => walk_at "w"); (case h2 => walk_at "w"))
  | ((refine w_chain1 (x := ?x) (y := ?y) (z := ?z) (p := ?p) (q := ?q) ?h1 ?h2 ?h3 ?h4 ?h5); (case h1 => walk_at "w"); (case h2 => walk_at "w"); (case h3 => walk_at "w"); (case h4 => walk_at "w"); (case h5 => walk_at "w"))
  | exact w_isN
  | exact w_max2
  | exact w_min2
  | exact w_int1
  | exact w_abs
  | (refine w_rI ?_; decide)
  | assumption)

section
variable {P : Program} {w : World} {K : PySem.W.Frag} {mg : Str → Option Value} {base : Heap} {g : Bg} {S : Hp}
/-- o.f = e, o read with what is known -/
theorem g_fldE {c : Ct} {m : List (Addr × HO)} {K : Hp} {σ : L2.St} {D : Ends} {ta tv : TE} {Kf : PySem.W.Frag} {r : Addr} {R : V → Hp → Prop} {C dx : Addr} {f : Str} {fs : List (Str × V)} (hv : Ex K (ov ((r, .ins C dx fs) :: m) K) → W c.g (tv σ) (ov ((r, .ins C dx fs) :: m) K) R) (ho : ∀ S, Ex K S → W c.g (ta σ) S (Is (.ref r))) (hc : Cls Kf C) (hn : NoAttr Kf C f) (hl : fs.length < 1000)
    (k : ∀ y S, Ex (ov ((r, .ins C dx fs) :: m) K) S → Ex K (drm ((r, .ins C dx fs) :: m) S) → R y S → G c D.nx σ ((r, .ins C dx (putF f y fs)) :: m) (drm ((r, .ins C dx fs) :: m) S)) : G c (sFld Kf ta tv f D) σ ((r, .ins C dx fs) :: m) K :=
  fun H s => hv s.ovK _ H (.refl _) s.hereM _ fun y S H1 d hy => by
    have s1 := s.toMV d
    have e1 := drm_ex s d.kk
    refine ho _ e1 _ H1 (.refl _) s1.a.here _ fun x S2 H2 d2 hx => ?_
    cases hx
    have s2 := (s1.to d2).weak s1.a.kk d2.kk
    exact ⟨r, C, dx, fs, rfl, (s2.mu _ List.mem_cons_self).1, hc, hn, hl, k y S d.kk e1 hy _ s2.wrote⟩
def tryF (r t : Addr) : List (Str × V) := [("owner", .ref r), ("kept_facts", .ref t)]
theorem try_1 {r : Addr} : putF "owner" (.ref r) [] = ([("owner", .ref r)] : List (Str × V)) := rfl
theorem try_2 {r t : Addr} : putF "kept_facts" (.ref t) [("owner", .ref r)] = tryF r t := putF_ne (by decide +kernel)
theorem try_3 {r t t' : Addr} : putF "kept_facts" (.ref t') (tryF r t) = tryF r t' := by
  unfold tryF
  rw [putF_ne (by decide +kernel), putF_eq]
def sp_RecordTrial_init (K : PySem.W.Frag) : Sp := PrO (ι := Addr × Addr × RB) (fun x => [.ref x.1, .ref x.2.2.r]) (fun x => x.1) (fun x => .ins (CRT K) x.2.1 []) (fun _ x S => S x.2.2.r = some (x.2.2.o K)) (fun x _ v o S => v = .non ∧ o = .ins (CRT K) x.2.1 (tryF x.2.2.r x.2.2.t))
theorem k_RecordTrial (T : Txt K mg) : C8.Mak P w K mg base 1 "RecordTrial" (He.ga K "RecordTrial") (sp_RecordTrial_init K) [] := mk_RecordTrial_init T (prO_len fun _ => rfl) (BdO.bs fun cdv A outer s H Q E hr => by
  have hu := hu_of hr
  have nd := sc_RecordTrial_init.nd
  refine ⟨_, (pss_cons (ps_fld (pv 0) (pv 1) rfl)
      (pss_one (ps_fld (pv 0) (peFld (K := K) rfl (pv 1) rfl) rfl))), fun g S0 H0 x hp hQ => ?_⟩
  obtain ⟨a, dx, y⟩ := x
  have hp : S0 y.r = some (y.o K) := hp
  show G ⟨g, S0, H0⟩ _ (start N_RecordTrial_init [.ref a, .ref y.r]) [(a, .ins (CRT K) dx [])] S0
  refine gs_fld (R := Is (.ref y.r)) (fun e => w_var rfl) (fun S => w_var rfl) (cl_RecordTrial T) (na_RecordTrial_owner T) (by decide) fun y' S1 i1 e1 ey => ?_
  cases ey
  rw [try_1]
  refine g_fld (R := Is (.ref y.t)) (fun e => w_fld (w_var rfl) (e _ _ (e1 _ _ hp)) (cl_Record T) (na_Record_own_facts T) rfl) (fun S => w_var rfl) (cl_RecordTrial T) (na_RecordTrial_kept_facts T) (show 1 < 1000 by decide) fun y' S2 i2 e2 ey => ?_
  cases ey
  rw [try_2]
  exact fun H s => hQ _ _ _ H s ⟨rfl, rfl⟩)

def sp_RecordTrial_enter (K : PySem.W.Frag) : Sp := PrO (ι := Addr × Addr × RB) (fun x => [.ref x.1]) (fun x => x.1) (fun x => .ins (CRT K) x.2.1 (tryF x.2.2.r x.2.2.t)) (fun _ x S => S x.2.2.r = some (x.2.2.o K)) (fun x _ v o S => o = .ins (CRT K) x.2.1 (tryF x.2.2.r x.2.2.t))
theorem m_RecordTrial_enter (T : Txt K mg) : C8.Met P w K mg base 1 (He.ga K "RecordTrial") "__enter__" (sp_RecordTrial_enter K) [] := mk_RecordTrial_enter T (prO_len fun _ => rfl) (BdO.bs fun cdv A outer s H Q E hr => by
  have hu := hu_of hr
  have nd := sc_RecordTrial_enter.nd
  refine ⟨_, (pss_cons (ps_fld (pv 0) (peFld (K := K) rfl (peFld (K := K) rfl (pv 0) rfl) rfl) rfl)
      (pss_one (ps_ret (peFld (K := K) rfl (pv 0) rfl)))), fun g S0 H0 x hp hQ => ?_⟩
  obtain ⟨a, dx, y⟩ := x
  have hp : S0 y.r = some (y.o K) := hp
  show G ⟨g, S0, H0⟩ _ (start N_RecordTrial_enter [.ref a]) [(a, .ins (CRT K) dx (tryF y.r y.t))] S0
  refine gs_fld (R := Is (.ref y.t)) (fun e => w_fld (w_fld (w_var rfl) ov_cons (cl_RecordTrial T) (na_RecordTrial_owner T) rfl) (e _ _ hp) (cl_Record T) (na_Record_own_facts T) rfl) (fun S => w_var rfl) (cl_RecordTrial T) (na_RecordTrial_kept_facts T) (show 2 < 1000 by decide) fun y' S1 i1 e1 ey => ?_
  cases ey
  rw [try_3]
  exact g_retM (v := .ref y.r) (fun e => w_fld (w_var rfl) ov_cons (cl_RecordTrial T) (na_RecordTrial_owner T) rfl) fun H s => hQ _ _ _ H s rfl)

def sp_RecordTrial_exit (K : PySem.W.Frag) : Sp := PrO (ι := Addr × Addr × Addr × RB) (fun x => [.ref x.1, .non, .non, .non]) (fun x => x.2.2.2.r) (fun x => x.2.2.2.o K) (fun _ x S => S x.1 = some (.ins (CRT K) x.2.1 (tryF x.2.2.2.r x.2.2.1))) (fun x _ v o S => v = .non ∧ o = RB.o K { x.2.2.2 with t := x.2.2.1 })
theorem m_RecordTrial_exit (T : Txt K mg) : C8.Met P w K mg base 1 (He.ga K "RecordTrial") "__exit__" (sp_RecordTrial_exit K) [] := mk_RecordTrial_exit T (prO_len fun _ => rfl) (BdO.bs fun cdv A outer s H Q E hr => by
  have hu := hu_of hr
  have nd := sc_RecordTrial_exit.nd
  refine ⟨_, (pss_one (ps_fld (peFld (K := K) rfl (pv 0) rfl) (peFld (K := K) rfl (pv 0) rfl) rfl)), fun g S0 H0 x hp hQ => ?_⟩
  obtain ⟨a, dx, t, r, dxr, p, q, top, t'⟩ := x
  have hp : S0 a = some (.ins (CRT K) dx (tryF r t)) := hp
  show G ⟨g, S0, H0⟩ _ (start N_RecordTrial_exit [.ref a, .non, .non, .non]) [(r, .ins (CR K) dxr (recF p q top t'))] S0
  refine g_fldE (R := Is (.ref t)) (fun e => w_fld (w_var rfl) (e _ _ hp) (cl_RecordTrial T) (na_RecordTrial_kept_facts T) rfl) (fun S e => w_fld (w_var rfl) (e _ _ hp) (cl_RecordTrial T) (na_RecordTrial_owner T) rfl) (cl_Record T) (na_Record_own_facts T) (show 4 < 1000 by decide) fun y' S1 i1 e1 ey => ?_
  cases ey
  rw [rec_5]
  exact fun H s => hQ _ _ _ H s ⟨rfl, rfl⟩)

def sp_Record_trial (K : PySem.W.Frag) : Sp := Pr (ι := RB) (fun y => [.ref y.r]) (fun _ y S => S y.r = some (y.o K)) (fun y S0 v S => ∃ a dx, v = .ref a ∧ S0 a = none ∧ S a = some (.ins (CRT K) dx (tryF y.r y.t)))
theorem m_Record_trial (T : Txt K mg) : C8.Met P w K mg base 3 (He.ga K "Record") "trial" (sp_Record_trial K) [] := mk_Record_trial T (pr_len (ps := ["self"]) fun _ => rfl) (Bd.bs fun cdv A outer s H Q E hr => by
  have hu := hu_of hr
  have nd := sc_Record_trial.nd
  refine ⟨_, (pss_one (ps_ret (C8.pe_mk (k_RecordTrial (K := K) T) hr (by decide) rfl (pa_cons (pv 0) pa_nil)))), fun g S0 x hp hQ => ?_⟩
  have hp : S0 x.r = some (x.o K) := hp
  show G ⟨g, S0, H⟩ _ (start N_Record_trial [.ref x.r]) [] S0
  exact g_retP (w_make0 (w_cons (w_var rfl) w_nil) fun vs S e hv a dx ha hk ne => hv ▸ w_prO (a, dx, x) (fun K1 e1 => e1 _ _ (e _ _ hp)) fun K1 v o' S' e1 e2 ⟨h1, h2⟩ => ⟨h1, fun hn => ⟨a, dx, rfl, hk, by rw [h2]; exact upd_same⟩⟩) hQ fun v S e h => h)

def sp_law_tell (K : PySem.W.Frag) : Sp := PrO (ι := RB × Rec × Addr × Fact) (fun x => [.ref x.1.r, .ref x.2.2.1]) (fun x => x.1.r) (fun x => x.1.o K) (fun _ x S => RecB K S x.1 x.2.1 ∧ S x.2.2.1 = some (.tup x.2.2.2.vs) ∧ x.2.2.2.Ok x.2.1.n ∧ x.2.1.fs.length ≤ 100) (fun x S0 v o S => Told K x.1 x.2.1 x.2.2.2 v o S)
theorem c_law_tell (T : Txt K mg) : C8.Cal P w K mg base 5 "_law_tell" (sp_law_tell K) [] := mk_law_tell T (prO_len fun _ => rfl) (BdO.bs fun cdv A outer s H Q E hr => by
  have hu := hu_of hr
  have nd := sc_law_tell.nd
  refine ⟨_, (pss_cons (ps_asg (pv 1) (pgTup (K := K) rfl rfl (pgs_cons (pg_name (i := 2) nd rfl (by first | exact .inl rfl | exact .inr rfl)) (pgs_cons (pg_name (i := 3) nd rfl (by first | exact .inl rfl | exact .inr rfl)) (pgs_cons (pg_name (i := 4) nd rfl (by first | exact .inl rfl | exact .inr rfl)) pgs_nil)))))
      (pss_cons (ps_if (pt_cmpR op_eq (pv 2) pe_str (nomark _)) (pss_one (ps_ret (C8.pe_mt (m_Record_only (K := K) T) hr (by decide) (pv 0) (pa_cons (pv 3) (pa_cons (pv 4) pa_nil))))) pss_nil)
      (pss_cons (ps_if (pt_cmpR op_eq (pv 2) pe_str (nomark _)) (pss_one (ps_ret (C8.pe_mt (m_Record_passed (K := K) T) hr (by decide) (pv 0) (pa_cons (pv 3) (pa_cons (pv 4) pa_nil))))) pss_nil)
      (pss_cons (ps_if (pt_cmpR op_eq (pv 2) pe_str (nomark _)) (pss_one (ps_ret (C8.pe_mt (m_Record_showed (K := K) T) hr (by decide) (pv 0) (pa_cons (pv 3) (pa_cons (pv 4) pa_nil))))) pss_nil)
      (pss_one (ps_ret (C8.pe_mt (m_Record_jumped (K := K) T) hr (by decide) (pv 0) (pa_cons (pv 3) (pa_cons (pv 4) pa_nil))))))))), fun g S0 H0 x hp hQ => ?_⟩
  obtain ⟨y, R, b, f⟩ := x
  obtain ⟨hB, hb, hf, hl⟩ := hp
  dsimp only at hB hb hf hl
  show G ⟨g, S0, H0⟩ _ (start N_law_tell [.ref y.r, .ref b]) [(y.r, y.o K)] S0
  cases f with
  | speeds t l =>
    refine gs_un3 (w_var rfl) (st_of hb) (gs_ifN (b := true) (w_test (w_op (w_var rfl) w_c (w_eqS (c := true) (by decide +kernel)))) (fun _ => ?_) fun z => by cases z)
    exact g_retO (wo_m0 (w_var rfl) rfl (w_cons (w_var rfl) (w_cons (w_var rfl) w_nil)) fun vs S e hv => hv ▸ v_only (hB.mono e) hf hl) fun v o' S H' e h s => hQ _ _ _ H' s h
  | passed t l =>
    refine gs_un3 (w_var rfl) (st_of hb) (gs_ifF (w_test (w_op (w_var rfl) w_c (w_eqS (c := false) (by decide +kernel)))) rfl (gs_ifN (b := true) (w_test (w_op (w_var rfl) w_c (w_eqS (c := true) (by decide +kernel)))) (fun _ => ?_) fun z => by cases z))
    exact g_retO (wo_m0 (w_var rfl) rfl (w_cons (w_var rfl) (w_cons (w_var rfl) w_nil)) fun vs S e hv => hv ▸ v_passed (hB.mono e) hf hl) fun v o' S H' e h s => hQ _ _ _ H' s h
  | showed t l =>
    refine gs_un3 (w_var rfl) (st_of hb) (gs_ifF (w_test (w_op (w_var rfl) w_c (w_eqS (c := false) (by decide +kernel)))) rfl (gs_ifF (w_test (w_op (w_var rfl) w_c (w_eqS (c := false) (by decide +kernel)))) rfl (gs_ifN (b := true) (w_test (w_op (w_var rfl) w_c (w_eqS (c := true) (by decide +kernel)))) (fun _ => ?_) fun z => by cases z)))
    exact g_retO (wo_m0 (w_var rfl) rfl (w_cons (w_var rfl) (w_cons (w_var rfl) w_nil)) fun vs S e hv => hv ▸ v_showed (hB.mono e) hf hl) fun v o' S H' e h s => hQ _ _ _ H' s h
  | jumped t l =>
    refine gs_un3 (w_var rfl) (st_of hb) (gs_ifF (w_test (w_op (w_var rfl) w_c (w_eqS (c := false) (by decide +kernel)))) rfl (gs_ifF (w_test (w_op (w_var rfl) w_c (w_eqS (c := false) (by decide +kernel)))) rfl (gs_ifF (w_test (w_op (w_var rfl) w_c (w_eqS (c := false) (by decide +kernel)))) rfl ?_)))
    exact g_retO (wo_m0 (w_var rfl) rfl (w_cons (w_var rfl) (w_cons (w_var rfl) w_nil)) fun vs S e hv => hv ▸ v_jumped (hB.mono e) hf hl) fun v o' S H' e h s => hQ _ _ _ H' s h)

theorem v_law_tell {x : RB} {R : Rec} {b : Addr} {f : Fact} (h : RecB K S x R) (hb : S b = some (.tup f.vs)) (hf : f.Ok R.n) (hl : R.fs.length ≤ 100) : SpO g (sp_law_tell K) x.r (x.o K) [.ref x.r, .ref b] S (Told K x R f) := w_prO (x, R, b, f) (fun _ e => ⟨h.mono e, e _ _ hb, hf, hl⟩) fun _ _ _ _ _ _ h => h
theorem str_dg : ∀ d : Nat, d ≤ 9 → (toString (d : Int) : Str) = dgS [d] := by
  have h : ∀ d : Fin 10, (toString ((d.val : Nat) : Int) : Str) = dgS [d.val] := by decide +kernel
  exact fun d hd => h ⟨d, by omega⟩
theorem w_pair {σ : L2.St} {tr1 tr2 : TA} {xs ys : List V} (h1 : W g (tr1 σ) S (Is xs)) (h2 : ∀ S', Ex S S' → W g (tr2 σ) S' (Is ys)) (l1 : xs.length ≤ 1000) (l2 : ys.length ≤ 1000) :
    W g (tLst (tCons (tTup tr1) (tCons (tTup tr2) tNil)) σ) S (fun v S' => ∃ l a b, v = .ref l ∧ S' l = some (.lst [.ref a, .ref b]) ∧ S' a = some (.tup xs) ∧ S' b = some (.tup ys)) :=
  w_lstR (Ra := fun vs S' => ∃ a b, vs = [.ref a, .ref b] ∧ S' a = some (.tup xs) ∧ S' b = some (.tup ys)) (w_consR (w_tupO h1 l1) fun v S1 e1 ⟨a, ea, _, ha⟩ => w_consR (w_tupO (h2 S1 e1) l2) fun v2 S2 e2 ⟨b, eb, _, hb⟩ => w_nilR fun S3 e3 => ⟨a, b, by rw [ea, eb], e3 _ _ (e2 _ _ ha), e3 _ _ hb⟩) fun vs S1 e1 ⟨a, b, ev, ha, hb⟩ => ⟨by rw [ev]; exact (by decide : 2 ≤ 1000), fun p hp => ⟨p, a, b, rfl, by rw [upd_same, ev], (Ex.new hp) _ _ ha, (Ex.new hp) _ _ hb⟩⟩
def sp_law_look_fact (K : PySem.W.Frag) : Sp := Pr (ι := Addr × Lk × Int) (fun x => [.ref x.1, .int x.2.2]) (fun _ x S => LkAt S x.1 x.2.1 ∧ (x.2.1.1 = .speed → ∃ d : Nat, x.2.2 = d ∧ d ≤ 9)) (fun x _ v S => ∃ q, v = .ref q ∧ S q = some (.tup (lookF x.2.1 x.2.2).vs))
theorem c_law_look_fact (T : Txt K mg) : C8.Cal P w K mg base 1 "_law_look_fact" (sp_law_look_fact K) [] := mk_law_look_fact T (pr_len (ps := ["_law_look", "_law_seen"]) fun _ => rfl) (Bd.bs fun cdv A outer s H Q E hr => by
  have hu := hu_of hr
  have nd := sc_law_look_fact.nd
  refine ⟨_, (pss_cons (ps_asg (pv 0) (pgTup (K := K) rfl rfl (pgs_cons (pg_name (i := 2) nd rfl (by first | exact .inl rfl | exact .inr rfl)) (pgs_cons (pg_name (i := 3) nd rfl (by first | exact .inl rfl | exact .inr rfl)) pgs_nil))))
      (pss_cons (ps_if (pt_cmpR op_eq (pv 2) pe_str (nomark _)) (pss_one (ps_ret (pe_tup (pa_cons pe_str (pa_cons (pv 3) (pa_cons (pe_callTy call_str_int rfl (T.free 58 rfl) bt_str (pa_cons (pv 1) pa_nil)) pa_nil)))))) pss_nil)
      (pss_one (ps_ret (pe_ix (ixL (K := K) rfl) (pe_lst (pa_cons (pe_tup (pa_cons pe_str (pa_cons (pv 3) (pa_cons (pv 1) pa_nil)))) (pa_cons (pe_tup (pa_cons pe_str (pa_cons (pv 3) (pa_cons (pv 1) pa_nil)))) pa_nil))) (pe_callTy call_int1 rfl (T.free 59 rfl) bt_int (pa_cons (pe_cmpR op_eq (pv 2) pe_str (nomark _)) pa_nil)) (fun _ _ => rfl)))))), fun g S0 x hp hQ => ?_⟩
  obtain ⟨q, ⟨k, t⟩, s'⟩ := x
  obtain ⟨hq, hs⟩ := hp
  have hq : S0 q = some (.tup [.str k.s, .int t]) := hq
  dsimp only at hs
  show G ⟨g, S0, H⟩ _ (start N_law_look_fact [.ref q, .int s']) [] S0
  refine gs_un2 (w_var rfl) (st_of hq) ?_
  cases k with
  | speed =>
    obtain ⟨d, ed, hd⟩ := hs rfl
    subst ed
    refine gs_ifN (b := true) (w_test (w_op (w_var rfl) w_c (w_eqS (c := true) (by decide +kernel)))) (fun _ => ?_) fun z => by cases z
    exact g_retP (w_tupO (xs := [.str "speeds", .int t, .str (toString (d : Int))]) (w_cons w_c (w_cons (w_var rfl) (w_cons (w_cb (w_cons (w_var rfl) w_nil) (w_str (Nat.lt_of_le_of_lt (Nat.log2_le_self _) (by omega)))) w_nil)))) hQ fun v S e ⟨q, ev, _, hq⟩ => ⟨q, ev, by
      rw [hq, str_dg d hd]
      rfl⟩
  | way =>
    refine gs_ifF (w_test (w_op (w_var rfl) w_c (w_eqS (c := false) (by decide +kernel)))) rfl ?_
    exact g_retP (w_opR2 (w_pair (xs := (Fact.passed t s').vs) (ys := (Fact.showed t s').vs) (w_cons w_c (w_cons (w_var rfl) (w_cons (w_var rfl) w_nil))) (fun S e => w_cons w_c (w_cons (w_var rfl) (w_cons (w_var rfl) w_nil))) (show 3 ≤ 1000 by decide) (show 3 ≤ 1000 by decide)) (fun S e => (w_cb (w_cons (w_op (w_var rfl) w_c (w_eqS (c := false) (by decide +kernel))) w_nil) w_intB : W _ _ _ (Is (.int 0)))) fun x S e ⟨l, a, b, ev, h1, h2, h3⟩ => ev ▸ (w_ixL (v := .ref a) (i := 0) (sq_of h1) rfl).imp fun v S' e' hv => ⟨a, hv, e' _ _ h2⟩) hQ fun v S e h => h
  | price =>
    refine gs_ifF (w_test (w_op (w_var rfl) w_c (w_eqS (c := false) (by decide +kernel)))) rfl ?_
    exact g_retP (w_opR2 (w_pair (xs := (Fact.passed t s').vs) (ys := (Fact.showed t s').vs) (w_cons w_c (w_cons (w_var rfl) (w_cons (w_var rfl) w_nil))) (fun S e => w_cons w_c (w_cons (w_var rfl) (w_cons (w_var rfl) w_nil))) (show 3 ≤ 1000 by decide) (show 3 ≤ 1000 by decide)) (fun S e => (w_cb (w_cons (w_op (w_var rfl) w_c (w_eqS (c := true) (by decide +kernel))) w_nil) w_intB : W _ _ _ (Is (.int 1)))) fun x S e ⟨l, a, b, ev, h1, h2, h3⟩ => ev ▸ (w_ixL (v := .ref b) (i := 1) (sq_of h1) rfl).imp fun v S' e' hv => ⟨b, hv, e' _ _ h3⟩) hQ fun v S e h => h)

end
end Cm

/-! ## E16 -/
set_option maxHeartbeats 4000000
/-! Tried with a lambda: the number behind a fact. -/
namespace Cm
open PySem PySem.Spec PyProof.Rows L2 Evl LamX NdefX
section
variable {P : Program} {w : World} {K : PySem.W.Frag} {mg : Str → Option Value} {base : Heap} {g : Bg} {S : Hp}
/-! ### the words -/
def nbD : He.Defn := ("_law_number_behind", none)
/-- its code object, and the table there -/
abbrev nbC (K : PySem.W.Frag) : Addr := (He.cT K nbD).1
abbrev nbP (K : PySem.W.Frag) : Addr := (He.cT K nbD).2
/-! ### rules -/
theorem St8.loc {c : Ct} {m : List (Addr × HO)} {K S H H' : Hp} {p : Addr} {ob : HO} (s : St8 c m K H) (d : At c.g K H S H') (hk : K p = none) (hp : S p = some ob) (nt : NotT ob) : St8 c ((p, ob) :: m) (cut1 S p) H' := by
  have s' := s.to d
  have h0 : c.H0 p = none := by
    cases q : c.H0 p with
    | none => rfl
    | some u =>
      rcases s'.a.ns p (s.a.kk.free hk) (by rw [q]; exact Option.some_ne_none _) with z | ⟨xs, z⟩
      · rw [z] at hp; cases hp
      · rw [hp] at z; exact absurd (Option.some.inj z) (nt xs)
  have off : ∀ q ∈ m, q.1 ≠ p := fun q hq z => by have := (s'.mu q hq).2.1; rw [z, hp] at this; cases this
  have e0 : Ex c.K0 (cut1 S p) := fun a u h1 => by
    rw [cut_ne (fun z => by rw [z] at h1; rw [s.a.kk _ _ h1] at hk; cases hk)]
    exact s'.a.kk _ _ h1
  have s2 := s'.weak e0 cut_le
  exact ⟨s2.a, fun q hq => (List.mem_cons.mp hq).elim (fun z => by rw [z]; exact ⟨s'.a.kh _ _ hp, cut_at, h0⟩) fun z => s2.mu q z, fun q hq => (List.mem_cons.mp hq).elim (fun z => by rw [z]; exact nt) fun z => s2.nt q z,
    List.nodup_cons.mpr ⟨fun z => by obtain ⟨q, hq, e⟩ := List.mem_map.mp z; exact off q hq e, s2.nd⟩⟩
theorem g_with0 {c : Ct} {K : Hp} {σ : L2.St} {D : Ends} {C : Addr} {spE spX : Sp} {te : TE} {tb : TS} {R : Addr → Addr → List (Str × V) → Hp → Prop} (h : W c.g (te σ) K fun v S => ∃ a dx fs, v = .ref a ∧ K a = none ∧ S a = some (.ins C dx fs) ∧ R a dx fs S)
    (k : ∀ a dx fs S, Ex K S → K a = none → S a = some (.ins C dx fs) → R a dx fs S → G c (fun σ H => spE [.ref a] H (fun _ H2 => tb { nx := fun σ' H' => spX [.ref a, .non, .non, .non] H' (fun v H'' => v = .non ∧ D.nx σ' H'') C8.E0, rt := fun _ _ => False } σ H2) C8.E0) σ [(a, .ins C dx fs)] (cut1 S a)) :
    G c (tWith0 C spE spX te tb D) σ [] K :=
  fun H s => h K H (.refl _) s.a.here _ fun v S H' d ⟨a, dx, fs, ev, hk, hs, hR⟩ => ⟨a, dx, fs, ev, d.kh _ _ hs, k a dx fs S d.kk hk hs hR H' (s.loc d hk hs fun _ z => by cases z)⟩
theorem g_spO {c : Ct} {m : List (Addr × HO)} {K : Hp} {σ : L2.St} {sp : Sp} {r : Addr} {o : HO} {vs : List V} {RO : V → HO → Hp → Prop} {F : V → L2.St → Hp → Prop} {E : XK} (h : SpO c.g sp r o vs K RO) (k : ∀ v o' S, Ex K S → RO v o' S → G c (F v) σ ((r, o') :: m) S) : G c (fun σ H => sp vs H (fun v H2 => F v σ H2) E) σ ((r, o) :: m) K :=
  fun H s => h E K (cut1 H r) H (.refl _) s.one _ fun v o' S H' b hR => k v o' S b.a.kk hR H' (s.back b)
theorem g_valM {c : Ct} {m : List (Addr × HO)} {K : Hp} {σ : L2.St} {f : Hp → VK → Prop} {x : V} {F : V → L2.St → Hp → Prop} (h : Ex K (ov m K) → W c.g f (ov m K) (Is x)) (k : G c (F x) σ m K) : G c (fun σ H => f H fun v H2 => F v σ H2) σ m K :=
  fun H s => h s.ovK _ H (.refl _) s.hereM _ fun v S H' d hv => by cases hv; exact k H' (s.toM d)
theorem RecAt.cut {r : Addr} {R : Rec} (h : RecAt K S r R) : ∃ y : RB, y.r = r ∧ S r = some (y.o K) ∧ RecB K (cut1 S r) y R := by
  obtain ⟨y, er, h1, hB⟩ := RecAt.b h
  subst er
  have tupNe : ∀ {a : Addr} {xs : List V}, S a = some (.tup xs) → cut1 S y.r a = some (.tup xs) := fun {a xs} e => by
    rw [cut_ne (fun z => by rw [z, h1] at e; cases e)]
    exact e
  refine ⟨y, rfl, h1, hB.top, ?_⟩
  obtain ⟨⟨dx, n, t, u, d, m1, m2⟩, hq, qs, ht, hF⟩ := hB.pp
  obtain ⟨n1, ⟨ts, n2, n3⟩, n4⟩ := m2
  have mne : y.p ≠ y.r := fun z => by
    rw [z, h1] at m1
    have m1 := Option.some.inj m1
    injection m1 with _ _ m1
    injection m1 with m1 _
    injection m1 with m1 _
    exact absurd m1 (by decide +kernel)
  refine ⟨⟨dx, n, t, u, d, by rw [cut_ne mne]; exact m1, tupNe n1, ⟨ts, tupNe n2, n3.1, fun i q ws a b => ?_⟩, tupNe n4⟩, tupNe hq, qs, tupNe ht, hF.1, fun i q f a b => tupNe (hF.2 i q f a b)⟩
  obtain ⟨dx2, r2, k1, k2⟩ := n3.2 i q ws a b
  have tne : q ≠ y.r := fun z => by
    rw [z, h1] at k1
    have k1 := Option.some.inj k1
    injection k1 with _ _ k1
    injection k1 with _ k1
    cases k1
  exact ⟨dx2, r2, by rw [cut_ne tne]; exact k1, tupNe k2⟩
theorem v_trial {y : RB} (h : S y.r = some (y.o K)) : SpW g (sp_Record_trial K) [.ref y.r] S (fun v S' => ∃ a dx, v = .ref a ∧ S a = none ∧ S' a = some (.ins (CRT K) dx (tryF y.r y.t))) := w_pr y (fun _ e => e _ _ h) fun K1 v S' e e2 ⟨a, dx, h1, h2, h3⟩ => ⟨a, dx, h1, e.free h2, h3⟩
theorem v_enter {a dx : Addr} {y : RB} (h : S y.r = some (y.o K)) : SpO g (sp_RecordTrial_enter K) a (.ins (CRT K) dx (tryF y.r y.t)) [.ref a] S (fun v o S' => o = .ins (CRT K) dx (tryF y.r y.t)) := w_prO (a, dx, y) (fun _ e => e _ _ h) fun _ _ _ _ _ _ h => h
theorem v_exit {a dx t : Addr} {y : RB} (h : S a = some (.ins (CRT K) dx (tryF y.r t))) : SpO g (sp_RecordTrial_exit K) y.r (y.o K) [.ref a, .non, .non, .non] S (fun v o S' => v = .non ∧ o = RB.o K { y with t := t }) := w_prO (a, dx, t, y) (fun _ e => e _ _ h) fun _ _ _ _ _ _ h => h
/-! ### the readings -/
def tTriedB (K : PySem.W.Frag) (F : Addr → NF) (b : Expr) (N : List Str) (n : Nat) (ws : List (Option V)) (tb : TE) : TS :=
  tSeq (tWith0 (CRT K) (sp_RecordTrial_enter K) (sp_RecordTrial_exit K) (tMeth (CR K) "trial" (sp_Record_trial K) [] C8.E0 (tVar 0) tNil) (tAsg (tDeed 1 F b N n ws (tCons (tVar 0) tNil) tb) (gName 2))) (tRet (tVar 2))
def tLamB (K : PySem.W.Frag) : TE := tOp (rIxT K) (tTup (tCons (tCall (sp_law_tell K) [] C8.E0 (tCons (tVar 0) (tCons (tVar 1) tNil))) (tCons (tMeth (CR K) "how_many" (sp_Record_how_many K) [] C8.E0 (tVar 0) tNil) tNil))) (tC (.int 1))
abbrev nbN : List Str := ["_law_held", "_law_fact"]
/-- with a fact more -/
def Rec.plus (R : Rec) (f : Fact) : Rec := { R with fs := R.fs ++ [f] }
theorem Rec.plus_ok {R : Rec} {f : Fact} (ok : R.Ok) (hl : R.fs.length ≤ 9) (hf : f.Ok R.n) : (R.plus f).Ok := ⟨ok.m, ok.n1, ok.t1, ok.few, ok.room, by show (R.fs ++ [f]).length ≤ 10; rw [List.length_append, List.length_singleton]; omega, fun x hx => by
  rcases List.mem_append.mp (show x ∈ R.fs ++ [f] from hx) with h | h
  · exact ok.fo x h
  · rw [List.mem_singleton.mp h]; exact hf⟩
theorem tried_walk {H1 S1 : Hp} {r qf lf c' : Addr} {R : Rec} {f : Fact} {F : Addr → NF} {b : Expr} {Q : VK} (a : At g S1 H1 S1 H1) (hr : RecAt K S1 r R) (ok : R.Ok) (hl : R.fs.length ≤ 9) (hq : S1 qf = some (.tup f.vs)) (hf : f.Ok R.n)
    (hlf : S1 lf = some (LamO lf (F c') b)) (hc : S1 (F c').c = some (CodeO (F c').c (F c').qual)) (hQ : ∀ S H', At g S1 H1 S H' → Q (.int (R.plus f).howMany) H') :
    tTriedB K F b nbN 1 [some (.ref qf)] (tLamB K) { nx := fun _ H' => Q .non H', rt := Q } (start N_Record_tried [.ref r, .ref lf]) H1 := by
  obtain ⟨y, er, hy, hB⟩ := hr.cut
  subst er
  have s0 : St8 ⟨g, S1, H1⟩ [] S1 H1 := ⟨a, fun _ z => absurd z List.not_mem_nil, fun _ z => absurd z List.not_mem_nil, List.nodup_nil⟩
  have nt : NotT (y.o K) := fun _ z => by cases z
  have sA := s0.steal hy nt fun bb l e z => by
    obtain ⟨ns, _, _, _, _, _, _, h1, _⟩ := (a.bg bb l e).2.2.1
    rw [z, a.kh _ _ hy] at h1
    cases h1
  have no : ∀ {x : Addr} {o : HO}, S1 x = some o → o ≠ y.o K → cut1 S1 y.r x = some o := fun {x o} e n => by
    rw [cut_ne (fun z => by rw [z, hy] at e; exact n (Option.some.inj e).symm)]
    exact e
  have hq0 := no hq fun z => by cases z
  have hlf0 := no hlf fun z => by unfold LamO at z; cases z
  have hc0 := no hc fun z => by unfold CodeO at z; cases z
  refine (?_ : G ⟨g, cut1 S1 y.r, cut1 H1 y.r⟩ (tTriedB K F b nbN 1 [some (.ref qf)] (tLamB K) { nx := fun _ H' => Q .non H', rt := Q }) (start N_Record_tried [.ref y.r, .ref lf]) [(y.r, y.o K)] (cut1 S1 y.r)) H1 sA
  generalize hK0 : cut1 S1 y.r = K0 at hB hq0 hlf0 hc0
  refine g_keepH fun k0 h0 => ?_
  have eN : Ex K0 (upd K0 y.r (y.o K)) := Ex.new k0
  have hyK : upd K0 y.r (y.o K) y.r = some (y.o K) := upd_same
  generalize upd K0 y.r (y.o K) = K1 at eN hyK ⊢
  refine g_with0 (R := fun a dx fs S => fs = tryF y.r y.t) (W.imp (w_m0 (w_var rfl) hyK rfl w_nil (v_trial hyK)) fun v S e ⟨a, dx, ev, h1, h2⟩ => ⟨a, dx, _, ev, h1, h2, rfl⟩) fun ta dx fs S2 e2 hta hS2 ef => ?_
  subst ef
  have eC : Ex K1 (cut1 S2 ta) := Ex.cut e2 hta
  generalize cut1 S2 ta = K2 at eC ⊢
  refine g_spO (v_enter (eC _ _ hyK)) fun v o' S3 e3 eo => ?_
  subst eo
  refine g_keepH fun k4 h4 => ?_
  have e4 : Ex S3 (upd S3 ta (.ins (CRT K) dx (tryF y.r y.t))) := Ex.new k4
  have hta4 : upd S3 ta (.ins (CRT K) dx (tryF y.r y.t)) ta = some (.ins (CRT K) dx (tryF y.r y.t)) := upd_same
  generalize upd S3 ta (.ins (CRT K) dx (tryF y.r y.t)) = K4 at e4 hta4 ⊢
  have e14 : Ex K1 K4 := (eC.trans e3).trans e4
  refine g_take (e14 _ _ hyK) (by rw [← hK0]; exact cut_at) nt ?_
  have e05 : Ex K0 (cut1 K4 y.r) := Ex.cut (eN.trans e14) k0
  have hta5 : cut1 K4 y.r ta = some (.ins (CRT K) dx (tryF y.r y.t)) := by
    rw [cut_ne (fun z => by
      have := e14 _ _ hyK
      rw [← z, hta4] at this
      have := Option.some.inj this
      injection this with _ _ this
      injection this with this _
      injection this with this _
      exact absurd this (by decide +kernel))]
    exact hta4
  generalize cut1 K4 y.r = K5 at e05 hta5 ⊢
  refine fun H s => ⟨lf, c', rfl, s.a.kh _ _ (e05 _ _ hlf0), .ref y.r, rfl, rfl, s.a.kh _ _ (e05 _ _ hlf0), s.a.kh _ _ (e05 _ _ hc0), .ref y.r, rfl, .ref qf, rfl, ?_⟩
  refine (?_ : G ⟨g, K0, cut1 H1 y.r⟩ (fun σ H => sp_law_tell K [.ref y.r, .ref qf] H (fun v H2 => (fun (v : V) (σ : L2.St) (H2 : Hp) => tOp (rIxT K) (tTup (tCons (tC v) (tCons (tMeth (CR K) "how_many" (sp_Record_how_many K) [] C8.E0 (tVar 0) tNil) tNil))) (tC (.int 1)) (startF nbN [.ref y.r] [some (.ref qf)]) H2 fun x H3 => sp_RecordTrial_exit K [.ref ta, .non, .non, .non] H3 (fun v H4 => v = .non ∧ tRet (tVar 2) { nx := fun _ H' => Q .non H', rt := Q } [some (.ref y.r), some (.ref lf), some x] H4) C8.E0) v σ H2) C8.E0) [] [(y.r, y.o K)] K5) H s
  refine g_spO (v_law_tell (hB.mono e05) (e05 _ _ hq0) hf (by omega)) fun v o' S6 e6 ⟨ev, t', eo, hB6⟩ => ?_
  subst ev eo
  have hpl : RecB K S6 { y with t := t' } (R.plus f) := hB6
  refine g_valM (x := .int (R.plus f).howMany) (F := fun x σ H3 => sp_RecordTrial_exit K [.ref ta, .non, .non, .non] H3 (fun v H4 => v = .non ∧ tRet (tVar 2) { nx := fun _ H' => Q .non H', rt := Q } [some (.ref y.r), some (.ref lf), some x] H4) C8.E0) (fun e => w_opN1 (w_tupO (xs := [.non, .int (R.plus f).howMany]) (w_cons w_c (w_cons (w_m0 (w_var rfl) ov_cons rfl w_nil (v_how_many (RecB.at (x := { y with t := t' }) ov_cons (hpl.mono e)) (Rec.plus_ok ok hl hf))) w_nil))) (fun S e => w_c) fun p S e hs => w_ixT (i := 1) (st_of hs) rfl) ?_
  · refine g_spO (F := fun v σ H4 => v = .non ∧ tRet (tVar 2) { nx := fun _ H' => Q .non H', rt := Q } [some (.ref y.r), some (.ref lf), some (.int (R.plus f).howMany)] H4) (v_exit (y := { y with t := t' }) (e6 _ _ hta5)) fun v o' S7 e7 ⟨ev, eo⟩ => ?_
    subst ev eo
    intro H s
    exact ⟨rfl, _, rfl, hQ _ H (s0.give hy (by rw [hK0]; exact s))⟩
/-! ### the making of the lambda -/
theorem lam_made {c : Ct} {m : List (Addr × HO)} {K H H1 : Hp} {p f c' : Addr} {q : Str} {F : Addr → NF} {b : Expr} {ps : Array Value} (s : St8 c ((p, .tbl ps) :: m) K H) (t : TabK ps q K) (L : LamMade p q F b ps H f c' H1) :
    ∃ ps' S, St8 c ((p, .tbl ps') :: m) S H1 ∧ Ex K S ∧ TabK ps' q S ∧ S f = some (LamO f (F c') b) ∧ S c' = some (CodeO c' q) := by
  have hP := (s.mu _ List.mem_cons_self).1
  have lay : ∀ {ps' : Array Value} {K H : Hp} {x : Addr} {o : HO}, St8 c ((p, .tbl ps') :: m) K H → H x = none → St8 c ((p, .tbl ps') :: m) (upd K x o) (upd H x o) ∧ Ex K (upd K x o) := fun s h => ⟨s.to (s.a.here.laid h), Ex.new (s.a.kh.free h)⟩
  rcases L with ⟨ps', hc, ne, hf, t1, t2, e⟩ | ⟨⟨pos, hpos⟩, hf, e⟩
  · subst e
    have s1 : St8 c ((p, .tbl ps') :: m) K (upd H p (.tbl ps')) := s.wrote (fun _ z => by cases z)
    obtain ⟨s2, e2⟩ := lay (o := CodeO c' q) s1 (show upd H p (.tbl ps') c' = none by rw [upd_ne (fun z => by rw [z, hP] at hc; cases hc)]; exact hc)
    obtain ⟨s3, e3⟩ := lay (o := LamO f (F c') b) s2 (show upd (upd H p (.tbl ps')) c' (CodeO c' q) f = none by rw [upd_ne (Ne.symm ne), upd_ne (fun z => by rw [z, hP] at hf; cases hf)]; exact hf)
    have hc3 : upd (upd K c' (CodeO c' q)) f (LamO f (F c') b) c' = some (CodeO c' q) := e3 _ _ upd_same
    refine ⟨ps', _, s3, e2.trans e3, ⟨t1, fun pos cv h => ?_⟩, upd_same, hc3⟩
    rcases t2 pos cv h with z | z
    · obtain ⟨c0, h1, h2⟩ := t.2 pos cv z
      exact ⟨c0, h1, (e2.trans e3) _ _ h2⟩
    · exact ⟨c', z, hc3⟩
  · subst e
    obtain ⟨s3, e3⟩ := lay (o := LamO f (F c') b) s hf
    obtain ⟨c0, h1, h2⟩ := t.2 pos _ hpos
    cases h1
    exact ⟨ps, _, s3, e3, t.mono e3, upd_same, e3 _ _ h2⟩
/-! ### the defs -/
def lamOfS : Stmt → Expr
  | .Return (some (.Call _ (l :: _) _ _)) _ => l
  | _ => .Constant .none 0 default
def lamPar : Expr → Arguments
  | .Lambda p _ _ _ => p
  | _ => default
def lamBd : Expr → Expr
  | .Lambda _ b _ _ => b
  | e => e
def lamSc : Expr → Scope
  | .Lambda _ _ s _ => s
  | _ => default
abbrev nbL : Expr := lamOfS (d_law_number_behind.body.getD 0 (.Pass default))
abbrev nbQ : Str := (envOfC d_law_number_behind.qual d_law_number_behind.scope 0 0 .none).qual ++ "<lambda>"
theorem nb_sc : NScope nbN ["_law_held"] ["_law_fact"] (lamSc nbL) := nscope_by (by decide +kernel)
theorem nb_bind (c : FuncData → Prop) (q : Str) (cl : List (Str × Addr)) (pm cv ctv : Value) (us : List Value) (h : us.length = ["_law_held"].length) : bindArgs (PySem.W.kla_fn "<lambda>" q (lamPar nbL) (lamBd nbL) (lamSc nbL) cl pm cv ctv) ⟨us, []⟩ = pure ((["_law_held"] : List Str).zip us) := match us, h with | [_], _ => rfl
end
section
variable {P : Program} {w : World} {K : PySem.W.Frag} {mg : Str → Option Value} {base : Heap}
theorem tried_gives (T : Txt K mg) {F : Addr → NF} {b : Expr} {fr : List Str} {cl : List (Str × Addr)} {ws : List (Option V)} (hcl : ∀ c', (F c').cl = cl) (S : ∀ c', NScope nbN ["_law_held"] fr (F c').scope)
    (hb : ∀ (c' : Addr) (pm ctv : Value) (us : List Value), us.length = (["_law_held"] : List Str).length → bindArgs (PySem.W.kla_fn (F c').name (F c').qual (F c').params b (F c').scope (F c').cl pm (.ref (F c').c) ctv) ⟨us, []⟩ = pure ((["_law_held"] : List Str).zip us))
    (hbody : ∀ (f c' : Addr) (A : Around) (outer : List Env) (s : Shared) (H : Hp), Room 9 (A.deeper (envF (F c') f s.heap.objs.size)) → PE (ncx C8.CX0 P w K mg base nbN (F c') f A outer s H C8.E0) b (tLamB K))
    {cdv : Value} {A : Around} {outer : List Env} {s : Shared} {H : Hp} (hr : Room 10 (A.deeper (envOfC d_Record_tried.qual d_Record_tried.scope s.heap.objs.size (d_Record_tried.at_ K) cdv))) (C : CellsAt cl fr ws s.heap H) :
    PSs (cx P w K mg base N_Record_tried d_Record_tried cdv A outer s H C8.E0) d_Record_tried.body (tTriedB K F b nbN 1 ws (tLamB K)) := by
  have nd := sc_Record_tried.nd
  exact (pss_cons (ps_with0 (m_RecordTrial_enter (K := K) T) (m_RecordTrial_exit (K := K) T) hr (by decide) (by decide) (C8.pe_mt0 (m_Record_trial (K := K) T) hr (by decide) (pv 0)) (pss_one (ps_set (i := 2) nd rfl (by first | exact .inl rfl | exact .inr rfl)
    (pe_deed (i := 1) (x := "deed") hcl S hb hbody C (fun b z => absurd (show b ∈ ([] : List Addr) from z) List.not_mem_nil) hr (by decide) rfl (.inl rfl) (pa_cons (pv 0) pa_nil)))))
      (pss_one (ps_ret (pv 2))))
theorem nb_free : ndefB d_law_number_behind.scope (lamSc nbL) ["_law_fact"] = true := by decide +kernel
theorem lam_body (T : Txt K mg) {q : Str} {cl : List (Str × Addr)} {f c' : Addr} {A : Around} {outer : List Env} {s : Shared} {H : Hp} (hr : Room 9 (A.deeper (envF ⟨"<lambda>", q, lamPar nbL, [], lamSc nbL, cl, c'⟩ f s.heap.objs.size))) :
    PE (ncx C8.CX0 P w K mg base nbN ⟨"<lambda>", q, lamPar nbL, [], lamSc nbL, cl, c'⟩ f A outer s H C8.E0) (lamBd nbL) (tLamB K) :=
  (pe_ix (ixT (K := K) rfl) (pe_tup (pa_cons (C8.pe_c (c_law_tell (K := K) T) hr (by decide) rfl (pa_cons (pv 0) (pa_cons (pv 1) pa_nil))) (pa_cons (C8.pe_mt0 (m_Record_how_many (K := K) T) hr (by decide) (pv 0)) pa_nil))) pe_int (fun _ _ => rfl))
def sp_law_number_behind (K : PySem.W.Frag) : Sp := PrO (ι := Addr × Rec × Addr × Fact × Array Value) (fun x => [.ref x.1, .ref x.2.2.1]) (fun _ => nbP K) (fun x => .tbl x.2.2.2.2)
  (fun _ x S => RecAt K S x.1 x.2.1 ∧ x.2.1.Ok ∧ x.2.1.fs.length ≤ 9 ∧ S x.2.2.1 = some (.tup x.2.2.2.1.vs) ∧ x.2.2.2.1.Ok x.2.1.n ∧ TabK x.2.2.2.2 nbQ S) (fun x _ v o S => v = .int (x.2.1.plus x.2.2.2.1).howMany ∧ ∃ ps, o = .tbl ps ∧ TabK ps nbQ S)
theorem c_law_number_behind (T : Txt K mg) (TB : TabB base mg (nbC K) (nbP K)) : C8.Cal P w K mg base 12 "_law_number_behind" (sp_law_number_behind K) [] := by
  obtain ⟨fd, F⟩ := T.fnd 38 (d := d_law_number_behind) rfl
  obtain ⟨fd2, F2⟩ := T.fnd 86 (d := d_Record_tried) rfl
  obtain ⟨oc, od, dV, kV, doc, pm, an, cdv, ct, osl, rfl, lk, hcd, _, _⟩ := F.ex
  obtain ⟨c, hcv⟩ := He.codeIn_ref hcd
  have hc : nbC K = c := He.codeOf_eq (p := nbD) lk hcv
  have len : ∀ vs H Q E, sp_law_number_behind K vs H Q E → vs.length = (["_law_record", "_law_fact"] : List Str).length := prO_len fun _ => rfl
  refine ⟨_, _, ["_law_record", "_law_fact"], [], fn_of (N := N_law_number_behind) lk hcd sc_law_number_behind len fun A outer s H vs Q E hr hsp => ?_, T.glo 38 rfl, F.kp, binds_n F rfl bn_law_number_behind, .nil⟩
  have nd := sc_law_number_behind.nd
  have hbt := binds_n F2 rfl bn_Record_tried
  have hG : PSs (cx P w K mg base N_law_number_behind d_law_number_behind cdv A outer s H E) d_law_number_behind.body _ := pss_one (ps_ret (pe_methS (k := 10) (js := [1]) (fr := ["_law_fact"]) (scope := lamSc nbL) (N := N_Record_tried)
    (sp := fun ws vs H Q => vs.length = 2 ∧ tTriedB K (lamF (cx P w K mg base N_law_number_behind d_law_number_behind cdv A outer s H E) (lamPar nbL) (lamSc nbL)) (lamBd nbL) nbN 1 ws (tLamB K) { nx := fun _ H' => Q .non H', rt := Q } (start N_Record_tried vs) H)
    F2 hbt (cl_Record T) (T.meth 120 rfl) sc_Record_tried (fun ws vs H Q h => h.1) hr (by decide) (ndef_free nb_free) (ndef_fr nb_free) rfl
    (fun cdv2 A2 outer2 s2 H2 ws hr2 C => ⟨_, tried_gives T (F := lamF (cx P w K mg base N_law_number_behind d_law_number_behind cdv A outer s H E) (lamPar nbL) (lamSc nbL)) (b := lamBd nbL) (fun _ => rfl) (fun _ => nb_sc) (fun c' pm ctv us h => nb_bind (fun _ => True) _ _ _ _ _ us h) (fun f c' A outer s H hr => lam_body T hr) hr2 C, fun vs Q h => h.2⟩)
    (pv 0) (pa_cons (pe_lamE (params := lamPar nbL) (b := lamBd nbL) (scope := lamSc nbL) (by rw [hc] at TB; exact TB) hcv rfl (ndef_free nb_free)) pa_nil)))
  refine ⟨_, hG.nox, ?_⟩
  obtain ⟨g, K0, H0, ⟨r, R, qf, f, ps⟩, rfl, s8, ⟨h1, ok, hl, hq, hf, ht⟩, hQ⟩ := hsp
  obtain ⟨y, er, hy, _⟩ := RecAt.b h1
  have er : y.r = r := er
  subst er
  have hP := (s8.mu _ List.mem_cons_self).1
  refine ⟨.ref y.r, rfl, y.r, y.dx, _, rfl, s8.a.kh _ _ hy, rfl, ps, ?_, ht.mono s8.a.kh, fun lf c' H1 L => ⟨rfl, ?_⟩⟩
  · exact hP
  · obtain ⟨ps', S, s9, e9, t9, l9, c9⟩ := lam_made s8 ht L
    exact tried_walk s9.a.here (h1.mono e9) ok hl (e9 _ _ hq) hf l9 c9 fun S' H' b => hQ _ _ _ H' (s9.to b) ⟨rfl, ps', rfl, t9.mono b.kk⟩
end
end Cm

/-! ## E17 -/
set_option maxHeartbeats 4000000
/-! The law's bag of draws. -/
namespace Cm
open PySem PySem.Spec PyProof.Rows L2 Evl
local macro_rules | `(tactic| walk_at "w") => `(tactic| first
  | exact w_c
  | ((refine w_var ?_); rfl)
  | exact w_nil
  | ((refine w_cons (x := ?x) (xs := ?xs) ?h1 ?h2); (case h1 => walk_at "w"); (case h2 => walk_at "w"))
  | ((refine w_op (x := ?x) (y := ?y) ?h1 ?h2 ?h3); (case h1 => walk_at "w"); (case h2 => walk_at "w"); (case h3 => walk_at "w"))
  | exact w_rI0
  | exact w_rU
  | ((refine w_un (x := ?x) ?h1 ?h2); (case h1 => walk_at "w"); (case h2 => walk_at "w"))
  | ((refine w_rEq ?_); rfl)
  | ((refine w_rNe ?_); rfl)
  | ((refine w_test (b := ?b) ?h1); (case h1 => walk_at "w"))
  | ((refine w_tB (b := ?b) ?h1); (case h1 => walk_at "w"))
  | ((refine w_not (a := ?a) ?h1); (case h1 => walk_at "w"))
  | ((refine w_orU (a := ?a) (b := ?b) ?h1 ?h2); (case h1 => walk_at "w"); (case h2 => walk_at "w"))
  | ((refine w_andU (a := ?a) (b := ?b) ?h1 ?h2); (case h1 => walk_at "w"); (case h2 => walk_at "w"))
  | ((refine w_notV (a := ?a) ?h1); (case h1 => walk_at "w"))
  | ((refine w_orVU (a := ?a) (b := ?b) ?h1 ?h2); (case h1 => walk_at "w"); (case h2 => walk_at "w"))
  | ((refine w_andVU (a := ?a) (b := ?b) ?h1 ?h2); (case h1 => walk_at "w"); (case h2 => walk_at "w"))
  | ((refine w_chain1 (x := ?x) (y := ?y) (z := ?z) (p := ?p) (q := ?q) ?h1 ?h2 ?h3 ?h4 ?h5); (case h1 => walk_at "w"); (case h2 => walk_at "w"); (case h3 => walk_at "w"); (case h4 => walk_at "w"); (case h5 => walk_at "w"))
  | exact w_isN
  | exact w_max2
  | exact w_min2
  | exact w_int1
  | exact w_abs
  | (refine w_rI ?_; decide)
  | assumption)

section
variable {P : Program} {w : World} {K : PySem.W.Frag} {mg : Str → Option Value} {base : Heap} {g : Bg} {S : Hp}
/-- the bag's list -/
abbrev bagO (l : Addr) (i c m n : Int) : HO := .lst [.ref l, .int i, .int c, .int m, .int n]
def Kb (b l : Addr) (ns : List Int) (i c m n : Int) : Hp := fun x => if x = b then some (bagO l i c m n) else if x = l then some (.lst (ns.map V.int)) else none
theorem Kb_b {b l : Addr} {ns : List Int} {i c m n : Int} : Kb b l ns i c m n b = some (bagO l i c m n) := if_pos rfl
theorem Kb_l {b l : Addr} {ns : List Int} {i c m n : Int} (h : l ≠ b) : Kb b l ns i c m n l = some (.lst (ns.map V.int)) := (if_neg h).trans (if_pos rfl)
/-- where the bag stands so -/
def GB (c : Ct) (b l : Addr) (ns : List Int) (P : L2.St → Hp → Prop) (σ : L2.St) (i k m n : Int) : Prop := ∀ H, At c.g c.K0 c.H0 c.K0 H → H b = some (bagO l i k m n) → H l = some (.lst (ns.map V.int)) → P σ H
section
variable {c : Ct} {b l : Addr} {ns : List Int} {i k m n x : Int} {σ : L2.St} {D : Ends} {te ta ti : TE} {t u z : TS} {tt : TT} {bb : Bool} {v : V} {j : Nat}
theorem At.bag (hg : c.g = some (b, l)) {H H' : Hp} (a : At c.g c.K0 c.H0 c.K0 H) (e : ∀ x o, x ≠ b → H x = some o → H' x = some o) (hn : l ≠ b) (hi : 0 ≤ i) (hk : 0 ≤ k) (hb : H' b = some (bagO l i k m n)) (hl : H l = some (.lst (ns.map V.int))) : At c.g c.K0 c.H0 c.K0 H' := by
  have kb : c.K0 b = none := (a.bg b l hg).2.2.2
  refine ⟨a.k0, .refl _, fun x o h => e x o (fun z => by rw [z, kb] at h; cases h) (a.kh _ _ h), fun x o n h => e x o (fun z => n l (by rw [z]; exact hg)) (a.fr x o n h), fun x h _ => .inl h, fun b' l' e' => ?_⟩
  rw [hg] at e'
  cases e'
  exact ⟨(a.bg b l hg).1, (a.bg b l hg).2.1, ⟨ns, i, k, m, n, hb, hn, e _ _ hn hl, hi, hk⟩, kb⟩
theorem gb_ev {α : Type} {f : Hp → (α → Hp → Prop) → Prop} {y : α} {Q : α → Hp → Prop} (hg : c.g = some (b, l)) (hn : l ≠ b) (hi : 0 ≤ i) (hk : 0 ≤ k) (h : W none f (Kb b l ns i k m n) (Is y)) (q : ∀ H, At c.g c.K0 c.H0 c.K0 H → H b = some (bagO l i k m n) → H l = some (.lst (ns.map V.int)) → Q y H)
    {H : Hp} (a : At c.g c.K0 c.H0 c.K0 H) (hb : H b = some (bagO l i k m n)) (hl : H l = some (.lst (ns.map V.int))) : f H Q := by
  have ek : Ex (Kb b l ns i k m n) H := fun x o e => by
    by_cases z : x = b
    · rw [z, Kb_b] at e; rw [z, hb, ← e]
    · by_cases y : x = l
      · rw [y, Kb_l hn] at e; rw [y, hl, ← e]
      · have : Kb b l ns i k m n x = none := (if_neg z).trans (if_neg y)
        rw [this] at e; cases e
  refine h _ H (.refl _) (.refl ek fun _ _ z => by cases z) Q fun v S H' d hv => ?_
  cases hv
  have fr : ∀ x o, H x = some o → H' x = some o := fun x o e => d.fr x o (fun _ z => by cases z) e
  exact q H' (At.bag hg a (fun x o _ e => fr x o e) hn hi hk (fr _ _ hb) hl) (fr _ _ hb) (fr _ _ hl)
theorem gb_asg (hg : c.g = some (b, l)) (hn : l ≠ b) (hi : 0 ≤ i) (hk : 0 ≤ k) (h : W none (te σ) (Kb b l ns i k m n) (Is v)) (q : GB c b l ns (z D) (σ.set j (some v)) i k m n) : GB c b l ns (tSeq (tAsg te (gName j)) z D) σ i k m n := fun H a hb hl => gb_ev (Q := fun v H => z D (σ.set j (some v)) H) hg hn hi hk h q a hb hl
theorem gb_set {i' k' m' n' : Int} {y : Int} (hg : c.g = some (b, l)) (hn : l ≠ b) (hi : 0 ≤ i) (hk : 0 ≤ k) (h0 : σ[0]? = some (some (.ref b))) (h : W none (te σ) (Kb b l ns i k m n) (Is (.int y))) (j : Nat) (hj : ixN 5 (j : Int) = some j) (hs : [V.ref l, .int i, .int k, .int m, .int n].set j (.int y) = [.ref l, .int i', .int k', .int m', .int n']) (hi' : 0 ≤ i') (hk' : 0 ≤ k')
    (q : GB c b l ns D.nx σ i' k' m' n') : GB c b l ns (tAsg te (gSub (tVar 0) (tC (.int (j : Int))) rSetL) D) σ i k m n := fun H a hb hl =>
  gb_ev hg hn hi hk h (Q := fun v H => gSub (tVar 0) (tC (.int (j : Int))) rSetL v σ H D.nx) (fun H a hb hl => by
    refine ⟨.ref b, h0, b, _, j, j, rfl, rfl, hb, hj, ?_⟩
    rw [hs]
    exact q _ (At.bag hg a (fun x o ne e => (upd_ne ne).trans e) hn hi' hk' upd_same hl) upd_same ((upd_ne hn).trans hl)) a hb hl
theorem gbs_set {i' k' m' n' : Int} {y : Int} (hg : c.g = some (b, l)) (hn : l ≠ b) (hi : 0 ≤ i) (hk : 0 ≤ k) (h0 : σ[0]? = some (some (.ref b))) (h : W none (te σ) (Kb b l ns i k m n) (Is (.int y))) (j : Nat) (hj : ixN 5 (j : Int) = some j) (hs : [V.ref l, .int i, .int k, .int m, .int n].set j (.int y) = [.ref l, .int i', .int k', .int m', .int n']) (hi' : 0 ≤ i') (hk' : 0 ≤ k')
    (q : GB c b l ns (z D) σ i' k' m' n') : GB c b l ns (tSeq (tAsg te (gSub (tVar 0) (tC (.int (j : Int))) rSetL)) z D) σ i k m n := gb_set (D := { D with nx := z D }) hg hn hi hk h0 h j hj hs hi' hk' q
theorem gb_if (hg : c.g = some (b, l)) (hn : l ≠ b) (hi : 0 ≤ i) (hk : 0 ≤ k) (h : W none (tt σ) (Kb b l ns i k m n) (Is bb)) (h1 : bb = true → GB c b l ns (t { D with nx := z D }) σ i k m n) (h2 : bb = false → GB c b l ns (z D) σ i k m n) : GB c b l ns (tSeq (tIfS tt t tNext) z D) σ i k m n := fun H a hb hl =>
  gb_ev hg hn hi hk h (Q := fun b H => if b = true then t { D with nx := z D } σ H else z D σ H) (fun H a hb hl => by
    cases bb with
    | true => exact iteT (h1 rfl H a hb hl)
    | false => exact iteF (h2 rfl H a hb hl)) a hb hl
theorem gb_ifJ {σf : Option V → L2.St} {a0 : Option V} (hσ : σ = σf a0) (hg : c.g = some (b, l)) (hn : l ≠ b) (hi : 0 ≤ i) (hk : 0 ≤ k) (h : W none (tt σ) (Kb b l ns i k m n) (Is bb)) (go : ∀ i k m n a, 0 ≤ i → 0 ≤ k → GB c b l ns (z D) (σf a) i k m n)
    (h1 : bb = true → (∀ i k m n a, 0 ≤ i → 0 ≤ k → GB c b l ns (z D) (σf a) i k m n) → GB c b l ns (t { D with nx := z D }) σ i k m n) : GB c b l ns (tSeq (tIfS tt t tNext) z D) σ i k m n := gb_if hg hn hi hk h (fun e => h1 e go) fun _ => by rw [hσ]; exact go i k m n a0 hi hk
theorem gb_ret (hg : c.g = some (b, l)) (hn : l ≠ b) (hi : 0 ≤ i) (hk : 0 ≤ k) (h : W none (te σ) (Kb b l ns i k m n) (Is v)) (q : ∀ H, At c.g c.K0 c.H0 c.K0 H → D.rt v H) : GB c b l ns (tRet te D) σ i k m n := fun H a hb hl => gb_ev hg hn hi hk h (fun H a _ _ => q H a) a hb hl
theorem gb_of {P : L2.St → Hp → Prop} (hg : c.g = some (b, l)) (h : ∀ ns i k m n, l ≠ b → 0 ≤ i → 0 ≤ k → GB c b l ns P σ i k m n) : G c P σ [] c.K0 := fun H s => by
  obtain ⟨ns, i, k, m, n, h1, h2, h3, h4, h5⟩ := (s.a.bg b l hg).2.2.1
  exact h ns i k m n h2 h4 h5 H s.a h1 h3
end
def sp_law_bag (K : PySem.W.Frag) : Sp := Pr (ι := Addr × List Int) (fun x => [.ref x.1]) (fun _ x S => SqL K S x.1 (x.2.map V.int)) (fun x S0 v S => ∃ b l, v = .ref b ∧ S0 b = none ∧ S0 l = none ∧ l ≠ b ∧ S b = some (bagO l 0 0 17 0) ∧ S l = some (.lst (x.2.map V.int)))
theorem c_law_bag (T : Txt K mg) : C8.Cal P w K mg base 1 "_law_bag" (sp_law_bag K) [] := mk_law_bag T (pr_len (ps := ["_law_script"]) fun _ => rfl) (Bd.bs fun cdv A outer s H Q E hr => by
  have hu := hu_of hr
  have nd := sc_law_bag.nd
  refine ⟨_, (pss_one (ps_ret (pe_lst (pa_cons (pe_callTy (cbList (K := K) rfl) rfl (T.free 53 rfl) bt_list (pa_cons (pv 0) pa_nil)) (pa_cons pe_int (pa_cons pe_int (pa_cons pe_int (pa_cons pe_int pa_nil)))))))), fun g S0 x hp hQ => ?_⟩
  exact g_retP (w_lstR (Ra := fun xs S => ∃ l, xs = [.ref l, .int 0, .int 0, .int 17, .int 0] ∧ S0 l = none ∧ S l = some (.lst (x.2.map V.int))) (w_consR (w_cb (w_cons (w_var rfl) w_nil) (w_listL hp)) fun v S e ⟨l, ev, h1, h2⟩ => (w_cons w_c (w_cons w_c (w_cons w_c (w_cons w_c w_nil)))).imp fun ys S2 e2 hy => ⟨l, by cases hy; rw [ev], h1, e2 _ _ h2⟩) fun xs S e ⟨l, ex, h1, h2⟩ => ⟨by rw [ex]; exact (by decide : 5 ≤ 1000), fun p hp => ⟨p, l, rfl, e.free hp, h1, (fun z => by rw [z, hp] at h2; cases h2), by rw [upd_same, ex], (Ex.new hp) _ _ h2⟩⟩) hQ fun v S e h => h)

theorem fmod_in {a s : Int} (h : 0 < s) : 0 ≤ a.fmod s ∧ a.fmod s < s := ⟨Int.fmod_nonneg_of_pos a h, Int.fmod_lt_of_pos a h⟩
def sp_law_draw (K : PySem.W.Frag) : Sp := Pr (ι := (Addr × Addr) × Int) (fun x => [.ref x.1.1, .int x.2]) (fun g x _ => g = some x.1 ∧ 0 < x.2 ∧ x.2 < 1000000) (fun x _ v _ => ∃ d : Nat, v = .int d ∧ (d : Int) < x.2)
theorem c_law_draw (T : Txt K mg) : C8.Cal P w K mg base 1 "_law_draw" (sp_law_draw K) [] := mk_law_draw T (pr_len (ps := ["_law_bag_here", "_law_size"]) fun _ => rfl) (Bd.bs fun cdv A outer s H Q E hr => by
  have hu := hu_of hr
  have nd := sc_law_draw.nd
  refine ⟨_, (pss_cons (ps_asg (pe_op op_add (pe_ix (ixL (K := K) rfl) (pv 0) pe_int (fun _ _ => rfl)) pe_int) (pg_sub (pv 0) pe_int set_list))
      (pss_cons (ps_if (PW.pt (pw_and (pt_cmpR op_eq (pe_ix (ixL (K := K) rfl) (pv 0) pe_int (fun _ _ => rfl)) pe_int (nomark _)) (pw_and1 (pt_cmpR op_lt (pe_ix (ixL (K := K) rfl) (pv 0) pe_int (fun _ _ => rfl)) (pe_callB (cbLen (K := K) rfl) rfl (T.free 51 rfl) bt_len (pa_cons (pe_ix (ixL (K := K) rfl) (pv 0) pe_int (fun _ _ => rfl)) pa_nil)) (nomark _))))) (pss_cons (ps_set (i := 4) nd rfl (by first | exact .inl rfl | exact .inr rfl) (pe_ix (ixL (K := K) rfl) (pe_ix (ixL (K := K) rfl) (pv 0) pe_int (fun _ _ => rfl)) (pe_ix (ixL (K := K) rfl) (pv 0) pe_int (fun _ _ => rfl)) (fun _ _ => rfl)))
      (pss_cons (ps_asg (pe_op op_add (pe_ix (ixL (K := K) rfl) (pv 0) pe_int (fun _ _ => rfl)) pe_int) (pg_sub (pv 0) pe_int set_list))
      (pss_cons (ps_asg (pe_op op_mul (pe_op op_add (pe_op op_mul pe_int (pe_callB call_abs rfl (T.free 61 rfl) bt_abs (pa_cons (pv 4) pa_nil))) (pe_callTy call_int1 rfl (T.free 59 rfl) bt_int (pa_cons (pe_cmpR op_lt (pv 4) pe_int (nomark _)) pa_nil))) (pe_callTy call_int1 rfl (T.free 59 rfl) bt_int (pa_cons (pe_cmpR op_ge (pe_callB call_abs rfl (T.free 61 rfl) bt_abs (pa_cons (pv 4) pa_nil)) (pe_op op_pow pe_int pe_int) (nomark _)) pa_nil))) (pg_sub (pv 0) pe_int set_list))
      (pss_one (ps_asg (pe_op op_modN (pe_callTy call_int1 rfl (T.free 59 rfl) bt_int (pa_cons (pe_op op_add (pe_op op_add (pe_op op_mul (pe_ix (ixL (K := K) rfl) (pv 0) pe_int (fun _ _ => rfl)) pe_int) (pe_op op_mul (pv 4) pe_int)) pe_int) pa_nil)) pe_int) (pg_sub (pv 0) pe_int set_list)))))) pss_nil)
      (pss_cons (ps_set (i := 2) nd rfl (by first | exact .inl rfl | exact .inr rfl) (pe_op op_modN (pe_callTy call_int1 rfl (T.free 59 rfl) bt_int (pa_cons (pe_ix (ixL (K := K) rfl) (pv 0) pe_int (fun _ _ => rfl)) pa_nil)) (pv 1)))
      (pss_cons (ps_if (pt_cmpR op_gt (pe_ix (ixL (K := K) rfl) (pv 0) pe_int (fun _ _ => rfl)) pe_int (nomark _)) (pss_cons (ps_asg (pe_op op_fdivN (pe_ix (ixL (K := K) rfl) (pv 0) pe_int (fun _ _ => rfl)) (pv 1)) (pg_sub (pv 0) pe_int set_list))
      (pss_one (ps_ret (pv 2)))) pss_nil)
      (pss_cons (ps_set (i := 3) nd rfl (by first | exact .inl rfl | exact .inr rfl) (pe_op op_modN (pe_callTy call_int1 rfl (T.free 59 rfl) bt_int (pa_cons (pe_op op_add (pe_ix (ixL (K := K) rfl) (pv 0) pe_int (fun _ _ => rfl)) (pe_op op_mul (pe_ix (ixL (K := K) rfl) (pv 0) pe_int (fun _ _ => rfl)) pe_int)) pa_nil)) pe_int))
      (pss_cons (ps_set (i := 3) nd rfl (by first | exact .inl rfl | exact .inr rfl) (pe_op op_modN (pe_callTy call_int1 rfl (T.free 59 rfl) bt_int (pa_cons (pe_op op_add (pe_op op_add (pe_op op_pow (pv 3) pe_int) (pe_op op_mul (pe_ix (ixL (K := K) rfl) (pv 0) pe_int (fun _ _ => rfl)) pe_int)) pe_int) pa_nil)) pe_int))
      (pss_one (ps_ret (pe_op op_modN (pe_op op_fdivN (pe_op op_modN (pe_callTy call_int1 rfl (T.free 59 rfl) bt_int (pa_cons (pe_op op_pow (pv 3) pe_int) pa_nil)) pe_int) pe_int) (pv 1)))))))))), fun g S0 x hp hQ => ?_⟩
  obtain ⟨⟨b, l⟩, sz⟩ := x
  obtain ⟨hg, hs0, hs1⟩ := hp
  dsimp only at hs0 hs1
  have hz : (⟨g, S0, H⟩ : Ct).g = some (b, l) := hg
  have fin : ∀ {a : Int} (H' : Hp), At g S0 H S0 H' → Q (.int (a.fmod sz)) H' := fun {a} H' at' => hQ _ _ _ at' ⟨(a.fmod sz).toNat, by rw [Int.toNat_of_nonneg (fmod_in hs0).1], by rw [Int.toNat_of_nonneg (fmod_in hs0).1]; exact (fmod_in hs0).2⟩
  show G ⟨g, S0, H⟩ _ (start N_law_draw [.ref b, .int sz]) [] S0
  refine gb_of hz fun ns i k m n hn hi hk => ?_
  have rd : ∀ {σ : L2.St} {i k m n : Int} {v : V} (j : Int) (h0 : σ[0]? = some (some (.ref b))) (hj : atI [V.ref l, .int i, .int k, .int m, .int n] j = some v), W none (tOp (rIxL K) (tVar 0) (tC (.int j)) σ) (Kb b l ns i k m n) (Is v) := fun j h0 hj => w_op (w_var h0) w_c (w_ixL (sq_of Kb_b) hj)
  refine gbs_set hz hn hi hk rfl (w_op (rd 4 rfl rfl) w_c w_rI0) 4 rfl rfl hi hk ?_
  generalize n + 1 = n
  refine gb_ifJ (σf := fun a => [some (.ref b), some (.int sz), none, none, a]) (a0 := none) rfl (bb := decide (k = 0) && decide (i < (ns.length : Int))) hz hn hi hk (w_and (w_test (w_op (rd 2 rfl rfl) w_c w_eqI)) fun _ => w_test (w_op (rd 1 rfl rfl) (w_cb (w_cons (rd 0 rfl rfl) w_nil) ((w_lenL (xs := ns.map V.int) (sq_of (Kb_l hn))).is (by rw [List.length_map]))) w_rI0)) (fun i k m n a4 hi hk => ?_) fun hb go => ?_
  · refine gb_asg (v := .int (k.fmod sz)) hz hn hi hk (w_op (w_cb (w_cons (rd 2 rfl rfl) w_nil) w_int1) (w_var rfl) (w_rI (by omega))) ?_
    refine gb_if (bb := decide (k > 0)) hz hn hi hk (w_test (w_op (rd 2 rfl rfl) w_c w_rI0)) (fun hb => ?_) fun hb => ?_
    · have hk0 := of_decide_eq_true hb
      exact gbs_set (y := k.fdiv sz) hz hn hi hk rfl (w_op (rd 2 rfl rfl) (w_var rfl) (w_rI ⟨by omega, by omega⟩)) 2 rfl rfl hi (Int.fdiv_nonneg hk (by omega)) (gb_ret hz hn hi (Int.fdiv_nonneg hk (by omega)) (w_var rfl) fun H' a' => fin H' a')
    · refine gb_asg (v := .int ((m + n * 40692).fmod 2147483647)) hz hn hi hk (w_op (w_cb (w_cons (w_op (rd 3 rfl rfl) (w_op (rd 4 rfl rfl) w_c (w_rI (.inr (by decide)))) w_rI0) w_nil) w_int1) w_c (w_rI (by decide))) ?_
      have hm := fmod_in (a := m + n * 40692) (s := 2147483647) (by decide)
      generalize (m + n * 40692).fmod 2147483647 = x at hm
      refine gb_asg (v := .int ((x ^ 3 + n * 16807 + 7).fmod 2147483629)) hz hn hi hk (w_op (w_cb (w_cons (w_op (w_op (w_op (w_var rfl) w_c (w_rI ⟨by decide, by decide, by omega⟩)) (w_op (rd 4 rfl rfl) w_c (w_rI (.inr (by decide)))) w_rI0) w_c w_rI0) w_nil) w_int1) w_c (w_rI (by decide))) ?_
      have hm2 := fmod_in (a := x ^ 3 + n * 16807 + 7) (s := 2147483629) (by decide)
      generalize (x ^ 3 + n * 16807 + 7).fmod 2147483629 = y at hm2
      exact gb_ret hz hn hi hk (w_op (w_op (w_op (w_cb (w_cons (w_op (w_var rfl) w_c (w_rI ⟨by decide, by decide, by omega⟩)) w_nil) w_int1) w_c (w_rI (by decide))) w_c (w_rI ⟨by decide, by decide⟩)) (w_var rfl) (w_rI (by omega))) fun H' a' => fin H' a'
  · rw [Bool.and_eq_true, decide_eq_true_iff, decide_eq_true_iff] at hb
    obtain ⟨x, hx⟩ : ∃ x, ns[i.toNat]? = some x := ⟨_, List.getElem?_eq_getElem (show i.toNat < ns.length by omega)⟩
    have hat : atI (ns.map V.int) i = some (.int x) := by
      have := at_map (f := V.int) hx
      rwa [Int.toNat_of_nonneg hi] at this
    refine gb_asg (v := .int x) hz hn hi hk (w_op (rd 0 rfl rfl) (rd 1 rfl rfl) (w_ixL (sq_of (Kb_l hn)) hat)) ?_
    have hi2 : 0 ≤ i + 1 := by omega
    refine gbs_set hz hn hi hk rfl (w_op (rd 1 rfl rfl) w_c w_rI0) 1 rfl rfl hi2 hk ?_
    have habs : 0 ≤ (if x < 0 then -x else x) := by split <;> omega
    generalize hA : (if x < 0 then -x else x) = A at habs
    have hB1 : (0 : Int) ≤ (if decide (x < 0) = true then 1 else 0) := by split <;> decide
    have hB2 : (0 : Int) ≤ (if decide (A ≥ 10 ^ (18 : Int).toNat) = true then 1 else 0) ∧ (if decide (A ≥ 10 ^ (18 : Int).toNat) = true then (1 : Int) else 0) ≤ 1 := by split <;> decide
    have hk2 : 0 ≤ (2 * A + (if decide (x < 0) = true then 1 else 0)) * (if decide (A ≥ 10 ^ (18 : Int).toNat) = true then 1 else 0) := Int.mul_nonneg (by omega) hB2.1
    refine gbs_set (y := (2 * A + (if decide (x < 0) = true then 1 else 0)) * (if decide (A ≥ 10 ^ (18 : Int).toNat) = true then 1 else 0)) hz hn hi2 hk rfl (j := 2) ?_ rfl rfl hi2 hk2 ?_
    · exact w_op (w_op (w_op w_c (w_cb (w_cons (w_var rfl) w_nil) (w_abs.is (congrArg V.int hA))) (w_rI (show CMul 2 A from .inl (by decide)))) (w_cb (w_cons (w_op (w_var rfl) w_c w_rI0) w_nil) w_intB) w_rI0) (w_cb (w_cons (w_op (w_cb (w_cons (w_var rfl) w_nil) (w_abs.is (congrArg V.int hA))) (w_op w_c w_c (w_rI (show CPow 10 18 from ⟨by decide, by decide, by decide⟩))) w_rI0) w_nil) w_intB) (w_rI (f := fun i j => V.int (i * j)) (show CMul (2 * A + (if decide (x < 0) = true then 1 else 0)) (if decide (A ≥ 10 ^ (18 : Int).toNat) = true then 1 else 0) from .inr ⟨Int.lt_of_lt_of_le (by decide) hB2.1, Int.lt_of_le_of_lt hB2.2 (by decide)⟩))
    exact gb_set (y := (m * 48271 + x * 69621 + 11).fmod 2147483647) hz hn hi2 hk2 rfl (w_op (w_cb (w_cons (w_op (w_op (w_op (rd 3 rfl rfl) w_c (w_rI (.inr (by decide)))) (w_op (w_var rfl) w_c (w_rI (.inr (by decide)))) w_rI0) w_c w_rI0) w_nil) w_int1) w_c (w_rI (by decide))) 3 rfl rfl hi2 hk2 (go _ _ _ _ (some (.int x)) hi2 hk2))

end
end Cm

/-! ## E18 -/
set_option maxHeartbeats 4000000
/-! The law's drawn things: picks, mixed lists; the plain meter. -/
namespace Cm
open PySem PySem.Spec PyProof.Rows L2 Evl
local macro_rules | `(tactic| walk_at "w") => `(tactic| first
  | exact w_c
  | ((refine w_var ?_); rfl)
  | exact w_nil
  | ((refine w_cons (x := ?x) (xs := ?xs) ?h1 ?h2); (case h1 => walk_at "w"); (case h2 => walk_at "w"))
  | ((refine w_op (x := ?x) (y := ?y) ?h1 ?h2 ?h3); (case h1 => walk_at "w"); (case h2 => walk_at "w"); (case h3 => walk_at "w"))
  | exact w_rI0
  | exact w_rU
  | ((refine w_un (x := ?x) ?h1 ?h2); (case h1 => walk_at "w"); (case h2 => walk_at "w"))
  | ((refine w_rEq ?_); rfl)
  | ((refine w_rNe ?_); rfl)
  | ((refine w_test (b := ?b) ?h1); (case h1 => walk_at "w"))
  | ((refine w_tB (b := ?b) ?h1); (case h1 => walk_at "w"))
  | ((refine w_not (a := ?a) ?h1); (case h1 => walk_at "w"))
  | ((refine w_orU (a := ?a) (b := ?b) ?h1 ?h2); (case h1 => walk_at "w"); (case h2 => walk_at "w"))
  | ((refine w_andU (a := ?a) (b := ?b) ?h1 ?h2); (case h1 => walk_at "w"); (case h2 => walk_at "w"))
  | ((refine w_notV (a := ?a) ?h1); (case h1 => walk_at "w"))
  | ((refine w_orVU (a := ?a) (b := ?b) ?h1 ?h2); (case h1 => walk_at "w"); (case h2 => walk_at "w"))
  | ((refine w_andVU (a := ?a) (b := ?b) ?h1 ?h2); (case h1 => walk_at "w"); (case h2 => walk_at "w"))
  | ((refine w_chain1 (x := ?x) (y := ?y) (z := ?z) (p := ?p) (q := ?q) ?h1 ?h2 ?h3 ?h4 ?h5); (case h1 => walk_at "w"); (case h2 => walk_at "w"); (case h3 => walk_at "w"); (case h4 => walk_at "w"); (case h5 => walk_at "w"))
  | exact w_isN
  | exact w_max2
  | exact w_min2
  | exact w_int1
  | exact w_abs
  | (refine w_rI ?_; decide)
  | assumption)

section
variable {P : Program} {w : World} {K : PySem.W.Frag} {mg : Str → Option Value} {base : Heap} {g : Bg} {S : Hp}
theorem v_draw {b l : Addr} {sz : Int} (hg : g = some (b, l)) (h : 0 < sz ∧ sz < 1000000) : SpW g (sp_law_draw K) [.ref b, .int sz] S (fun v _ => ∃ d : Nat, v = .int d ∧ (d : Int) < sz) := w_pr ((b, l), sz) (fun _ _ => ⟨hg, h⟩) fun _ _ _ _ _ h => h
theorem w_opRR {σ : L2.St} {ta tb : TE} {r : R2} {x : V} {Rb R : V → Hp → Prop} (ha : W g (ta σ) S (Is x)) (hb : W g (tb σ) S Rb) (hr : ∀ y S', Ex S S' → Rb y S' → W g (r x y) S' R) : W g (tOp r ta tb σ) S R :=
  w_opR ha fun x' S1 e ex => by cases ex; exact (hb.mono e).bind (h := fun y H Q => r x y H Q) fun y S2 e2 hy => hr y S2 (e.trans e2) hy
theorem w_opRL {σ : L2.St} {ta tb : TE} {r : R2} {Ra Rb R : V → Hp → Prop} (ha : W g (ta σ) S Ra) (hb : ∀ x S', Ex S S' → Ra x S' → W g (tb σ) S' Rb) (hr : ∀ x S1 y S', Ex S S1 → Ra x S1 → Ex S1 S' → Rb y S' → W g (r x y) S' R) : W g (tOp r ta tb σ) S R :=
  w_opR ha fun x S1 e hx => (hb x S1 e hx).bind (h := fun y H Q => r x y H Q) fun y S2 e2 hy => hr x S1 y S2 e hx e2 hy
/-- n + draw(..) -/
theorem w_plusD {σ : L2.St} {tb : TE} {n sz : Int} (h : W g (tb σ) S (fun v _ => ∃ d : Nat, v = .int d ∧ (d : Int) < sz)) : W g (tOp (rI0 fun a b => .int (a + b)) (tC (.int n)) tb σ) S (fun v _ => ∃ d : Nat, v = .int (n + d) ∧ (d : Int) < sz) :=
  w_opRR w_c h fun y S' e ⟨d, ey, hd⟩ => ey ▸ w_rI0.imp fun v S'' e' ev => ⟨d, ev, hd⟩
def sp_law_pick (K : PySem.W.Frag) : Sp := Pr (ι := (Addr × Addr) × Addr × List V) (fun x => [.ref x.1.1, .ref x.2.1]) (fun g x S => g = some x.1 ∧ SqL K S x.2.1 x.2.2 ∧ x.2.2 ≠ [] ∧ x.2.2.length < 100000) (fun x _ v _ => v ∈ x.2.2)
theorem c_law_pick (T : Txt K mg) : C8.Cal P w K mg base 2 "_law_pick" (sp_law_pick K) [] := mk_law_pick T (pr_len (ps := ["_law_bag_here", "_law_items"]) fun _ => rfl) (Bd.bs fun cdv A outer s H Q E hr => by
  have hu := hu_of hr
  have nd := sc_law_pick.nd
  refine ⟨_, (pss_one (ps_ret (pe_ix (ixQ (K := K) rfl) (pv 1) (C8.pe_c (c_law_draw (K := K) T) hr (by decide) rfl (pa_cons (pv 0) (pa_cons (pe_callB (cbLen (K := K) rfl) rfl (T.free 51 rfl) bt_len (pa_cons (pv 1) pa_nil)) pa_nil))) (fun _ _ => rfl)))), fun g S0 x hp hQ => ?_⟩
  obtain ⟨⟨b, l⟩, p, xs⟩ := x
  obtain ⟨hg, hs, hne, hl⟩ := hp
  dsimp only at hs hne hl
  have hpos : 0 < xs.length := List.length_pos_iff.mpr hne
  show G ⟨g, S0, H⟩ _ (start N_law_pick [.ref b, .ref p]) [] S0
  refine g_retP (w_opRR (w_var rfl) (w_c0 (w_cons (w_var rfl) (w_cons (w_cb (w_cons (w_var rfl) w_nil) (w_lenL hs)) w_nil)) (v_draw hg (by omega))) fun y S' e ⟨d, ey, hd⟩ => ?_) hQ fun v S e h => h
  subst ey
  have hdl : d < xs.length := by omega
  exact (w_ixQL (v := xs[d]) (ex_l e hs) (atI_nat (List.getElem?_eq_getElem hdl))).imp fun v S'' e' ev => by rw [ev]; exact List.getElem_mem hdl)

theorem v_pick {b l p : Addr} {xs : List V} (hg : g = some (b, l)) (h : S p = some (.lst xs)) (hn : xs ≠ []) (hl : xs.length < 100000) : SpW g (sp_law_pick K) [.ref b, .ref p] S (fun v _ => v ∈ xs) := w_pr ((b, l), p, xs) (fun _ e => ⟨hg, sq_of (e _ _ h), hn, hl⟩) fun _ _ _ _ _ h => h
/-- p.append(q.pop(e)) -/
theorem g_appPop {c : Ct} {m : List (Addr × HO)} {K : Hp} {σ : L2.St} {D : Ends} {Kf : PySem.W.Frag} {p q : Addr} {xs ys : List V} {to to2 te : TE} (h1 : W c.g (to σ) K (Is (.ref p))) (h2 : W c.g (to2 σ) K (Is (.ref q)))
    (h : Ex K (ov ((q, .lst ys) :: (p, .lst xs) :: m) K) → W c.g (te σ) (ov ((q, .lst ys) :: (p, .lst xs) :: m) K) fun v S => ∃ d : Nat, v = .int d ∧ d < ys.length) (hz : xs.length < 10000) (hy : ys.length < 10000)
    (k : ∀ d y, ys[d]? = some y → G c D.nx σ ((q, .lst (ys.eraseIdx d)) :: (p, .lst (xs ++ [y])) :: m) K) :
    G c (tDrop (tBM Kf "list" rAppend to (tCons (tBM Kf "list" rPopAt to2 (tCons te tNil)) tNil)) D) σ ((q, .lst ys) :: (p, .lst xs) :: m) K :=
  fun H s => h1 K H (.refl _) s.a.here _ fun v1 S1 H1 d1 hv1 => by
    cases hv1
    have s1 := (s.to d1).weak s.a.kk d1.kk
    have hp1 := (s1.mu (p, .lst xs) (List.mem_cons_of_mem _ List.mem_cons_self)).1
    refine ⟨Or.inl ⟨rfl, xs, sq_of hp1⟩, h2 K H1 (.refl _) s1.a.here _ fun v2 S2 H2 d2 hv2 => ?_⟩
    cases hv2
    have s2 := (s1.to d2).weak s1.a.kk d2.kk
    refine ⟨Or.inl ⟨rfl, ys, sq_of (s2.mu _ List.mem_cons_self).1⟩, h s2.ovK _ H2 (.refl _) s2.hereM _ fun v3 S3 H3 d3 ⟨d, ev, hd⟩ => ?_⟩
    have s3 := s2.toM d3
    obtain ⟨y, hyd⟩ : ∃ y, ys[d]? = some y := ⟨_, List.getElem?_eq_getElem hd⟩
    refine ⟨q, ys, d, d, y, rfl, by rw [ev], (s3.mu _ List.mem_cons_self).1, by omega, by omega, ?_, hyd, ?_⟩
    · exact (ixN_seq (ixN_nat hd)).1
    · have s4 : St8 c ((q, .lst (ys.eraseIdx d)) :: (p, .lst xs) :: m) K (upd H3 q (.lst (ys.eraseIdx d))) := s3.wrote
      have s4' : St8 c ((p, .lst xs) :: (q, .lst (ys.eraseIdx d)) :: m) K (upd H3 q (.lst (ys.eraseIdx d))) := by
        refine ⟨s4.a, fun x hx => s4.mu x (by simp only [List.mem_cons] at hx ⊢; rcases hx with h | h | h <;> simp [h]), fun x hx => s4.nt x (by simp only [List.mem_cons] at hx ⊢; rcases hx with h | h | h <;> simp [h]), ?_⟩
        have := s4.nd
        simp only [List.map_cons, List.nodup_cons, List.mem_cons, not_or] at this ⊢
        exact ⟨⟨fun e => this.1.1 e.symm, this.2.1⟩, this.1.2, this.2.2⟩
      refine ⟨p, xs, y, rfl, rfl, (s4'.mu _ List.mem_cons_self).1, Nat.lt_of_lt_of_le hz (by decide), ?_⟩
      exact g_swap (k d y hyd) _ s4'.wrote
theorem erase_perm {α : Type} : ∀ {ys : List α} {d : Nat} {y : α}, ys[d]? = some y → (y :: ys.eraseIdx d).Perm ys
  | [], _, _, h => by cases h
  | a :: ys, 0, y, h => by cases h; exact .refl _
  | a :: ys, d + 1, y, h => (List.Perm.swap a y _).trans ((erase_perm (ys := ys) (d := d) (y := y) h).cons a)
def sp_law_mixed (K : PySem.W.Frag) : Sp := Pr (ι := (Addr × Addr) × Addr × List V) (fun x => [.ref x.1.1, .ref x.2.1]) (fun g x S => g = some x.1 ∧ S x.2.1 = some (.lst x.2.2) ∧ x.2.2.length < 1000) (fun x S0 v S => ∃ q ys, v = .ref q ∧ S0 q = none ∧ S q = some (.lst ys) ∧ ys.Perm x.2.2)
theorem c_law_mixed (T : Txt K mg) : C8.Cal P w K mg base 2 "_law_mixed" (sp_law_mixed K) [] := mk_law_mixed T (pr_len (ps := ["_law_bag_here", "_law_items"]) fun _ => rfl) (Bd.bs fun cdv A outer s H Q E hr => by
  have hu := hu_of hr
  have nd := sc_law_mixed.nd
  refine ⟨_, (pss_cons (ps_set (i := 2) nd rfl (by first | exact .inl rfl | exact .inr rfl) (pe_callTy (cbList (K := K) rfl) rfl (T.free 53 rfl) bt_list (pa_cons (pv 1) pa_nil)))
      (pss_cons (ps_set (i := 3) nd rfl (by first | exact .inl rfl | exact .inr rfl) (pe_lst pa_nil))
      (pss_cons (ps_for PassesOwn.never rfl (pi_range1 rfl (T.free 54 rfl) (pa_cons (pe_callB (cbLen (K := K) rfl) rfl (T.free 51 rfl) bt_len (pa_cons (pv 1) pa_nil)) pa_nil)) (pg_name (i := 4) nd rfl (by first | exact .inl rfl | exact .inr rfl))
      (pss_one (ps_expr (peBm (K := K) rfl PySem.F.plainAttrs_list PySem.F.slot_list_append PySem.F.type_list_append mt_append (pv 3) (pa_cons (peBm (K := K) rfl PySem.F.plainAttrs_list PySem.F.slot_list_pop PySem.F.type_list_pop mt_popAt (pv 2) (pa_cons (C8.pe_c (c_law_draw (K := K) T) hr (by decide) rfl (pa_cons (pv 0) (pa_cons (pe_callB (cbLen (K := K) rfl) rfl (T.free 51 rfl) bt_len (pa_cons (pv 2) pa_nil)) pa_nil))) pa_nil)) pa_nil)))))
      (pss_one (ps_ret (pv 3)))))), fun g S0 x hp hQ => ?_⟩
  obtain ⟨⟨b, l⟩, p, xs⟩ := x
  obtain ⟨hg, hs, hl⟩ := hp
  dsimp only at hs hl
  have hg : (⟨g, S0, H⟩ : Ct).g = some (b, l) := hg
  show G ⟨g, S0, H⟩ _ (start N_law_mixed [.ref b, .ref p]) [] S0
  refine gs_asgN (ob := .lst xs) (R := fun _ _ => True) (w_cb (w_cons (w_var rfl) w_nil) ((w_listL (sq_of hs)).imp fun v S e ⟨q, h1, h2, h3⟩ => ⟨q, h1, h2, h3, trivial⟩)) (fun _ z => by cases z) fun q S1 e1 hq1 hs1 _ => ?_
  have e01 : Ex S0 (cut1 S1 q) := Ex.cut e1 hq1
  generalize cut1 S1 q = K1 at e01 ⊢
  refine gs_newL w_nil (by decide) fun f hf hfh => ?_
  refine g_swap ?_
  refine gs_for (Rs := fun ys _ => ys = (List.range xs.length).map fun i => V.int (i : Nat)) (w_iN (w_cons (w_cb (w_cons (w_var rfl) w_nil) (w_lenL (sq_of (e01 _ _ hs)))) w_nil) rfl (by omega)) fun ys S2 e2 ey => ?_
  subst ey
  refine ⟨fun i σ' m' K' => (∃ a, σ' = [some (.ref b), some (.ref p), some (.ref q), some (.ref f), a]) ∧ (∃ us vs : List V, m' = [(q, .lst vs), (f, .lst us)] ∧ (us ++ vs).Perm xs ∧ us.length = i) ∧ Ex S2 K', ⟨⟨none, rfl⟩, ⟨[], xs, rfl, .refl _, rfl⟩, .refl _⟩, fun _ _ _ _ h => h.2.2, ?_, fun σ' m' K' ⟨⟨a, es⟩, ⟨us, vs, em, hP, hi⟩, eK⟩ => ?_⟩
  · rintro i x σ' m' K' hx ⟨⟨a, es⟩, ⟨us, vs, em, hP, hi⟩, eK⟩
    subst es em
    have hil := (List.getElem?_eq_some_iff.mp hx).1
    rw [List.length_map, List.length_range] at hil
    have hlen := hP.length_eq
    rw [List.length_append] at hlen
    refine g_name (g_appPop (w_var rfl) (w_var rfl) (fun e => (w_c0 (w_cons (w_var rfl) (w_cons (w_cb (w_cons (w_var rfl) w_nil) (w_lenL (sq_of ov_cons))) w_nil)) (v_draw hg (by omega))).imp fun v S e ⟨d, ev, hd⟩ => ⟨d, ev, by omega⟩) (by omega) (by omega) fun d y hd => ?_)
    refine g_turn ⟨⟨_, rfl⟩, ⟨us ++ [y], vs.eraseIdx d, rfl, ?_, by rw [List.length_append, hi]; rfl⟩, eK⟩
    rw [List.append_assoc, List.singleton_append]
    exact ((erase_perm hd).append_left us).trans hP
  subst es em
  rw [List.length_map, List.length_range] at hi
  have hlen := hP.length_eq
  rw [List.length_append] at hlen
  have hvs : vs = [] := List.eq_nil_of_length_eq_zero (by omega)
  subst hvs
  rw [List.append_nil] at hP
  refine g_keepH fun k3 _ => ?_
  refine g_keepH fun k4 h4 => ?_
  have hf0 : S0 f = none := e01.free hf
  exact g_weak ((((e01.trans e2).trans eK).trans (Ex.new k3)).trans (Ex.new k4)) (.refl _) (g_retP (R := Is (.ref f)) (w_var rfl) hQ fun v S e ev => ⟨f, us, ev, hf0, e _ _ upd_same, hP⟩))

theorem v_mixed {b l p : Addr} {xs : List V} (hg : g = some (b, l)) (h : S p = some (.lst xs)) (hl : xs.length < 1000) : SpW g (sp_law_mixed K) [.ref b, .ref p] S (fun v S' => ∃ q ys, v = .ref q ∧ S q = none ∧ S' q = some (.lst ys) ∧ ys.Perm xs) := w_pr ((b, l), p, xs) (fun _ e => ⟨hg, e _ _ h, hl⟩) fun K1 v S' e e2 ⟨q, ys, h1, h2, h3, h4⟩ => ⟨q, ys, h1, e.free h2, h3, h4⟩
end
end Cm

/-! ## E19 -/
set_option maxHeartbeats 4000000
/-! The law's plain meter; its counts; drawn worths. -/
namespace Cm
open PySem PySem.Spec PyProof.Rows L2 Evl
local macro_rules | `(tactic| walk_at "w") => `(tactic| first
  | exact w_c
  | ((refine w_var ?_); rfl)
  | exact w_nil
  | ((refine w_cons (x := ?x) (xs := ?xs) ?h1 ?h2); (case h1 => walk_at "w"); (case h2 => walk_at "w"))
  | ((refine w_op (x := ?x) (y := ?y) ?h1 ?h2 ?h3); (case h1 => walk_at "w"); (case h2 => walk_at "w"); (case h3 => walk_at "w"))
  | exact w_rI0
  | exact w_rU
  | ((refine w_un (x := ?x) ?h1 ?h2); (case h1 => walk_at "w"); (case h2 => walk_at "w"))
  | ((refine w_rEq ?_); rfl)
  | ((refine w_rNe ?_); rfl)
  | ((refine w_test (b := ?b) ?h1); (case h1 => walk_at "w"))
  | ((refine w_tB (b := ?b) ?h1); (case h1 => walk_at "w"))
  | ((refine w_not (a := ?a) ?h1); (case h1 => walk_at "w"))
  | ((refine w_orU (a := ?a) (b := ?b) ?h1 ?h2); (case h1 => walk_at "w"); (case h2 => walk_at "w"))
  | ((refine w_andU (a := ?a) (b := ?b) ?h1 ?h2); (case h1 => walk_at "w"); (case h2 => walk_at "w"))
  | ((refine w_notV (a := ?a) ?h1); (case h1 => walk_at "w"))
  | ((refine w_orVU (a := ?a) (b := ?b) ?h1 ?h2); (case h1 => walk_at "w"); (case h2 => walk_at "w"))
  | ((refine w_andVU (a := ?a) (b := ?b) ?h1 ?h2); (case h1 => walk_at "w"); (case h2 => walk_at "w"))
  | ((refine w_chain1 (x := ?x) (y := ?y) (z := ?z) (p := ?p) (q := ?q) ?h1 ?h2 ?h3 ?h4 ?h5); (case h1 => walk_at "w"); (case h2 => walk_at "w"); (case h3 => walk_at "w"); (case h4 => walk_at "w"); (case h5 => walk_at "w"))
  | exact w_isN
  | exact w_max2
  | exact w_min2
  | exact w_int1
  | exact w_abs
  | (refine w_rI ?_; decide)
  | assumption)

section
variable {P : Program} {w : World} {K : PySem.W.Frag} {mg : Str → Option Value} {base : Heap} {g : Bg} {S : Hp}
def RowsAt (S : Hp) (qs : List Addr) (rows : List (List Int)) : Prop := qs.length = rows.length ∧ ∀ (i : Nat) q r, qs[i]? = some q → rows[i]? = some r → S q = some (.lst (r.map V.int))
theorem RowsAt.mono {S S' : Hp} {qs : List Addr} {rows : List (List Int)} (e : Ex S S') (h : RowsAt S qs rows) : RowsAt S' qs rows := ⟨h.1, fun i q r a b => e _ _ (h.2 i q r a b)⟩
/-- the law's tuple of a meter -/
def PlainAt (S : Hp) (p : Addr) (M : Mtr) : Prop := ∃ pt pu qs, S p = some (.tup [.int M.first, .int M.drop, .ref pt, .ref pu, .int M.flag, .int M.each]) ∧ S pt = some (.lst (qs.map V.ref)) ∧ RowsAt S qs M.tables ∧ S pu = some (.lst (M.turns.map V.int))
theorem PlainAt.mono {S S' : Hp} {p : Addr} {M : Mtr} (e : Ex S S') (h : PlainAt S p M) : PlainAt S' p M := by
  obtain ⟨pt, pu, qs, h1, h2, h3, h4⟩ := h
  exact ⟨pt, pu, qs, e _ _ h1, e _ _ h2, h3.mono e, e _ _ h4⟩
def sp_law_jumps_at (K : PySem.W.Frag) : Sp := Pr (ι := Addr × Int × Mtr) (fun x => [.ref x.1, .int x.2.1]) (fun _ x S => PlainAt S x.1 x.2.2 ∧ x.2.2.Ok) (fun x _ v _ => v = .int (x.2.2.jumpsAt x.2.1))
theorem c_law_jumps_at (T : Txt K mg) : C8.Cal P w K mg base 1 "_law_jumps_at" (sp_law_jumps_at K) [] := mk_law_jumps_at T (pr_len (ps := ["_law_plain", "_law_count"]) fun _ => rfl) (Bd.bs fun cdv A outer s H Q E hr => by
  have hu := hu_of hr
  have nd := sc_law_jumps_at.nd
  refine ⟨_, (pss_cons (ps_if (pt_cmpR op_lt (pv 1) (pe_ix (ixT (K := K) rfl) (pv 0) pe_int (fun _ _ => rfl)) (nomark _)) (pss_one (ps_ret pe_int)) pss_nil)
      (pss_one (ps_ret (pe_op op_add pe_int (pe_op op_fdivN (pe_op op_sub (pv 1) (pe_ix (ixT (K := K) rfl) (pv 0) pe_int (fun _ _ => rfl))) (pe_ix (ixT (K := K) rfl) (pv 0) pe_int (fun _ _ => rfl))))))), fun g S0 x hp hQ => ?_⟩
  obtain ⟨p, cc, M⟩ := x
  obtain ⟨⟨pt, pu, qs, h1, _⟩, ok⟩ := hp
  have hd := ok.d1
  dsimp only at hd h1
  show G ⟨g, S0, H⟩ _ (start N_law_jumps_at [.ref p, .int cc]) [] S0
  refine gs_ifN (b := decide (cc < M.first)) (w_test (w_op (w_var rfl) (w_op (w_var rfl) w_c (w_ixT (v := .int M.first) (st_of h1) rfl)) w_rI0)) (fun hb => ?_) fun hb => ?_
  · refine g_retI (v := .int 0) w_c hQ fun S e => ?_
    show V.int 0 = .int (M.jumpsAt cc)
    unfold Mtr.jumpsAt
    rw [if_pos (of_decide_eq_true hb)]
  · refine g_retI (v := .int (1 + (cc - M.first).fdiv M.drop)) (w_op w_c (w_op (w_op (w_var rfl) (w_op (w_var rfl) w_c (w_ixT (v := .int M.first) (st_of h1) rfl)) w_rI0) (w_op (w_var rfl) w_c (w_ixT (v := .int M.drop) (st_of h1) rfl)) (w_rI ⟨by omega, by omega⟩)) w_rI0) hQ fun S e => ?_
    show V.int (1 + (cc - M.first).fdiv M.drop) = .int (M.jumpsAt cc)
    unfold Mtr.jumpsAt
    rw [if_neg (of_decide_eq_false hb)])

theorem v_ljumps {p : Addr} {c : Int} {M : Mtr} (h : PlainAt S p M) (ok : M.Ok) : SpW g (sp_law_jumps_at K) [.ref p, .int c] S (Is (.int (M.jumpsAt c))) := w_pr (p, c, M) (fun _ e => ⟨h.mono e, ok⟩) fun _ _ _ _ _ h => h
def sp_law_worth (K : PySem.W.Frag) : Sp := Pr (ι := Addr × Int × Nat × Mtr) (fun x => [.ref x.1, .int x.2.1, .int x.2.2.1]) (fun _ x S => PlainAt S x.1 x.2.2.2 ∧ x.2.2.2.Ok ∧ x.2.2.1 ≤ 9) (fun x _ v _ => v = .int ((x.2.2.2.tabAt x.2.1).getD x.2.2.1 0))
theorem c_law_worth (T : Txt K mg) : C8.Cal P w K mg base 1 "_law_worth" (sp_law_worth K) [] := mk_law_worth T (pr_len (ps := ["_law_plain", "_law_jumps", "_law_speed"]) fun _ => rfl) (Bd.bs fun cdv A outer s H Q E hr => by
  have hu := hu_of hr
  have nd := sc_law_worth.nd
  refine ⟨_, (pss_one (ps_ret (pe_ix (ixL (K := K) rfl) (pe_ix (ixL (K := K) rfl) (pe_ix (ixT (K := K) rfl) (pv 0) pe_int (fun _ _ => rfl)) (pe_callB (cbLen (K := K) rfl) rfl (T.free 51 rfl) bt_len (pa_cons (pe_lc (own := [("_law_turn", 3)]) (g := gName 3) rfl nd (piL (K := K) rfl (pe_ix (ixT (K := K) rfl) (pv 0) pe_int (fun _ _ => rfl))) (blkOk_by (own := [("_law_turn", 3)]) (N := N_law_worth) (sc := d_law_worth.scope) (by decide +kernel)) (fun _ _ _ _ _ => (pg_name (i := 3) nd rfl (by first | exact .inl rfl | exact .inr rfl))) (fun _ _ _ _ _ => (pts_one (pt_cmpR op_le (pv 3) (pv 1) (nomark _)))) (fun _ _ _ _ _ => (pv 3))) pa_nil)) (fun _ _ => rfl)) (pv 2) (fun _ _ => rfl)))), fun g S0 x hp hQ => ?_⟩
  obtain ⟨p, j, s', M⟩ := x
  obtain ⟨⟨pt, pu, qs, h1, h2, h3, h4⟩, ok, hs⟩ := hp
  dsimp only at h1 h2 h3 h4 hs ok
  have hfl := List.length_filter_le (fun t => decide (t ≤ j)) M.turns
  have hul := ok.ul
  have hlt : (M.turns.filter fun t => decide (t ≤ j)).length < M.tables.length := by omega
  obtain ⟨r, hr⟩ : ∃ r, M.tables[(M.turns.filter fun t => decide (t ≤ j)).length]? = some r := ⟨_, List.getElem?_eq_getElem hlt⟩
  obtain ⟨q, hq⟩ : ∃ q, qs[(M.turns.filter fun t => decide (t ≤ j)).length]? = some q := ⟨_, List.getElem?_eq_getElem (by rw [h3.1]; exact hlt)⟩
  have hqr := h3.2 _ q r hq hr
  have htab : M.tabAt j = r := by
    unfold Mtr.tabAt
    rw [List.getD_eq_getElem?_getD, hr]
    rfl
  have hrl := (ok.ts r (List.mem_of_getElem? hr)).1
  show G ⟨g, S0, H⟩ _ (start N_law_worth [.ref p, .int j, .int s']) [] S0
  refine g_retI (v := .int (r.getD s' 0)) (w_op (w_op (w_op (w_var rfl) w_c (w_ixT (v := .ref pt) (st_of h1) rfl)) (w_lenLcF (ys := M.turns) (h := V.int) (f := V.int) (p := fun t => decide (t ≤ j)) (w_iL (w_op (w_var rfl) w_c (w_ixT (v := .ref pu) (st_of h1) rfl)) (sq_of h4)) (by have := ok.tl; omega) fun i t S ht e => ⟨_, tg_name, rfl, w_test (w_op (w_var rfl) (w_var rfl) w_rI0), fun _ => w_var rfl⟩) (w_ixL (v := .ref q) (sq_of h2) (at_map hq))) (w_var rfl) (w_ixL (sq_of hqr) (at_map (getD_at (by omega))))) hQ fun S e => ?_
  rw [← htab])

theorem v_lworth {p : Addr} {j : Int} {s : Nat} {M : Mtr} (h : PlainAt S p M) (ok : M.Ok) (hs : s ≤ 9) : SpW g (sp_law_worth K) [.ref p, .int j, .int s] S (Is (.int ((M.tabAt j).getD s 0))) := w_pr (p, j, s, M) (fun _ e => ⟨h.mono e, ok, hs⟩) fun _ _ _ _ _ h => h
/-- p.append(e), e read with p seen -/
theorem g_appVI {c : Ct} {m : List (Addr × HO)} {K : Hp} {σ : L2.St} {D : Ends} {Kf : PySem.W.Frag} {p : Addr} {xs : List V} {to te : TE} {v : V} (ho : W c.g (to σ) K (Is (.ref p))) (h : Ex K (ov ((p, .lst xs) :: m) K) → W c.g (te σ) (ov ((p, .lst xs) :: m) K) (Is v)) (hz : xs.length < 10000)
    (k : G c D.nx σ ((p, .lst (xs ++ [v])) :: m) K) : G c (tDrop (tBM Kf "list" rAppend to (tCons te tNil)) D) σ ((p, .lst xs) :: m) K :=
  fun H s => ho K H (.refl _) s.a.here _ fun v1 S1 H1 d1 hv1 => by
    cases hv1
    have s1 := (s.to d1).weak s.a.kk d1.kk
    refine ⟨Or.inl ⟨rfl, xs, sq_of (s1.mu _ List.mem_cons_self).1⟩, h s1.ovK _ H1 (.refl _) s1.hereM _ fun v2 S2 H2 d2 hv2 => ?_⟩
    cases hv2
    have s2 := s1.toM d2
    exact ⟨p, xs, v, rfl, rfl, (s2.mu _ List.mem_cons_self).1, Nat.lt_of_lt_of_le hz (by decide), k _ s2.wrote⟩
/-- the counts ahead of each tick of a trip, and behind all -/
def Mtr.cnts (M : Mtr) (w : List Nat) (i : Nat) : List Int := (List.range (i + 1)).map fun j => (M.pl (w.take j)).1
theorem cnts_next {M : Mtr} {w : List Nat} {i : Nat} : M.cnts w (i + 1) = M.cnts w i ++ [(M.pl (w.take (i + 1))).1] := by
  unfold Mtr.cnts
  rw [List.range_succ, List.map_append]
  rfl
theorem cnts_at {M : Mtr} {w : List Nat} {i j : Nat} (h : j ≤ i) : (M.cnts w i)[j]? = some (M.pl (w.take j)).1 := by
  unfold Mtr.cnts
  rw [List.getElem?_map, List.getElem?_range (by omega)]
  rfl
theorem cnts_last {M : Mtr} {w : List Nat} {i : Nat} : atI ((M.cnts w i).map V.int) (-1) = some (.int (M.pl (w.take i)).1) := by
  cases i with
  | zero => rfl
  | succ i =>
    rw [cnts_next, List.map_append]
    exact atI_last _ _
theorem w_iDg {σ : L2.St} {te : TE} {l : List Nat} (h : W g (te σ) S (Is (.str (dgS l)))) : W g (iStr te σ) S (fun J S => ∃ ys, Wk S J ys ∧ ys = l.map fun d => V.str (dg1 d)) := (w_iS h).imp fun J S e ⟨ys, h1, h2⟩ => ⟨ys, h1, h2.trans (dgS_sgL l)⟩
def sp_law_counts (K : PySem.W.Frag) : Sp := Pr (ι := Addr × List Nat × Mtr) (fun x => [.ref x.1, .str (dgS x.2.1)]) (fun _ x S => PlainAt S x.1 x.2.2 ∧ x.2.2.Ok ∧ (∀ d ∈ x.2.1, d ≤ 9) ∧ x.2.1.length ≤ 100) (fun x _ v S => ∃ q, v = .ref q ∧ S q = some (.lst ((x.2.2.cnts x.2.1 x.2.1.length).map V.int)))
theorem c_law_counts (T : Txt K mg) : C8.Cal P w K mg base 2 "_law_counts" (sp_law_counts K) [] := mk_law_counts T (pr_len (ps := ["_law_plain", "_law_trip"]) fun _ => rfl) (Bd.bs fun cdv A outer s H Q E hr => by
  have hu := hu_of hr
  have nd := sc_law_counts.nd
  refine ⟨_, (pss_cons (ps_set (i := 2) nd rfl (by first | exact .inl rfl | exact .inr rfl) (pe_lst (pa_cons pe_int pa_nil)))
      (pss_cons (ps_for PassesOwn.never rfl (pi_str (pv 1)) (pg_name (i := 3) nd rfl (by first | exact .inl rfl | exact .inr rfl))
      (pss_one (ps_expr (peBm (K := K) rfl PySem.F.plainAttrs_list PySem.F.slot_list_append PySem.F.type_list_append mt_append (pv 2) (pa_cons (pe_op op_add (pe_ix (ixL (K := K) rfl) (pv 2) (pe_un un_neg pe_int) (fun _ _ => rfl)) (C8.pe_c (c_law_worth (K := K) T) hr (by decide) rfl (pa_cons (pv 0) (pa_cons (C8.pe_c (c_law_jumps_at (K := K) T) hr (by decide) rfl (pa_cons (pv 0) (pa_cons (pe_ix (ixL (K := K) rfl) (pv 2) (pe_un un_neg pe_int) (fun _ _ => rfl)) pa_nil))) (pa_cons (pe_callTy call_int_str rfl (T.free 59 rfl) bt_int (pa_cons (pv 3) pa_nil)) pa_nil))))) pa_nil)))))
      (pss_one (ps_ret (pv 2))))), fun g S0 x hp hQ => ?_⟩
  obtain ⟨p, tr, M⟩ := x
  obtain ⟨h1, ok, hd, hl⟩ := hp
  dsimp only at h1 ok hd hl
  show G ⟨g, S0, H⟩ _ (start N_law_counts [.ref p, .str (dgS tr)]) [] S0
  refine gs_newL (xs := (M.cnts tr 0).map V.int) (w_cons w_c w_nil) (by decide : 1 ≤ 1000) fun f hf hfh => ?_
  refine gs_for (Rs := fun ys _ => ys = tr.map fun d => V.str (dg1 d)) (w_iDg (w_var rfl)) fun ys S2 e2 ey => ?_
  subst ey
  refine ⟨fun i σ' m' K' => (∃ a, σ' = [some (.ref p), some (.str (dgS tr)), some (.ref f), a]) ∧ m' = [(f, .lst ((M.cnts tr i).map V.int))] ∧ Ex S2 K', ⟨⟨none, rfl⟩, rfl, .refl _⟩, fun _ _ _ _ h => h.2.2, ?_, fun σ' m' K' ⟨⟨a, es⟩, em, eK⟩ => ?_⟩
  · rintro i x σ' m' K' hx ⟨⟨a, es⟩, em, eK⟩
    subst es em
    obtain ⟨d, hi, ex⟩ : ∃ d, tr[i]? = some d ∧ x = .str (dg1 d) := by
      rw [List.getElem?_map] at hx
      cases q : tr[i]? with
      | none => rw [q] at hx; cases hx
      | some d => rw [q] at hx; exact ⟨d, rfl, (Option.some.inj hx).symm⟩
    subst ex
    have hil := (List.getElem?_eq_some_iff.mp hi).1
    have hd9 := hd d (List.mem_of_getElem? hi)
    have hnext : (M.pl (tr.take (i + 1))).1 = (M.pl (tr.take i)).1 + (M.tabAt (M.jumpsAt (M.pl (tr.take i)).1)).getD d 0 := by
      rw [Rec.pl_next hil, (List.getElem?_eq_some_iff.mp hi).2]
      rfl
    refine g_name (g_appVI (v := .int (M.pl (tr.take (i + 1))).1) (w_var rfl) (fun e => ?_) (by rw [List.length_map]; unfold Mtr.cnts; rw [List.length_map, List.length_range]; omega) (g_turn ⟨⟨_, rfl⟩, by rw [cnts_next, List.map_append]; rfl, eK⟩))
    rw [hnext]
    have hP := h1.mono ((e2.trans eK).trans e)
    have last : ∀ {S : Hp}, Ex (ov [(f, .lst ((M.cnts tr i).map V.int))] K') S → W g (tOp (rIxL K) (tVar 2) (tUn (rU fun i => .int (-i)) (tC (.int 1))) [some (.ref p), some (.str (dgS tr)), some (.ref f), some (.str (dg1 d))]) S (Is (.int (M.pl (tr.take i)).1)) := fun e => w_op (w_var rfl) (w_un w_c w_rU) (w_ixL (sq_of (e _ _ ov_cons)) cnts_last)
    exact w_op (last (.refl _)) (w_c0 (w_cons (w_var rfl) (w_cons (w_c0 (w_cons (w_var rfl) (w_cons (last (.refl _)) w_nil)) (v_ljumps hP ok)) (w_cons (w_cb (w_cons (w_var rfl) w_nil) (w_intS (int_dg d hd9) (show 1 ≤ 640 by decide))) w_nil))) (v_lworth hP ok hd9)) w_rI0
  subst es em
  rw [List.length_map]
  refine g_keepH fun k3 _ => ?_
  exact g_weak ((e2.trans eK).trans (Ex.new k3)) (.refl _) (g_retP (R := Is (.ref f)) (w_var rfl) hQ fun v S e ev => ⟨f, ev, e _ _ upd_same⟩))

theorem v_lcounts {p : Addr} {tr : List Nat} {M : Mtr} (h : PlainAt S p M) (ok : M.Ok) (hd : ∀ d ∈ tr, d ≤ 9) (hl : tr.length ≤ 100) : SpW g (sp_law_counts K) [.ref p, .str (dgS tr)] S (fun v S' => ∃ q, v = .ref q ∧ S' q = some (.lst ((M.cnts tr tr.length).map V.int))) := w_pr (p, tr, M) (fun _ e => ⟨h.mono e, ok, hd, hl⟩) fun _ _ _ _ _ h => h
end
end Cm

/-! ## E20 -/
set_option maxHeartbeats 4000000
/-! The law's drawn meter. -/
namespace Cm
open PySem PySem.Spec PyProof.Rows L2 Evl
local macro_rules | `(tactic| walk_at "w") => `(tactic| first
  | exact w_c
  | ((refine w_var ?_); rfl)
  | exact w_nil
  | ((refine w_cons (x := ?x) (xs := ?xs) ?h1 ?h2); (case h1 => walk_at "w"); (case h2 => walk_at "w"))
  | ((refine w_op (x := ?x) (y := ?y) ?h1 ?h2 ?h3); (case h1 => walk_at "w"); (case h2 => walk_at "w"); (case h3 => walk_at "w"))
  | exact w_rI0
  | exact w_rU
  | ((refine w_un (x := ?x) ?h1 ?h2); (case h1 => walk_at "w"); (case h2 => walk_at "w"))
  | ((refine w_rEq ?_); rfl)
  | ((refine w_rNe ?_); rfl)
  | ((refine w_test (b := ?b) ?h1); (case h1 => walk_at "w"))
  | ((refine w_tB (b := ?b) ?h1); (case h1 => walk_at "w"))
  | ((refine w_not (a := ?a) ?h1); (case h1 => walk_at "w"))
  | ((refine w_orU (a := ?a) (b := ?b) ?h1 ?h2); (case h1 => walk_at "w"); (case h2 => walk_at "w"))
  | ((refine w_andU (a := ?a) (b := ?b) ?h1 ?h2); (case h1 => walk_at "w"); (case h2 => walk_at "w"))
  | ((refine w_notV (a := ?a) ?h1); (case h1 => walk_at "w"))
  | ((refine w_orVU (a := ?a) (b := ?b) ?h1 ?h2); (case h1 => walk_at "w"); (case h2 => walk_at "w"))
  | ((refine w_andVU (a := ?a) (b := ?b) ?h1 ?h2); (case h1 => walk_at "w"); (case h2 => walk_at "w"))
  | ((refine w_chain1 (x := ?x) (y := ?y) (z := ?z) (p := ?p) (q := ?q) ?h1 ?h2 ?h3 ?h4 ?h5); (case h1 => walk_at "w"); (case h2 => walk_at "w"); (case h3 => walk_at "w"); (case h4 => walk_at "w"); (case h5 => walk_at "w"))
  | exact w_isN
  | exact w_max2
  | exact w_min2
  | exact w_int1
  | exact w_abs
  | (refine w_rI ?_; decide)
  | assumption)

section
variable {P : Program} {w : World} {K : PySem.W.Frag} {mg : Str → Option Value} {base : Heap} {g : Bg} {S : Hp}
theorem ints_of : ∀ {xs : List V}, (∀ x ∈ xs, ∃ i : Int, x = .int i ∧ 0 ≤ i ∧ i ≤ 60) → ∃ ws : List Int, xs = ws.map V.int ∧ ∀ w ∈ ws, 0 ≤ w ∧ w ≤ 60
  | [], _ => ⟨[], rfl, fun w h => by cases h⟩
  | x :: xs, h => by
    obtain ⟨i, ex, hi⟩ := h x List.mem_cons_self
    obtain ⟨ws, e, hw⟩ := ints_of fun y hy => h y (List.mem_cons_of_mem _ hy)
    exact ⟨i :: ws, by rw [ex, e]; rfl, fun w hw2 => (List.mem_cons.mp hw2).elim (fun z => by rw [z]; exact hi) (hw w)⟩
theorem w_n10 {σ : L2.St} : W g (iRng1 (tCons (tC (.int 10)) tNil) σ) S (fun J S => ∃ ys, Wk S J ys ∧ ys = rg10.map fun i => V.int (i : Nat)) := w_iN (w_cons w_c w_nil) rfl (by decide)
def sp_law_small_worths (K : PySem.W.Frag) : Sp := Pr (ι := (Addr × Addr) × Int) (fun x => [.ref x.1.1, .int x.2]) (fun g x S => g = some x.1 ∧ 0 < x.2 ∧ x.2 ≤ 12) (fun x _ v S => ∃ q ws, v = .ref q ∧ S q = some (.lst (ws.map V.int)) ∧ WorthsOk ws)
theorem c_law_small_worths (T : Txt K mg) : C8.Cal P w K mg base 2 "_law_small_worths" (sp_law_small_worths K) [] := mk_law_small_worths T (pr_len (ps := ["_law_bag_here", "_law_most"]) fun _ => rfl) (Bd.bs fun cdv A outer s H Q E hr => by
  have hu := hu_of hr
  have nd := sc_law_small_worths.nd
  refine ⟨_, (pss_cons (ps_set (i := 2) nd rfl (by first | exact .inl rfl | exact .inr rfl) (C8.pe_c (c_law_draw (K := K) T) hr (by decide) rfl (pa_cons (pv 0) (pa_cons (pv 1) pa_nil))))
      (pss_cons (ps_set (i := 3) nd rfl (by first | exact .inl rfl | exact .inr rfl) (C8.pe_c (c_law_draw (K := K) T) hr (by decide) rfl (pa_cons (pv 0) (pa_cons pe_int pa_nil))))
      (pss_cons (ps_set (i := 4) nd rfl (by first | exact .inl rfl | exact .inr rfl) (C8.pe_c (c_law_draw (K := K) T) hr (by decide) rfl (pa_cons (pv 0) (pa_cons pe_int pa_nil))))
      (pss_cons (ps_if (pt_cmpR op_eq (pv 4) pe_int (nomark _)) (pss_one (ps_ret (pe_lc (own := [("_law_speed", 6)]) (g := gName 6) (tt := tYes) rfl nd (pi_range1 rfl (T.free 54 rfl) (pa_cons pe_int pa_nil)) (blkOk_by (own := [("_law_speed", 6)]) (N := N_law_small_worths) (sc := d_law_small_worths.scope) (by decide +kernel)) (fun _ _ _ _ _ => (pg_name (i := 6) nd rfl (by first | exact .inl rfl | exact .inr rfl))) (fun _ _ _ _ _ => pts_nil) (fun _ _ _ _ _ => (pe_callB (call_max2 rfl) rfl (T.free 55 rfl) bt_max (pa_cons (pv 2) (pa_cons (pe_op op_mul (pv 3) (pv 6)) pa_nil))))))) pss_nil)
      (pss_cons (ps_if (pt_cmpR op_eq (pv 4) pe_int (nomark _)) (pss_one (ps_ret (pe_lc (own := [("_law_speed", 6)]) (g := gName 6) (tt := tYes) rfl nd (pi_range1 rfl (T.free 54 rfl) (pa_cons pe_int pa_nil)) (blkOk_by (own := [("_law_speed", 6)]) (N := N_law_small_worths) (sc := d_law_small_worths.scope) (by decide +kernel)) (fun _ _ _ _ _ => (pg_name (i := 6) nd rfl (by first | exact .inl rfl | exact .inr rfl))) (fun _ _ _ _ _ => pts_nil) (fun _ _ _ _ _ => (pe_op op_add (pv 2) (pe_op op_mul (pv 3) (pv 6))))))) pss_nil)
      (pss_cons (ps_if (pt_cmpR op_eq (pv 4) pe_int (nomark _)) (pss_cons (ps_set (i := 5) nd rfl (by first | exact .inl rfl | exact .inr rfl) (C8.pe_c (c_law_draw (K := K) T) hr (by decide) rfl (pa_cons (pv 0) (pa_cons pe_int pa_nil))))
      (pss_one (ps_ret (pe_lc (own := [("_law_speed", 6)]) (g := gName 6) (tt := tYes) rfl nd (pi_range1 rfl (T.free 54 rfl) (pa_cons pe_int pa_nil)) (blkOk_by (own := [("_law_speed", 6)]) (N := N_law_small_worths) (sc := d_law_small_worths.scope) (by decide +kernel)) (fun _ _ _ _ _ => (pg_name (i := 6) nd rfl (by first | exact .inl rfl | exact .inr rfl))) (fun _ _ _ _ _ => pts_nil) (fun _ _ _ _ _ => (pe_ix (ixL (K := K) rfl) (pe_lst (pa_cons (pv 2) (pa_cons (pe_op op_mul (pv 3) (pv 6)) pa_nil))) (pe_callTy call_int1 rfl (T.free 59 rfl) bt_int (pa_cons (pe_cmpR op_ge (pv 6) (pv 5) (nomark _)) pa_nil)) (fun _ _ => rfl))))))) pss_nil)
      (pss_one (ps_ret (pe_lc (own := [("_law_speed", 6)]) (g := gName 6) (tt := tYes) rfl nd (pi_range1 rfl (T.free 54 rfl) (pa_cons pe_int pa_nil)) (blkOk_by (own := [("_law_speed", 6)]) (N := N_law_small_worths) (sc := d_law_small_worths.scope) (by decide +kernel)) (fun _ _ _ _ _ => (pg_name (i := 6) nd rfl (by first | exact .inl rfl | exact .inr rfl))) (fun _ _ _ _ _ => pts_nil) (fun _ _ _ _ _ => (C8.pe_c (c_law_draw (K := K) T) hr (by decide) rfl (pa_cons (pv 0) (pa_cons (pe_op op_add (pv 1) pe_int) pa_nil))))))))))))), fun g S0 x hp hQ => ?_⟩
  obtain ⟨⟨b, l⟩, mo⟩ := x
  obtain ⟨hg, h0, h12⟩ := hp
  dsimp only at h0 h12
  have hg : (⟨g, S0, H⟩ : Ct).g = some (b, l) := hg
  show G ⟨g, S0, H⟩ _ (start N_law_small_worths [.ref b, .int mo]) [] S0
  refine gs_asg (w_c0 (w_cons (w_var rfl) (w_cons (w_var rfl) w_nil)) (v_draw hg (by omega))) fun v S1 e1 ⟨a, ev, ha⟩ => ?_
  subst ev
  refine gs_asg (w_c0 (w_cons (w_var rfl) (w_cons w_c w_nil)) (v_draw hg (by omega))) fun v S2 e2 ⟨y, ev, hy⟩ => ?_
  subst ev
  refine gs_asg (w_c0 (w_cons (w_var rfl) (w_cons w_c w_nil)) (v_draw hg (by omega))) fun v S3 e3 ⟨ch, ev, hch⟩ => ?_
  subst ev
  have e03 := (e1.trans e2).trans e3
  have fin : ∀ {v : V} {S : Hp} {f : Nat → Int}, (∀ s : Nat, s < 10 → 0 ≤ f s ∧ f s ≤ 60) → NewO S3 (.lst (rg10.map fun s => V.int (f s))) v S → ∃ q ws, v = .ref q ∧ S q = some (.lst (ws.map V.int)) ∧ WorthsOk ws := fun {v S f} hf ⟨q, ev, _, hq⟩ => ⟨q, rg10.map f, ev, by rw [hq, List.map_map]; rfl, by simp, fun x hx => by
    obtain ⟨s, hs, es⟩ := List.mem_map.mp hx
    rw [← es]
    exact hf s (List.mem_range.mp hs)⟩
  have hmul : ∀ s : Nat, s < 10 → (y : Int) * (s : Int) ≤ 18 ∧ 0 ≤ (y : Int) * (s : Int) := fun s hs => by
    have : y ≤ 2 := by omega
    refine ⟨?_, Int.mul_nonneg (by omega) (by omega)⟩
    have := Nat.mul_le_mul this (show s ≤ 9 by omega)
    have h2 : ((y * s : Nat) : Int) = (y : Int) * s := Int.natCast_mul _ _
    omega
  refine gs_ifN (b := decide ((ch : Int) = 0)) (w_test (w_op (w_var rfl) w_c w_eqI)) (fun _ => ?_) fun _ => gs_ifN (b := decide ((ch : Int) = 1)) (w_test (w_op (w_var rfl) w_c w_eqI)) (fun _ => ?_) fun _ => gs_ifN (b := decide ((ch : Int) = 2)) (w_test (w_op (w_var rfl) w_c w_eqI)) (fun _ => ?_) fun _ => ?_
  · refine g_weak e03 (.refl _) (g_retP (w_lcA (ys := rg10) (h := fun (n : Nat) => V.int (n : Int)) (f := fun s => V.int (max (a : Int) ((y : Int) * (s : Int)))) w_n10 (by decide) fun i s S hs e => ⟨_, tg_name, rfl, w_cb (w_cons (w_var rfl) (w_cons (w_op (w_var rfl) (w_var rfl) (w_rI (.inl ⟨by omega, by omega⟩))) w_nil)) w_max2⟩) hQ fun v S e h => fin (fun s hs => ?_) h)
    have := hmul s hs
    omega
  · refine g_weak e03 (.refl _) (g_retP (w_lcA (ys := rg10) (h := fun (n : Nat) => V.int (n : Int)) (f := fun s => V.int ((a : Int) + (y : Int) * (s : Int))) w_n10 (by decide) fun i s S hs e => ⟨_, tg_name, rfl, w_op (w_var rfl) (w_op (w_var rfl) (w_var rfl) (w_rI (.inl ⟨by omega, by omega⟩))) w_rI0⟩) hQ fun v S e h => fin (fun s hs => ?_) h)
    have := hmul s hs
    omega
  · refine g_asg (D := { nx := _, rt := _ }) (w_c0 (w_cons (w_var rfl) (w_cons w_c w_nil)) (v_draw hg (by omega))) fun v S4 e4 ⟨cg, ev, hcg⟩ => ?_
    subst ev
    refine g_weak (e03.trans e4) (.refl _) (g_retP (w_lcA (ys := rg10) (h := fun (n : Nat) => V.int (n : Int)) (f := fun s => V.int (if decide ((s : Int) ≥ cg) = true then (y : Int) * (s : Int) else a)) w_n10 (by decide) fun i s S hs e => ⟨_, tg_name, rfl, w_opN1 (o := .lst [.int a, .int ((y : Int) * (s : Int))]) (w_lstO (w_cons (w_var rfl) (w_cons (w_op (w_var rfl) (w_var rfl) (w_rI (.inl ⟨by omega, by omega⟩))) w_nil))) (fun S e => w_cb (w_cons (w_op (w_var rfl) (w_var rfl) w_rI0) w_nil) w_intB) fun p S e hs => ?_⟩) hQ fun v S e ⟨q, ev, hn, hq⟩ => fin (fun s hs => ?_) ⟨q, ev, e4.free hn, hq⟩)
    · by_cases z : (s : Int) ≥ cg
      · rw [decide_eq_true z]
        exact w_ixL (i := 1) (sq_of hs) rfl
      · rw [decide_eq_false z]
        exact w_ixL (i := 0) (sq_of hs) rfl
    · have := hmul s hs
      split <;> omega
  · refine g_weak e03 (.refl _) (g_retP (w_lcN (ys := rg10) (h := fun (n : Nat) => V.int (n : Int)) (Pv := fun _ v _ => ∃ i : Int, v = .int i ∧ 0 ≤ i ∧ i ≤ 60) w_n10 (by decide) (fun _ _ _ _ _ h => h) fun i s S hs e => ⟨_, tg_name, rfl, (w_c0 (w_cons (w_var rfl) (w_cons (w_op (w_var rfl) w_c w_rI0) w_nil)) (v_draw hg (by omega))).imp fun v S e ⟨d, ev, hd⟩ => ⟨d, ev, by omega, by omega⟩⟩) hQ fun v S e ⟨q, xs, ev, _, hq, hl, hP⟩ => ?_)
    obtain ⟨ws, ew, hw⟩ := ints_of (xs := xs) fun x hx => by
      obtain ⟨i, hi, ei⟩ := List.mem_iff_getElem.mp hx
      exact hP i i x (List.getElem?_range (by rw [hl] at hi; simpa using hi)) (by rw [List.getElem?_eq_getElem hi, ei])
    refine ⟨q, ws, ev, by rw [hq, ew], ?_, hw⟩
    have := hl
    rw [ew, List.length_map] at this
    simpa using this)

theorem v_small {b l : Addr} {mo : Int} (hg : g = some (b, l)) (h : 0 < mo ∧ mo ≤ 12) : SpW g (sp_law_small_worths K) [.ref b, .int mo] S (fun v S' => ∃ q ws, v = .ref q ∧ S' q = some (.lst (ws.map V.int)) ∧ WorthsOk ws) := w_pr ((b, l), mo) (fun _ _ => ⟨hg, h⟩) fun _ _ _ _ _ h => h
end
end Cm

/-! ## E21 -/
set_option maxHeartbeats 4000000
/-! The law's drawn meter. -/
namespace Cm
open PySem PySem.Spec PyProof.Rows L2 Evl
local macro_rules | `(tactic| walk_at "w") => `(tactic| first
  | exact w_c
  | ((refine w_var ?_); rfl)
  | exact w_nil
  | ((refine w_cons (x := ?x) (xs := ?xs) ?h1 ?h2); (case h1 => walk_at "w"); (case h2 => walk_at "w"))
  | ((refine w_op (x := ?x) (y := ?y) ?h1 ?h2 ?h3); (case h1 => walk_at "w"); (case h2 => walk_at "w"); (case h3 => walk_at "w"))
  | exact w_rI0
  | exact w_rU
  | ((refine w_un (x := ?x) ?h1 ?h2); (case h1 => walk_at "w"); (case h2 => walk_at "w"))
  | ((refine w_rEq ?_); rfl)
  | ((refine w_rNe ?_); rfl)
  | ((refine w_test (b := ?b) ?h1); (case h1 => walk_at "w"))
  | ((refine w_tB (b := ?b) ?h1); (case h1 => walk_at "w"))
  | ((refine w_not (a := ?a) ?h1); (case h1 => walk_at "w"))
  | ((refine w_orU (a := ?a) (b := ?b) ?h1 ?h2); (case h1 => walk_at "w"); (case h2 => walk_at "w"))
  | ((refine w_andU (a := ?a) (b := ?b) ?h1 ?h2); (case h1 => walk_at "w"); (case h2 => walk_at "w"))
  | ((refine w_notV (a := ?a) ?h1); (case h1 => walk_at "w"))
  | ((refine w_orVU (a := ?a) (b := ?b) ?h1 ?h2); (case h1 => walk_at "w"); (case h2 => walk_at "w"))
  | ((refine w_andVU (a := ?a) (b := ?b) ?h1 ?h2); (case h1 => walk_at "w"); (case h2 => walk_at "w"))
  | ((refine w_chain1 (x := ?x) (y := ?y) (z := ?z) (p := ?p) (q := ?q) ?h1 ?h2 ?h3 ?h4 ?h5); (case h1 => walk_at "w"); (case h2 => walk_at "w"); (case h3 => walk_at "w"); (case h4 => walk_at "w"); (case h5 => walk_at "w"))
  | exact w_isN
  | exact w_max2
  | exact w_min2
  | exact w_int1
  | exact w_abs
  | (refine w_rI ?_; decide)
  | assumption)

section
variable {P : Program} {w : World} {K : PySem.W.Frag} {mg : Str → Option Value} {base : Heap} {g : Bg} {S : Hp}
section
variable {σ : L2.St} {t td : TE} {tr : TA} {Pm : V → Hp → Prop} {n : Nat}
theorem w_nilP : W g (tNil σ) S (fun vs S' => (∀ v ∈ vs, Pm v S') ∧ vs.length = 0) := w_nilR fun S2 e2 => ⟨(fun v h => by cases h), rfl⟩
theorem w_consP (hm : ∀ v S S', Ex S S' → Pm v S → Pm v S') (h : W g (t σ) S Pm) (hr : ∀ S', Ex S S' → W g (tr σ) S' (fun vs S'' => (∀ v ∈ vs, Pm v S'') ∧ vs.length = n)) : W g (tCons t tr σ) S (fun vs S'' => (∀ v ∈ vs, Pm v S'') ∧ vs.length = n + 1) :=
  w_consR h fun v S1 e1 hv => (hr S1 e1).imp fun vs S2 e2 ⟨h1, h2⟩ => ⟨fun x hx => (List.mem_cons.mp hx).elim (fun z => by rw [z]; exact hm _ _ _ e2 hv) (h1 x), by rw [List.length_cons, h2]⟩
/-- [..][draw(..)] -/
theorem w_anyOf (hm : ∀ v S S', Ex S S' → Pm v S → Pm v S') (h : W g (tr σ) S (fun vs S' => (∀ v ∈ vs, Pm v S') ∧ vs.length = n)) (hn : n ≤ 1000) (hd : ∀ S', Ex S S' → W g (td σ) S' (fun v _ => ∃ d : Nat, v = .int d ∧ (d : Int) < (n : Nat))) : W g (tOp (rIxL K) (tLst tr) td σ) S Pm :=
  w_opRL (Ra := fun v S' => ∃ q vs, v = .ref q ∧ S' q = some (.lst vs) ∧ (∀ v ∈ vs, Pm v S') ∧ vs.length = n) (w_lstR h fun vs S1 e1 ⟨h1, h2⟩ => ⟨by omega, fun p hp => ⟨p, vs, rfl, upd_same, fun v hv => hm _ _ _ (Ex.new hp) (h1 v hv), h2⟩⟩) (fun x S1 e1 _ => hd S1 e1) fun x S1 y S2 e1 ⟨q, vs, ex, hq, hv, hl⟩ e2 ⟨d, ey, hdn⟩ => by
    subst ex ey
    have hdl : d < vs.length := by omega
    exact (w_ixL (v := vs[d]) (sq_of (e2 _ _ hq)) (atI_nat (List.getElem?_eq_getElem hdl))).imp fun v S3 e3 ev => by rw [ev]; exact hm _ _ _ (e2.trans e3) (hv _ (List.getElem_mem hdl))
end
def TurnsOk (us : List Int) : Prop := us.length ≤ 2 ∧ (∀ x ∈ us, 1 ≤ x ∧ x ≤ 9) ∧ us.Pairwise (· < ·)
def TurnI (v : V) (S : Hp) : Prop := ∃ q us, v = .ref q ∧ S q = some (.lst (us.map V.int)) ∧ TurnsOk us
theorem TurnI.mono (v : V) (S S' : Hp) (e : Ex S S') (h : TurnI v S) : TurnI v S' := by
  obtain ⟨q, us, h1, h2, h3⟩ := h
  exact ⟨q, us, h1, e _ _ h2, h3⟩
def RowI (v : V) (S : Hp) : Prop := ∃ q ws, v = .ref q ∧ S q = some (.lst (ws.map V.int)) ∧ WorthsOk ws
theorem rows_of {S : Hp} : ∀ {xs : List V}, (∀ x ∈ xs, RowI x S) → ∃ qs rows, xs = qs.map V.ref ∧ RowsAt S qs rows ∧ ∀ r ∈ rows, WorthsOk r
  | [], _ => ⟨[], [], rfl, ⟨rfl, (fun i q r h _ => nomatch h)⟩, (fun r h => nomatch h)⟩
  | x :: xs, h => by
    obtain ⟨q, ws, ex, hq, hw⟩ := h x List.mem_cons_self
    obtain ⟨qs, rows, e, hR, hr⟩ := rows_of fun y hy => h y (List.mem_cons_of_mem _ hy)
    refine ⟨q :: qs, ws :: rows, by rw [ex, e]; rfl, ⟨by rw [List.length_cons, List.length_cons, hR.1], fun i a r h1 h2 => ?_⟩, fun r hr2 => (List.mem_cons.mp hr2).elim (fun z => by rw [z]; exact hw) (hr r)⟩
    match i, h1, h2 with
    | 0, h1, h2 => cases h1; cases h2; exact hq
    | i + 1, h1, h2 => exact hR.2 i a r h1 h2
def IntIn (a b : Int) (v : V) (_ : Hp) : Prop := ∃ i : Int, v = .int i ∧ a ≤ i ∧ i ≤ b
theorem IntIn.mono {a b : Int} (v : V) (S S' : Hp) (e : Ex S S') (h : IntIn a b v S) : IntIn a b v S' := h
def sp_law_meter (K : PySem.W.Frag) : Sp := Pr (ι := Addr × Addr) (fun x => [.ref x.1, .int 12]) (fun g x _ => g = some x) (fun x _ v S => ∃ q M, v = .ref q ∧ PlainAt S q M ∧ M.Ok)
theorem c_law_meter (T : Txt K mg) : C8.Cal P w K mg base 3 "_law_meter" (sp_law_meter K) [] := mk_law_meter T (pr_len (ps := ["_law_bag_here", "_law_drops"]) fun _ => rfl) (Bd.bs fun cdv A outer s H Q E hr => by
  have hu := hu_of hr
  have nd := sc_law_meter.nd
  refine ⟨_, (pss_cons (ps_set (i := 2) nd rfl (by first | exact .inl rfl | exact .inr rfl) (pe_ix (ixL (K := K) rfl) (pe_lst (pa_cons (pe_lst pa_nil) (pa_cons (pe_lst pa_nil) (pa_cons (pe_lst (pa_cons (pe_op op_add pe_int (C8.pe_c (c_law_draw (K := K) T) hr (by decide) rfl (pa_cons (pv 0) (pa_cons pe_int pa_nil)))) pa_nil)) (pa_cons (pe_lst (pa_cons (pe_op op_add pe_int (C8.pe_c (c_law_draw (K := K) T) hr (by decide) rfl (pa_cons (pv 0) (pa_cons pe_int pa_nil)))) (pa_cons (pe_op op_add pe_int (C8.pe_c (c_law_draw (K := K) T) hr (by decide) rfl (pa_cons (pv 0) (pa_cons pe_int pa_nil)))) pa_nil))) pa_nil))))) (C8.pe_c (c_law_draw (K := K) T) hr (by decide) rfl (pa_cons (pv 0) (pa_cons pe_int pa_nil))) (fun _ _ => rfl)))
      (pss_cons (ps_setLc (i := 3) (own := [("_law_k", 7)]) (g := gName 7) (tt := tYes) rfl nd rfl rfl (sw_true rfl rfl rfl (by decide +kernel)) (pi_range1 rfl (T.free 54 rfl) (pa_cons (pe_op op_add (pe_callB (cbLen (K := K) rfl) rfl (T.free 51 rfl) bt_len (pa_cons (pv 2) pa_nil)) pe_int) pa_nil)) (blkOk_by (own := [("_law_k", 7)]) (N := N_law_meter) (sc := d_law_meter.scope) (by decide +kernel)) (fun _ _ _ _ _ => (pg_name (i := 7) nd rfl (by first | exact .inl rfl | exact .inr rfl))) (fun _ _ _ _ _ => pts_nil) (fun _ _ _ _ _ => (C8.pe_c (c_law_small_worths (K := K) T) hr (by decide) rfl (pa_cons (pv 0) (pa_cons (pe_ix (ixL (K := K) rfl) (pe_lst (pa_cons pe_int (pa_cons (pv 1) pa_nil))) (C8.pe_c (c_law_draw (K := K) T) hr (by decide) rfl (pa_cons (pv 0) (pa_cons pe_int pa_nil))) (fun _ _ => rfl)) pa_nil)))))
      (pss_cons (ps_set (i := 4) nd rfl (by first | exact .inl rfl | exact .inr rfl) (pe_ix (ixL (K := K) rfl) (pe_lst (pa_cons pe_int (pa_cons pe_int (pa_cons (C8.pe_c (c_law_draw (K := K) T) hr (by decide) rfl (pa_cons (pv 0) (pa_cons pe_int pa_nil))) pa_nil)))) (C8.pe_c (c_law_draw (K := K) T) hr (by decide) rfl (pa_cons (pv 0) (pa_cons pe_int pa_nil))) (fun _ _ => rfl)))
      (pss_cons (ps_set (i := 5) nd rfl (by first | exact .inl rfl | exact .inr rfl) (pe_op op_add pe_int (C8.pe_c (c_law_draw (K := K) T) hr (by decide) rfl (pa_cons (pv 0) (pa_cons (pe_ix (ixL (K := K) rfl) (pe_lst (pa_cons pe_int (pa_cons pe_int pa_nil))) (C8.pe_c (c_law_draw (K := K) T) hr (by decide) rfl (pa_cons (pv 0) (pa_cons pe_int pa_nil))) (fun _ _ => rfl)) pa_nil)))))
      (pss_cons (ps_set (i := 6) nd rfl (by first | exact .inl rfl | exact .inr rfl) (pe_op op_add pe_int (C8.pe_c (c_law_draw (K := K) T) hr (by decide) rfl (pa_cons (pv 0) (pa_cons (pv 1) pa_nil)))))
      (pss_one (ps_ret (pe_tup (pa_cons (pv 6) (pa_cons (pe_op op_add pe_int (C8.pe_c (c_law_draw (K := K) T) hr (by decide) rfl (pa_cons (pv 0) (pa_cons (pv 1) pa_nil)))) (pa_cons (pv 3) (pa_cons (pv 2) (pa_cons (pv 4) (pa_cons (pv 5) pa_nil)))))))))))))), fun g S0 x hp hQ => ?_⟩
  obtain ⟨b, l⟩ := x
  have hg : (⟨g, S0, H⟩ : Ct).g = some (b, l) := hp
  have dr : ∀ {S : Hp} {σ : L2.St} {n : Nat} {E : XK} (h0 : σ[0]? = some (some (.ref b))), 0 < n → n < 1000000 → W g (tCall (sp_law_draw K) [] E (tCons (tVar 0) (tCons (tC (.int (n : Nat))) tNil)) σ) S (fun v _ => ∃ d : Nat, v = .int d ∧ (d : Int) < (n : Nat)) := fun h0 h1 h2 => w_c0 (w_cons (w_var h0) (w_cons w_c w_nil)) (v_draw hg (by omega))
  show G ⟨g, S0, H⟩ _ (start N_law_meter [.ref b, .int 12]) [] S0
  refine gs_asg (w_anyOf (n := 4) (Pm := TurnI) TurnI.mono ?_ (by decide) fun S e => dr rfl (by decide) (by decide)) fun v S1 e1 ⟨qt, us, ev, hqt, hus⟩ => ?_
  · have nl : ∀ {S : Hp} {σ : L2.St}, W g (tLst tNil σ) S TurnI := fun {S σ} => (w_lstO (xs := []) w_nil).imp fun v S e ⟨q, ev, _, hq⟩ => ⟨q, [], ev, hq, by decide, (fun x h => by cases h), List.Pairwise.nil⟩
    refine w_consP TurnI.mono nl fun S e => w_consP TurnI.mono nl fun S e => w_consP TurnI.mono ?_ fun S e => w_consP TurnI.mono ?_ fun S e => w_nilP
    · exact w_lstR (Ra := fun xs _ => ∃ d : Nat, xs = [.int (1 + d)] ∧ (d : Int) < 3) (w_consR (w_plusD (dr (n := 3) rfl (by decide) (by decide))) fun v S e ⟨d, ev, hd⟩ => w_nilR fun S2 e2 => ⟨d, by rw [ev], hd⟩) fun xs S e ⟨d, ex, hd⟩ => ⟨by rw [ex]; exact (by decide : 1 ≤ 1000), fun p hp => ⟨p, [1 + (d : Int)], rfl, by rw [upd_same, ex]; rfl, (by decide : 1 ≤ 2), (fun x hx => by rw [List.mem_singleton.mp hx]; omega), List.pairwise_singleton _ _⟩⟩
    · exact w_lstR (Ra := fun xs _ => ∃ d f : Nat, xs = [.int (1 + d), .int (3 + f)] ∧ (d : Int) < 2 ∧ (f : Int) < 2) (w_consR (w_plusD (dr (n := 2) rfl (by decide) (by decide))) fun v S e ⟨d, ev, hd⟩ => w_consR (w_plusD (dr (n := 2) rfl (by decide) (by decide))) fun v2 S2 e2 ⟨f, ev2, hf⟩ => w_nilR fun S3 e3 => ⟨d, f, by rw [ev, ev2], hd, hf⟩) fun xs S e ⟨d, f, ex, hd, hf⟩ => ⟨by rw [ex]; exact (by decide : 2 ≤ 1000), fun p hp => ⟨p, [1 + (d : Int), 3 + (f : Int)], rfl, by rw [upd_same, ex]; rfl, (by decide : 2 ≤ 2), (fun x hx => by
        rcases List.mem_cons.mp hx with z | z
        · rw [z]; omega
        · rw [List.mem_singleton.mp z]; omega), List.Pairwise.cons (fun x hx => by rw [List.mem_singleton.mp hx]; omega) (List.pairwise_singleton _ _)⟩⟩
  subst ev
  have hul := hus.1
  refine gs_asg (w_lcN (ys := List.range (us.length + 1)) (h := fun (n : Nat) => V.int (n : Int)) (Pv := fun _ => RowI) (w_iN (w_cons (w_op (w_cb (w_cons (w_var rfl) w_nil) (w_lenL (sq_of hqt))) w_c w_rI0) w_nil) (by rw [List.length_map]; omega) (by omega)) (by rw [List.length_range]; omega) (fun _ v S S' e ⟨q, ws, h1, h2, h3⟩ => ⟨q, ws, h1, e _ _ h2, h3⟩) fun i k S hk e => ⟨_, tg_name, rfl, w_cR (Ra := fun vs _ => ∃ mo : Int, vs = [.ref b, .int mo] ∧ 0 < mo ∧ mo ≤ 12) (w_consR (w_var rfl : W _ _ _ (Is (.ref b))) fun v S1 e1 ev => w_consR (w_anyOf (n := 2) (Pm := IntIn 1 12) IntIn.mono (w_consP IntIn.mono (w_c.imp fun v S e ev => ⟨3, ev, by decide, by decide⟩) fun S e => w_consP IntIn.mono ((w_var rfl : W _ _ _ (Is (V.int 12))).imp fun v S e ev => ⟨12, ev, by decide, by decide⟩) fun S e => w_nilP) (by decide) fun S e => dr rfl (by decide) (by decide)) fun v2 S2 e2 ⟨mo, ev2, h1, h2⟩ => w_nilR fun S3 e3 => ⟨mo, by rw [ev, ev2], by omega, h2⟩) fun vs S e ⟨mo, ev, h⟩ => ev ▸ v_small hg h⟩) fun v S2 e2 ⟨pt, xs, ev, _, hpt, hxl, hP⟩ => ?_
  subst ev
  obtain ⟨qs, rows, ex, hR, hro⟩ := rows_of (S := S2) (xs := xs) fun x hx => by
    obtain ⟨i, hi, ei⟩ := List.mem_iff_getElem.mp hx
    exact hP i i x (List.getElem?_range (by rw [hxl] at hi; simpa using hi)) (by rw [List.getElem?_eq_getElem hi, ei])
  subst ex
  have hrl : rows.length = us.length + 1 := by
    have := hR.1
    rw [List.length_map, List.length_range] at hxl
    omega
  refine gs_asg (w_anyOf (n := 3) (Pm := IntIn 0 1000) IntIn.mono (w_consP IntIn.mono (w_c.imp fun v S e ev => ⟨0, ev, by decide, by decide⟩) fun S e => w_consP IntIn.mono (w_c.imp fun v S e ev => ⟨30, ev, by decide, by decide⟩) fun S e => w_consP IntIn.mono ((dr (n := 1001) rfl (by decide) (by decide)).imp fun v S e ⟨d, ev, hd⟩ => ⟨d, ev, by omega, by omega⟩) fun S e => w_nilP) (by decide) fun S e => dr rfl (by decide) (by decide)) fun v S3 e3 ⟨fl, ev, hfl⟩ => ?_
  subst ev
  refine gs_asg (R := IntIn 1 100) (w_opRR w_c (w_cR (R := fun v _ => ∃ d : Nat, v = .int d ∧ (d : Int) < 100) (Ra := fun vs _ => ∃ n : Int, vs = [.ref b, .int n] ∧ 1 ≤ n ∧ n ≤ 100) (w_consR (w_var rfl : W _ _ _ (Is (.ref b))) fun v S1 e1 ev => w_consR (w_anyOf (n := 2) (Pm := IntIn 1 100) IntIn.mono (w_consP IntIn.mono (w_c.imp fun v S e ev => ⟨3, ev, by decide, by decide⟩) fun S e => w_consP IntIn.mono (w_c.imp fun v S e ev => ⟨100, ev, by decide, by decide⟩) fun S e => w_nilP) (by decide) fun S e => dr rfl (by decide) (by decide)) fun v2 S2 e2 ⟨n, ev2, h⟩ => w_nilR fun S3 e3 => ⟨n, by rw [ev, ev2], h⟩) fun vs S e ⟨n, ev, h⟩ => by subst ev; exact fun E => W.imp (v_draw (sz := n) hg (by omega) E) fun v S e ⟨d, ev, hd⟩ => ⟨d, ev, by omega⟩) fun y S' e ⟨d, ey, hd⟩ => ey ▸ w_rI0.imp fun v S'' e' ev => ⟨1 + d, ev, by omega, by omega⟩) fun v S4 e4 ⟨jp, ev, hjp⟩ => ?_
  subst ev
  refine gs_asg (w_plusD (w_c0 (w_cons (w_var rfl) (w_cons (w_var rfl) w_nil)) (v_draw (sz := 12) hg (by decide)))) fun v S5 e5 ⟨d1, ev, hd1⟩ => ?_
  subst ev
  refine g_weak ((((e1.trans e2).trans e3).trans e4).trans e5) (.refl _) (g_retP (w_tupR (Ra := fun xs _ => ∃ d2 : Nat, xs = [.int (1 + d1), .int (1 + d2), .ref pt, .ref qt, .int fl, .int jp] ∧ (d2 : Int) < 12) (w_consR (w_var rfl : W _ _ _ (Is (.int (1 + (d1 : Nat))))) fun v S e ev => w_consR (w_plusD (w_c0 (w_cons (w_var rfl) (w_cons (w_var rfl) w_nil)) (v_draw (sz := 12) hg (by decide)))) fun v2 S2 e2 ⟨d2, ev2, hd2⟩ => (w_cons (w_var rfl : W _ _ _ (Is (.ref pt))) (w_cons (w_var rfl : W _ _ _ (Is (.ref qt))) (w_cons (w_var rfl : W _ _ _ (Is (.int fl))) (w_cons (w_var rfl : W _ _ _ (Is (.int jp))) w_nil)))).imp fun ys S3 e3 hy => ⟨d2, by cases hy; rw [ev, ev2], hd2⟩) fun xs S e ⟨d2, ex, hd2⟩ => ⟨by rw [ex]; exact (by decide : 6 ≤ 1000), fun p hp => ⟨p, ⟨1 + d1, 1 + d2, fl, jp, rows, us⟩, rfl, ⟨pt, qt, qs, by rw [upd_same, ex], ?_, ?_, ?_⟩, ?_⟩⟩) hQ fun v S e h => h)
  · exact (Ex.new hp) _ _ (e _ _ (((e3.trans e4).trans e5) _ _ hpt))
  · exact (hR.mono ((e3.trans e4).trans e5)).mono (e.trans (Ex.new hp))
  · exact (Ex.new hp) _ _ (e _ _ ((((e2.trans e3).trans e4).trans e5) _ _ hqt))
  · exact ⟨by show 1 ≤ 1 + (d1 : Int) ∧ 1 + (d1 : Int) ≤ 60; omega, by show 1 ≤ 1 + (d2 : Int) ∧ 1 + (d2 : Int) ≤ 60; omega, hfl, hjp, by show 1 ≤ rows.length ∧ rows.length ≤ 3; omega, fun r hr => hro r hr, hrl.symm, hus.2.1, hus.2.2⟩)

end
end Cm

/-! ## E22 -/
set_option maxHeartbeats 4000000
/-! The law's made tables and meters. -/
namespace Cm
open PySem PySem.Spec PyProof.Rows L2 Evl
local macro_rules | `(tactic| walk_at "w") => `(tactic| first
  | exact w_c
  | ((refine w_var ?_); rfl)
  | exact w_nil
  | ((refine w_cons (x := ?x) (xs := ?xs) ?h1 ?h2); (case h1 => walk_at "w"); (case h2 => walk_at "w"))
  | ((refine w_op (x := ?x) (y := ?y) ?h1 ?h2 ?h3); (case h1 => walk_at "w"); (case h2 => walk_at "w"); (case h3 => walk_at "w"))
  | exact w_rI0
  | exact w_rU
  | ((refine w_un (x := ?x) ?h1 ?h2); (case h1 => walk_at "w"); (case h2 => walk_at "w"))
  | ((refine w_rEq ?_); rfl)
  | ((refine w_rNe ?_); rfl)
  | ((refine w_test (b := ?b) ?h1); (case h1 => walk_at "w"))
  | ((refine w_tB (b := ?b) ?h1); (case h1 => walk_at "w"))
  | ((refine w_not (a := ?a) ?h1); (case h1 => walk_at "w"))
  | ((refine w_orU (a := ?a) (b := ?b) ?h1 ?h2); (case h1 => walk_at "w"); (case h2 => walk_at "w"))
  | ((refine w_andU (a := ?a) (b := ?b) ?h1 ?h2); (case h1 => walk_at "w"); (case h2 => walk_at "w"))
  | ((refine w_notV (a := ?a) ?h1); (case h1 => walk_at "w"))
  | ((refine w_orVU (a := ?a) (b := ?b) ?h1 ?h2); (case h1 => walk_at "w"); (case h2 => walk_at "w"))
  | ((refine w_andVU (a := ?a) (b := ?b) ?h1 ?h2); (case h1 => walk_at "w"); (case h2 => walk_at "w"))
  | ((refine w_chain1 (x := ?x) (y := ?y) (z := ?z) (p := ?p) (q := ?q) ?h1 ?h2 ?h3 ?h4 ?h5); (case h1 => walk_at "w"); (case h2 => walk_at "w"); (case h3 => walk_at "w"); (case h4 => walk_at "w"); (case h5 => walk_at "w"))
  | exact w_isN
  | exact w_max2
  | exact w_min2
  | exact w_int1
  | exact w_abs
  | (refine w_rI ?_; decide)
  | assumption)

section
variable {P : Program} {w : World} {K : PySem.W.Frag} {mg : Str → Option Value} {base : Heap} {g : Bg} {S : Hp}
theorem v_tread {ws : List Int} (ok : WorthsOk ws) : SpW g (sp_Table_read K) [.ref (CT K), .str (Txt.join " " (ws.map nS))] S (fun v S' => ∃ q, v = .ref q ∧ TableAt K S' q ws) := w_pr ws (fun _ _ => ok) fun _ _ _ _ _ h => h
theorem v_teither {a b : Int} {ws : List Int} (ok : WorthsOk ws) (h : 0 ≤ a ∧ 0 ≤ b) (e : ws = rg10.map (eitherV [a, b])) : SpW g (sp_Table_either K) [.ref (CT K), .int a, .int b] S (fun v S' => ∃ q, v = .ref q ∧ TableAt K S' q ws) := w_pr [a, b] (fun _ _ => ⟨rfl, fun x hx => by
  rcases List.mem_cons.mp hx with z | z
  · rw [z]; exact h.1
  · rw [List.mem_singleton.mp z]; exact h.2, (fun z => absurd z (by decide)), by rw [← e]; exact ok⟩) fun _ _ _ _ _ h => by rw [e]; exact h
theorem v_tboth {a b : Int} {ws : List Int} (ok : WorthsOk ws) (h : 0 ≤ a ∧ 0 ≤ b) (e : ws = rg10.map (bothV [a, b])) : SpW g (sp_Table_both K) [.ref (CT K), .int a, .int b] S (fun v S' => ∃ q, v = .ref q ∧ TableAt K S' q ws) := w_pr [a, b] (fun _ _ => ⟨rfl, fun x hx => by
  rcases List.mem_cons.mp hx with z | z
  · rw [z]; exact h.1
  · rw [List.mem_singleton.mp z]; exact h.2, (fun z => absurd z (by decide)), by rw [← e]; exact ok⟩) fun _ _ _ _ _ h => by rw [e]; exact h
theorem v_tchange {a b c : Int} {ws : List Int} (ok : WorthsOk ws) (h : 0 ≤ a ∧ 0 ≤ b ∧ 0 ≤ c ∧ c ≤ 9) (e : ws = rg10.map (changeV [a, b, c])) : SpW g (sp_Table_changing K) [.ref (CT K), .int a, .int b, .int c] S (fun v S' => ∃ q, v = .ref q ∧ TableAt K S' q ws) := w_pr [a, b, c] (fun _ _ => ⟨rfl, fun x hx => by
  simp only [List.mem_cons, List.not_mem_nil, or_false] at hx
  rcases hx with z | z | z
  · rw [z]; exact h.1
  · rw [z]; exact h.2.1
  · rw [z]; exact h.2.2.1, fun _ => h.2.2.2, by rw [← e]; exact ok⟩) fun _ _ _ _ _ h => by rw [e]; exact h
theorem either_change {a b : Int} (ha : 0 ≤ a) (hb : 0 < b) : rg10.map (eitherV [a, b]) = rg10.map (changeV [a, b, a.fdiv b + 1]) := by
  refine List.map_congr_left fun s _ => ?_
  show max a (b * s) = if (s : Int) < a.fdiv b + 1 then a else b * s
  rw [Int.fdiv_eq_ediv_of_nonneg _ (Int.le_of_lt hb)]
  have h1 := Int.mul_ediv_add_emod a b
  have h2 := Int.emod_nonneg a (Int.ne_of_gt hb)
  have h3 := Int.emod_lt_of_pos a hb
  by_cases z : (s : Int) < a / b + 1
  · rw [if_pos z]
    have : b * s ≤ b * (a / b) := Int.mul_le_mul_of_nonneg_left (by omega) (by omega)
    omega
  · rw [if_neg z]
    have : b * (a / b + 1) ≤ b * s := Int.mul_le_mul_of_nonneg_left (by omega) (by omega)
    rw [Int.mul_add, Int.mul_one] at this
    omega
def sp_law_made_table (K : PySem.W.Frag) : Sp := Pr (ι := Addr × List Int × Nat) (fun x => [.ref x.1, .int x.2.2]) (fun _ x S => S x.1 = some (.lst (x.2.1.map V.int)) ∧ WorthsOk x.2.1) (fun x _ v S => ∃ q, v = .ref q ∧ TableAt K S q x.2.1)
theorem c_law_made_table (T : Txt K mg) : C8.Cal P w K mg base 7 "_law_made_table" (sp_law_made_table K) [] := mk_law_made_table T (pr_len (ps := ["_law_worths", "_law_place"]) fun _ => rfl) (Bd.bs fun cdv A outer s H Q E hr => by
  have hu := hu_of hr
  have nd := sc_law_made_table.nd
  refine ⟨_, (pss_cons (ps_set (i := 2) nd rfl (by first | exact .inl rfl | exact .inr rfl) (pe_op op_modN (pe_callTy call_int1 rfl (T.free 59 rfl) bt_int (pa_cons (pe_op op_add (pe_callB (cbSum (K := K) rfl rfl) rfl (T.free 57 rfl) bt_sum (pa_cons (pv 0) pa_nil)) (pv 1)) pa_nil)) pe_int))
      (pss_cons (ps_if (pt_cmpR op_eq (pv 2) pe_int (nomark _)) (pss_one (ps_ret (C8.pe_mk (k_Table (K := K) T) hr (by decide) rfl (pa_cons (pe_callTy (cbList (K := K) rfl) rfl (T.free 53 rfl) bt_list (pa_cons (pv 0) pa_nil)) pa_nil)))) pss_nil)
      (pss_cons (ps_if (pt_cmpR op_eq (pv 2) pe_int (nomark _)) (pss_one (ps_ret (ClX.pe_cmeth (E := C8.E0) (C8.pe_gc (v := .ref (He.ga K "Table")) rfl ⟨_, T.glo 45 rfl, rfl⟩) (cr_Table (K := K) T) (cm_Table_read (K := K) T) (fr_Table_read (K := K) T) (hr.mono (by decide)) C8.pass0 (pa_cons (peJoin (K := K) rfl pe_str (pe_lc (own := [("_law_worth_here", 5)]) (g := gName 5) (tt := tYes) rfl nd (piL (K := K) rfl (pv 0)) (blkOk_by (own := [("_law_worth_here", 5)]) (N := N_law_made_table) (sc := d_law_made_table.scope) (by decide +kernel)) (fun _ _ _ _ _ => (pg_name (i := 5) nd rfl (by first | exact .inl rfl | exact .inr rfl))) (fun _ _ _ _ _ => pts_nil) (fun _ _ _ _ _ => (pe_callTy call_str_int rfl (T.free 58 rfl) bt_str (pa_cons (pv 5) pa_nil))))) pa_nil)))) pss_nil)
      (pss_cons (ps_for PassesOwn.never rfl (pi_range1 rfl (T.free 54 rfl) (pa_cons pe_int pa_nil)) (pg_name (i := 3) nd rfl (by first | exact .inl rfl | exact .inr rfl))
      (pss_cons (ps_if (pt_cmpR (opEqD (K := K) rfl hr.units) (pv 0) (pe_lc (own := [("_law_speed", 4)]) (g := gName 4) (tt := tYes) rfl nd (pi_range1 rfl (T.free 54 rfl) (pa_cons pe_int pa_nil)) (blkOk_by (own := [("_law_speed", 4)]) (N := N_law_made_table) (sc := d_law_made_table.scope) (by decide +kernel)) (fun _ _ _ _ _ => (pg_name (i := 4) nd rfl (by first | exact .inl rfl | exact .inr rfl))) (fun _ _ _ _ _ => pts_nil) (fun _ _ _ _ _ => (pe_callB (call_max2 rfl) rfl (T.free 55 rfl) bt_max (pa_cons (pe_ix (ixL (K := K) rfl) (pv 0) pe_int (fun _ _ => rfl)) (pa_cons (pe_op op_mul (pv 3) (pv 4)) pa_nil))))) (nomark _)) (pss_cons (ps_if (PW.pt (pw_and (pt_cmpR op_eq (pv 2) pe_int (nomark _)) (pw_and (pt_cmpR op_gt (pv 3) pe_int (nomark _)) (pw_and1 (pt_cmpR op_lt (pe_op op_fdivN (pe_ix (ixL (K := K) rfl) (pv 0) pe_int (fun _ _ => rfl)) (pv 3)) pe_int (nomark _)))))) (pss_one (ps_ret (ClX.pe_cmeth (E := C8.E0) (C8.pe_gc (v := .ref (He.ga K "Table")) rfl ⟨_, T.glo 45 rfl, rfl⟩) (cr_Table (K := K) T) (cm_Table_changing (K := K) T) (fr_Table_changing (K := K) T) (hr.mono (by decide)) C8.pass0 (pa_cons (pe_ix (ixL (K := K) rfl) (pv 0) pe_int (fun _ _ => rfl)) (pa_cons (pv 3) (pa_cons (pe_op op_add (pe_op op_fdivN (pe_ix (ixL (K := K) rfl) (pv 0) pe_int (fun _ _ => rfl)) (pv 3)) pe_int) pa_nil)))))) pss_nil)
      (pss_one (ps_ret (ClX.pe_cmeth (E := C8.E0) (C8.pe_gc (v := .ref (He.ga K "Table")) rfl ⟨_, T.glo 45 rfl, rfl⟩) (cr_Table (K := K) T) (cm_Table_either (K := K) T) (fr_Table_either (K := K) T) (hr.mono (by decide)) C8.pass0 (pa_cons (pe_ix (ixL (K := K) rfl) (pv 0) pe_int (fun _ _ => rfl)) (pa_cons (pv 3) pa_nil)))))) pss_nil)
      (pss_one (ps_if (pt_cmpR (opEqD (K := K) rfl hr.units) (pv 0) (pe_lc (own := [("_law_speed", 4)]) (g := gName 4) (tt := tYes) rfl nd (pi_range1 rfl (T.free 54 rfl) (pa_cons pe_int pa_nil)) (blkOk_by (own := [("_law_speed", 4)]) (N := N_law_made_table) (sc := d_law_made_table.scope) (by decide +kernel)) (fun _ _ _ _ _ => (pg_name (i := 4) nd rfl (by first | exact .inl rfl | exact .inr rfl))) (fun _ _ _ _ _ => pts_nil) (fun _ _ _ _ _ => (pe_op op_add (pe_ix (ixL (K := K) rfl) (pv 0) pe_int (fun _ _ => rfl)) (pe_op op_mul (pv 3) (pv 4))))) (nomark _)) (pss_one (ps_ret (ClX.pe_cmeth (E := C8.E0) (C8.pe_gc (v := .ref (He.ga K "Table")) rfl ⟨_, T.glo 45 rfl, rfl⟩) (cr_Table (K := K) T) (cm_Table_both (K := K) T) (fr_Table_both (K := K) T) (hr.mono (by decide)) C8.pass0 (pa_cons (pe_ix (ixL (K := K) rfl) (pv 0) pe_int (fun _ _ => rfl)) (pa_cons (pv 3) pa_nil))))) pss_nil))))
      (pss_one (ps_ret (C8.pe_mk (k_Table (K := K) T) hr (by decide) rfl (pa_cons (pe_callTy (cbList (K := K) rfl) rfl (T.free 53 rfl) bt_list (pa_cons (pv 0) pa_nil)) pa_nil)))))))), fun g S0 x hp hQ => ?_⟩
  obtain ⟨p, ws, pl⟩ := x
  obtain ⟨hs, ok⟩ := hp
  dsimp only at hs ok
  have hlen := ok.1
  have h0w := ok.2 (ws.getD 0 0) (by
    rw [List.getD_eq_getElem?_getD, List.getElem?_eq_getElem (by omega)]
    exact List.getElem_mem _)
  have hat : atI (ws.map V.int) 0 = some (.int (ws.getD 0 0)) := at_map (j := 0) (getD_at (by omega))
  generalize ws.getD 0 0 = w0 at h0w hat
  show G ⟨g, S0, H⟩ _ (start N_law_made_table [.ref p, .int pl]) [] S0
  refine gs_asgI (v := .int ((ws.sum + pl).fmod 4)) (w_op (w_cb (w_cons (w_op (w_cb (w_cons (w_var rfl) w_nil) (w_sum (sq_of hs))) (w_var rfl) w_rI0) w_nil) w_int1) w_c (w_rI (by decide))) ?_
  generalize (ws.sum + (pl : Int)).fmod 4 = ch
  refine gs_ifN (b := decide (ch = 0)) (w_test (w_op (w_var rfl) w_c w_eqI)) (fun _ => ?_) fun _ => gs_ifN (b := decide (ch = 1)) (w_test (w_op (w_var rfl) w_c w_eqI)) (fun _ => ?_) fun _ => ?_
  · exact g_retP (w_tab (w_cb (w_cons (w_var rfl) w_nil) (w_listL (sq_of hs))) ok) hQ fun v S e h => h
  · refine g_retP (w_cmeth w_c (w_consR (Ra := Is (.str (Txt.join " " (ws.map nS)))) (R := Is [.str (Txt.join " " (ws.map nS))]) (w_m1R w_c (Ra := fun v S => ∃ p, v = .ref p ∧ S p = some (.lst ((ws.map nS).map V.str))) ((w_lcA (ys := ws) (h := V.int) (f := fun w => V.str (nS w)) (w_iL (w_var rfl) (sq_of hs)) (by omega) fun i w S hw e => ⟨_, tg_name, rfl, w_cb (w_cons (w_var rfl) w_nil) (w_str ?_)⟩).imp fun v S e ⟨q, ev, _, hq⟩ => ⟨q, ev, by rw [hq, List.map_map]; rfl⟩) fun y S e ⟨q, ey, hq⟩ => by
        rw [ey]
        exact w_join (sq_of hq) (by
          have h1 := nS_sum ok
          have h2 : (" " : Str).length = 1 := by decide
          rw [List.length_map, hlen, h2]
          omega)) fun v S e ev => w_nilR fun S2 e2 => by rw [ev]; rfl) fun vs S e ev => by cases ev; exact v_tread ok) hQ fun v S e h => h
    obtain ⟨k, ek, hk⟩ := worth_facts ok w (List.mem_of_getElem? hw)
    rw [ek]
    exact Nat.lt_of_le_of_lt (Nat.log2_le_self k) (by omega)
  refine gs_for (Rs := fun ys _ => ys = (List.range 7).map fun i => V.int (i : Nat)) (w_iN (w_cons w_c w_nil) rfl (by decide)) fun ys S2 e2 ey => ?_
  subst ey
  refine ⟨fun i σ' m' K' => (∃ a3 a4 a5, σ' = [some (.ref p), some (.int pl), some (.int ch), a3, a4, a5]) ∧ m' = [] ∧ Ex S2 K', ⟨⟨_, _, _, rfl⟩, rfl, .refl _⟩, fun _ _ _ _ h => h.2.2, ?_, fun σ' m' K' ⟨⟨a3, a4, a5, es⟩, em, eK⟩ => ?_⟩
  · rintro i x σ' m' K' hx ⟨⟨a3, a4, a5, es⟩, em, eK⟩
    subst es em
    obtain ⟨hi7, ex⟩ : i < 7 ∧ x = .int (i : Nat) := by
      have hl := (List.getElem?_eq_some_iff.mp hx).1
      rw [List.length_map, List.length_range] at hl
      rw [List.getElem?_map, List.getElem?_range hl] at hx
      exact ⟨hl, (Option.some.inj hx).symm⟩
    subst ex
    have hsK := (e2.trans eK) _ _ hs
    have mul : ∀ s : Nat, CMul (i : Int) (s : Nat) := fun s => .inl ⟨by omega, by omega⟩
    refine g_name (gs_ifN (b := decide (ws = rg10.map (eitherV [w0, i]))) (w_test (w_opN2 (o := .lst ((rg10.map (eitherV [w0, i])).map V.int)) (w_var rfl) ((w_lcA (ys := rg10) (h := fun (n : Nat) => V.int (n : Int)) (f := fun s => V.int (eitherV [w0, i] s)) w_n10 (by decide) fun j s S hs2 e => ⟨_, tg_name, rfl, w_cb (w_cons (w_op (w_var rfl) w_c (w_ixL (sq_of (e _ _ hsK)) hat)) (w_cons (w_op (w_var rfl) (w_var rfl) (w_rI (mul s))) w_nil)) w_max2⟩).imp fun v S e ⟨q, ev, hn, hq⟩ => ⟨q, ev, hn, by rw [hq, List.map_map]; rfl⟩) fun p2 S e h2 => w_eqLI (e _ _ hsK) h2)) (fun hb => ?_) fun _ => ?_)
    · have hE := of_decide_eq_true hb
      refine gs_ifN (b := decide (ch = 2) && (decide ((i : Int) > 0) && decide (w0.fdiv i < 9))) (w_and (w_test (w_op (w_var rfl) w_c w_eqI)) fun _ => w_and (w_test (w_op (w_var rfl) w_c w_rI0)) fun hpos => w_test (w_op (w_op (w_op (w_var rfl) w_c (w_ixL (sq_of hsK) hat)) (w_var rfl) (w_rI ⟨by have := of_decide_eq_true hpos; omega, by omega⟩)) w_c w_rI0)) (fun hc => ?_) fun _ => ?_
      · rw [Bool.and_eq_true, Bool.and_eq_true, decide_eq_true_iff, decide_eq_true_iff, decide_eq_true_iff] at hc
        have hfd : 0 ≤ w0.fdiv i := Int.fdiv_nonneg h0w.1 (by omega)
        refine g_weak (e2.trans eK) (.refl _) (g_retP (w_cmeth w_c (w_cons (w_op (w_var rfl) w_c (w_ixL (sq_of hsK) hat)) (w_cons (w_var rfl) (w_cons (w_op (w_op (w_op (w_var rfl) w_c (w_ixL (sq_of hsK) hat)) (w_var rfl) (w_rI ⟨by omega, by omega⟩)) w_c w_rI0) w_nil))) fun vs S e ev => by cases ev; exact v_tchange ok ⟨h0w.1, by omega, by omega, by omega⟩ (by rw [hE, ← either_change h0w.1 hc.2.1])) hQ fun v S e h => h)
      · exact g_weak (e2.trans eK) (.refl _) (g_retP (w_cmeth w_c (w_cons (w_op (w_var rfl) w_c (w_ixL (sq_of hsK) hat)) (w_cons (w_var rfl) w_nil)) fun vs S e ev => by cases ev; exact v_teither ok ⟨h0w.1, by omega⟩ hE) hQ fun v S e h => h)
    · refine g_ifN (b := decide (ws = rg10.map (bothV [w0, i]))) (w_test (w_opN2 (o := .lst ((rg10.map (bothV [w0, i])).map V.int)) (w_var rfl) ((w_lcA (ys := rg10) (h := fun (n : Nat) => V.int (n : Int)) (f := fun s => V.int (bothV [w0, i] s)) w_n10 (by decide) fun j s S hs2 e => ⟨_, tg_name, rfl, w_op (w_op (w_var rfl) w_c (w_ixL (sq_of (e _ _ hsK)) hat)) (w_op (w_var rfl) (w_var rfl) (w_rI (mul s))) w_rI0⟩).imp fun v S e ⟨q, ev, hn, hq⟩ => ⟨q, ev, hn, by rw [hq, List.map_map]; rfl⟩) fun p2 S e h2 => w_eqLI (e _ _ hsK) h2)) (fun hb => ?_) fun _ => g_turn ⟨⟨_, _, _, rfl⟩, rfl, eK⟩
      exact g_weak (e2.trans eK) (.refl _) (g_retP (w_cmeth w_c (w_cons (w_op (w_var rfl) w_c (w_ixL (sq_of hsK) hat)) (w_cons (w_var rfl) w_nil)) fun vs S e ev => by cases ev; exact v_tboth ok ⟨h0w.1, by omega⟩ (of_decide_eq_true hb)) hQ fun v S e h => h)
  subst es em
  have hsK := (e2.trans eK) _ _ hs
  exact g_weak (e2.trans eK) (.refl _) (g_retP (w_tab (w_cb (w_cons (w_var rfl) w_nil) (w_listL (sq_of hsK))) ok) hQ fun v S e h => h))

theorem v_mtable {p : Addr} {ws : List Int} {n : Nat} (h : S p = some (.lst (ws.map V.int))) (ok : WorthsOk ws) : SpW g (sp_law_made_table K) [.ref p, .int n] S (fun v S' => ∃ q, v = .ref q ∧ TableAt K S' q ws) := w_pr (p, ws, n) (fun _ e => ⟨e _ _ h, ok⟩) fun _ _ _ _ _ h => h
end
end Cm

/-! ## E23 -/
set_option maxHeartbeats 4000000
/-! The law's made meter; drawn digits and trips. -/
namespace Cm
open PySem PySem.Spec PyProof.Rows L2 Evl
local macro_rules | `(tactic| walk_at "w") => `(tactic| first
  | exact w_c
  | ((refine w_var ?_); rfl)
  | exact w_nil
  | ((refine w_cons (x := ?x) (xs := ?xs) ?h1 ?h2); (case h1 => walk_at "w"); (case h2 => walk_at "w"))
  | ((refine w_op (x := ?x) (y := ?y) ?h1 ?h2 ?h3); (case h1 => walk_at "w"); (case h2 => walk_at "w"); (case h3 => walk_at "w"))
  | exact w_rI0
  | exact w_rU
  | ((refine w_un (x := ?x) ?h1 ?h2); (case h1 => walk_at "w"); (case h2 => walk_at "w"))
  | ((refine w_rEq ?_); rfl)
  | ((refine w_rNe ?_); rfl)
  | ((refine w_test (b := ?b) ?h1); (case h1 => walk_at "w"))
  | ((refine w_tB (b := ?b) ?h1); (case h1 => walk_at "w"))
  | ((refine w_not (a := ?a) ?h1); (case h1 => walk_at "w"))
  | ((refine w_orU (a := ?a) (b := ?b) ?h1 ?h2); (case h1 => walk_at "w"); (case h2 => walk_at "w"))
  | ((refine w_andU (a := ?a) (b := ?b) ?h1 ?h2); (case h1 => walk_at "w"); (case h2 => walk_at "w"))
  | ((refine w_notV (a := ?a) ?h1); (case h1 => walk_at "w"))
  | ((refine w_orVU (a := ?a) (b := ?b) ?h1 ?h2); (case h1 => walk_at "w"); (case h2 => walk_at "w"))
  | ((refine w_andVU (a := ?a) (b := ?b) ?h1 ?h2); (case h1 => walk_at "w"); (case h2 => walk_at "w"))
  | ((refine w_chain1 (x := ?x) (y := ?y) (z := ?z) (p := ?p) (q := ?q) ?h1 ?h2 ?h3 ?h4 ?h5); (case h1 => walk_at "w"); (case h2 => walk_at "w"); (case h3 => walk_at "w"); (case h4 => walk_at "w"); (case h5 => walk_at "w"))
  | exact w_isN
  | exact w_max2
  | exact w_min2
  | exact w_int1
  | exact w_abs
  | (refine w_rI ?_; decide)
  | assumption)

section
variable {P : Program} {w : World} {K : PySem.W.Frag} {mg : Str → Option Value} {base : Heap} {g : Bg} {S : Hp}
theorem tMakeK_eq {C : Addr} {n m : Nat} {sp : Sp} {E : XK} {t tk : TA} : tMakeK C n m sp (fun vs zs => vs ++ zs) E t tk = tMake C sp [] E (fun σ H Q => t σ H fun vs H1 => tk σ H1 fun zs H2 => vs.length = n ∧ zs.length = m ∧ Q (vs ++ zs) H2) := by
  funext σ H Q
  unfold tMakeK tMake
  simp only [List.append_nil, List.cons_append]
theorem w_makeK {σ : L2.St} {C : Addr} {n m : Nat} {sp : Sp} {E : XK} {t tk : TA} {Ra Rc : List V → Hp → Prop} {R : V → Hp → Prop} (ha : W g (t σ) S Ra) (hk : ∀ vs S', Ex S S' → Ra vs S' → vs.length = n ∧ W g (tk σ) S' fun zs S2 => zs.length = m ∧ Rc (vs ++ zs) S2)
    (hs : ∀ vs S', Ex S S' → Rc vs S' → ∀ x dx, S' x = none → S x = none → dx ≠ x → SpO g sp x (.ins C dx []) (.ref x :: vs) S' fun v o' S2 => v = .non ∧ (S2 x = none → R (.ref x) (upd S2 x o'))) : W g (tMakeK C n m sp (fun vs zs => vs ++ zs) E t tk σ) S R := by
  rw [tMakeK_eq]
  refine w_make0 (Ra := Rc) ?_ hs
  exact fun K2 H e a Q q => ha K2 H e a _ fun vs S1 H1 d hv => by
    obtain ⟨hl, hw⟩ := hk vs S1 (e.trans d.kk) hv
    exact hw S1 H1 (.refl _) d.here _ fun zs S2 H2 d2 ⟨h1, h2⟩ => ⟨hl, h1, q _ S2 H2 (d.trans d2) h2⟩
theorem v_Meter {p u : Addr} {ts : List Addr} {M : Mtr} {x dx : Addr} (ok : M.Ok) (h1 : S p = some (.lst (ts.map V.ref))) (h2 : TabsAt K S ts M.tables) (h3 : SeqO S u (M.turns.map V.int)) : SpO g (sp_Meter_init K) x (.ins (CM K) dx []) [.ref x, .int M.first, .int M.drop, .ref p, .ref u, .int M.flag, .int M.each] S fun v o' S' => v = .non ∧ (S' x = none → MtrAt K (upd S' x o') x M) :=
  w_prO (⟨x, dx, M, p, ts, u⟩ : MArg) (fun K1 e => ⟨ok, e _ _ h1, h2.mono e, h3.mono e⟩) fun K1 v o' S' e1 e2 ⟨h1, n, t, u, d, h2, h3⟩ => ⟨h1, fun hn => ⟨dx, n, t, u, d, by rw [upd_same, h2], h3.mono (Ex.new hn)⟩⟩
def sp_law_made (K : PySem.W.Frag) : Sp := Pr (ι := Addr × Mtr) (fun x => [.ref x.1]) (fun _ x S => PlainAt S x.1 x.2 ∧ x.2.Ok) (fun x _ v S => ∃ q, v = .ref q ∧ MtrAt K S q x.2)
theorem c_law_made (T : Txt K mg) : C8.Cal P w K mg base 9 "_law_made" (sp_law_made K) [] := mk_law_made T (pr_len (ps := ["_law_plain"]) fun _ => rfl) (Bd.bs fun cdv A outer s H Q E hr => by
  have hu := hu_of hr
  have nd := sc_law_made.nd
  refine ⟨_, (pss_cons (ps_setLc (i := 1) (own := [("_law_place", 3)]) (g := gName 3) (tt := tYes) rfl nd rfl rfl (sw_true rfl rfl rfl (by decide +kernel)) (pi_range1 rfl (T.free 54 rfl) (pa_cons (pe_callB (cbLen (K := K) rfl) rfl (T.free 51 rfl) bt_len (pa_cons (pe_ix (ixT (K := K) rfl) (pv 0) pe_int (fun _ _ => rfl)) pa_nil)) pa_nil)) (blkOk_by (own := [("_law_place", 3)]) (N := N_law_made) (sc := d_law_made.scope) (by decide +kernel)) (fun _ _ _ _ _ => (pg_name (i := 3) nd rfl (by first | exact .inl rfl | exact .inr rfl))) (fun _ _ _ _ _ => pts_nil) (fun _ _ _ _ _ => (C8.pe_c (c_law_made_table (K := K) T) hr (by decide) rfl (pa_cons (pe_ix (ixL (K := K) rfl) (pe_ix (ixT (K := K) rfl) (pv 0) pe_int (fun _ _ => rfl)) (pv 3) (fun _ _ => rfl)) (pa_cons (pv 3) pa_nil)))))
      (pss_cons (ps_set (i := 2) nd rfl (by first | exact .inl rfl | exact .inr rfl) (pe_callTy (cbList (K := K) rfl) rfl (T.free 53 rfl) bt_list (pa_cons (pe_ix (ixT (K := K) rfl) (pv 0) pe_int (fun _ _ => rfl)) pa_nil)))
      (pss_cons (ps_if (pt_cmpR op_eq (pe_callB (cbLen (K := K) rfl) rfl (T.free 51 rfl) bt_len (pa_cons (pv 2) pa_nil)) pe_int (nomark _)) (pss_one (ps_ret (pe_mkM (k_Meter (K := K) T) hr (by decide) rfl (pa_cons (pe_ix (ixT (K := K) rfl) (pv 0) pe_int (fun _ _ => rfl)) (pa_cons (pe_ix (ixT (K := K) rfl) (pv 0) pe_int (fun _ _ => rfl)) (pa_cons (pv 1) (pa_cons (pe_callTy (cbTuple (K := K) rfl) rfl (T.free 52 rfl) bt_tuple (pa_cons (pv 2) pa_nil)) pa_nil)))) (pk_cons (pe_ix (ixT (K := K) rfl) (pv 0) pe_int (fun _ _ => rfl)) (pk_cons (pe_ix (ixT (K := K) rfl) (pv 0) pe_int (fun _ _ => rfl)) pk_nil))))) pss_nil)
      (pss_one (ps_ret (pe_mkM (k_Meter (K := K) T) hr (by decide) rfl (pa_cons (pe_ix (ixT (K := K) rfl) (pv 0) pe_int (fun _ _ => rfl)) (pa_cons (pe_ix (ixT (K := K) rfl) (pv 0) pe_int (fun _ _ => rfl)) (pa_cons (pv 1) (pa_cons (pv 2) pa_nil)))) (pk_cons (pe_ix (ixT (K := K) rfl) (pv 0) pe_int (fun _ _ => rfl)) (pk_cons (pe_ix (ixT (K := K) rfl) (pv 0) pe_int (fun _ _ => rfl)) pk_nil)))))))), fun g S0 x hp hQ => ?_⟩
  obtain ⟨p, M⟩ := x
  obtain ⟨⟨pt, pu, qs, h1, h2, h3, h4⟩, ok⟩ := hp
  dsimp only at h1 h2 h3 h4 ok
  have htl := ok.tl
  have hul := ok.ul
  have ix : ∀ {σ : L2.St} {S : Hp} {v : V} (j : Int) (e : Ex S0 S) (h0 : σ[0]? = some (some (V.ref p))) (hj : atI [V.int M.first, .int M.drop, .ref pt, .ref pu, .int M.flag, .int M.each] j = some v), W g (tOp (rIxT K) (tVar 0) (tC (.int j)) σ) S (Is v) := fun j e h0 hj => w_op (w_var h0) w_c (w_ixT (st_of (e _ _ h1)) hj)
  show G ⟨g, S0, H⟩ _ (start N_law_made [.ref p]) [] S0
  refine gs_asg (w_lcN (ys := List.range M.tables.length) (h := fun (n : Nat) => V.int (n : Int)) (Pv := fun n v S => ∃ q ws, v = .ref q ∧ M.tables[n]? = some ws ∧ TableAt K S q ws) (w_iN (w_cons (w_cb (w_cons (ix 2 (.refl _) rfl rfl) w_nil) (w_lenL (sq_of h2))) w_nil) (by rw [List.length_map, h3.1]) (by omega)) (by rw [List.length_range]; omega) (fun n v S S' e ⟨q, ws, a, b, c⟩ => ⟨q, ws, a, b, c.mono e⟩) fun i n S hn e => ?_) fun v S1 e1 ⟨tp, xs, ev, _, htp, hxl, hP⟩ => ?_
  · have hin : n < M.tables.length := by
      have hl := (List.getElem?_eq_some_iff.mp hn).1
      rw [List.length_range] at hl
      rw [List.getElem?_range hl] at hn
      have := Option.some.inj hn
      omega
    obtain ⟨ws, hws⟩ : ∃ ws, M.tables[n]? = some ws := ⟨_, List.getElem?_eq_getElem hin⟩
    obtain ⟨q, hq⟩ : ∃ q, qs[n]? = some q := ⟨_, List.getElem?_eq_getElem (by rw [h3.1]; exact hin)⟩
    exact ⟨_, tg_name, rfl, (w_c0 (w_cons (w_op (ix 2 e rfl rfl) (w_var rfl) (w_ixL (sq_of (e _ _ h2)) (at_map hq))) (w_cons (w_var rfl) w_nil)) (v_mtable (e _ _ (h3.2 n q ws hq hws)) (ok.ts ws (List.mem_of_getElem? hws)))).imp fun v S' e' ⟨r, ev, hr⟩ => ⟨r, ws, ev, hws, hr⟩⟩
  subst ev
  have hT : ∃ ts, xs = ts.map V.ref ∧ TabsAt K S1 ts M.tables := by
    have : ∀ (xs : List V) (Ms : List (List Int)), xs.length = Ms.length → (∀ (i : Nat) x, xs[i]? = some x → ∃ q ws, x = V.ref q ∧ Ms[i]? = some ws ∧ TableAt K S1 q ws) → ∃ ts, xs = ts.map V.ref ∧ TabsAt K S1 ts Ms := by
      intro xs
      induction xs with
      | nil =>
        intro Ms hl _
        exact ⟨[], rfl, hl, fun i t ws h => by cases h⟩
      | cons x xs ih =>
        intro Ms hl h
        match Ms, hl with
        | m :: Ms, hl =>
          obtain ⟨q, ws, ex, hm, ht⟩ := h 0 x rfl
          cases hm
          obtain ⟨ts, e, hT⟩ := ih Ms (Nat.succ.inj hl) fun i x hx => h (i + 1) x hx
          refine ⟨q :: ts, by rw [ex, e]; rfl, by rw [List.length_cons, List.length_cons, hT.1], fun i t ws a b => ?_⟩
          match i, a, b with
          | 0, a, b => cases a; cases b; exact ht
          | i + 1, a, b => exact hT.2 i t ws a b
    rw [List.length_range] at hxl
    exact this xs M.tables hxl fun i x hx => hP i i x (List.getElem?_range (by rw [← hxl]; exact (List.getElem?_eq_some_iff.mp hx).1)) hx
  obtain ⟨ts, ex, hT⟩ := hT
  subst ex
  refine gs_asg (w_cb (w_cons (ix 3 e1 rfl rfl) w_nil) (w_listL (sq_of (e1 _ _ h4)))) fun v S2 e2 ⟨tu, ev, _, htu⟩ => ?_
  subst ev
  have e02 := e1.trans e2
  have args : ∀ {S : Hp} {σ : L2.St} {te : TE} (e : Ex S2 S) (h0 : σ[0]? = some (some (V.ref p))) (h1 : σ[1]? = some (some (V.ref tp))) (ht : ∀ S', Ex S S' → W g (te σ) S' fun v S'' => ∃ u, v = .ref u ∧ SeqO S'' u (M.turns.map V.int)), W g (tMakeK (CM K) 4 2 (sp_Meter_init K) (fun vs zs => vs ++ zs) C8.E0 (tCons (tOp (rIxT K) (tVar 0) (tC (.int 0))) (tCons (tOp (rIxT K) (tVar 0) (tC (.int 1))) (tCons (tVar 1) (tCons te tNil)))) (tCons (tOp (rIxT K) (tVar 0) (tC (.int 4))) (tCons (tOp (rIxT K) (tVar 0) (tC (.int 5))) tNil)) σ) S (fun v S' => ∃ q, v = .ref q ∧ MtrAt K S' q M) := fun {S σ te} e h0 h1 ht =>
    w_makeK (Ra := fun vs S' => ∃ u, vs = [.int M.first, .int M.drop, .ref tp, .ref u] ∧ SeqO S' u (M.turns.map V.int)) (Rc := fun vs S' => ∃ u, vs = [.int M.first, .int M.drop, .ref tp, .ref u, .int M.flag, .int M.each] ∧ SeqO S' u (M.turns.map V.int))
      (w_consR (ix 0 (e02.trans e) h0 rfl) fun v S3 e3 ev => w_consR (ix 1 ((e02.trans e).trans e3) h0 rfl) fun v2 S4 e4 ev2 => w_consR (w_var h1 : W _ _ _ (Is (V.ref tp))) fun v3 S5 e5 ev3 => w_consR (ht S5 ((e3.trans e4).trans e5)) fun v4 S6 e6 ⟨u, ev4, hu⟩ => w_nilR fun S7 e7 => ⟨u, by rw [ev, ev2, ev3, ev4], hu.mono e7⟩)
      (fun vs S' e' ⟨u, ev, hu⟩ => ⟨by rw [ev]; rfl, (w_cons (ix 4 ((e02.trans e).trans e') h0 rfl) (w_cons (ix 5 ((e02.trans e).trans e') h0 rfl) w_nil)).imp fun zs S2 e2 hz => ⟨by cases hz; rfl, u, by cases hz; rw [ev]; rfl, hu.mono e2⟩⟩)
      fun vs S' e' ⟨u, ev, hu⟩ x dx hx hk ne => by subst ev; exact (v_Meter ok ((e2.trans (e.trans e')) _ _ htp) (hT.mono (e2.trans (e.trans e'))) hu).imp fun v o' S2 h => ⟨h.1, fun hn => ⟨x, rfl, h.2 hn⟩⟩
  refine gs_ifN (b := decide (((M.turns.map V.int).length : Int) = 2)) (w_test (w_op (w_cb (w_cons (w_var rfl) w_nil) (w_lenL (sq_of htu))) w_c w_eqI)) (fun _ => ?_) fun _ => ?_
  · exact g_weak e02 (.refl _) (g_retP (args (.refl _) rfl rfl fun S' e' => (w_cb (w_cons (w_var rfl) w_nil) (w_tupL (sq_of (e' _ _ htu)))).imp fun v S'' e'' ⟨u, ev, _, hu⟩ => ⟨u, ev, .inr hu⟩) hQ fun v S e h => h)
  · exact g_weak e02 (.refl _) (g_retP (args (.refl _) rfl rfl fun S' e' => (w_var rfl : W _ _ _ (Is (V.ref tu))).imp fun v S'' e'' ev => ⟨tu, ev, .inl (e'' _ _ (e' _ _ htu))⟩) hQ fun v S e h => h))

theorem v_made {p : Addr} {M : Mtr} (h : PlainAt S p M) (ok : M.Ok) : SpW g (sp_law_made K) [.ref p] S (fun v S' => ∃ q, v = .ref q ∧ MtrAt K S' q M) := w_pr (p, M) (fun _ e => ⟨h.mono e, ok⟩) fun _ _ _ _ _ h => h
theorem perm_inv {α β : Type} {f : α → β} {zs ys : List β} (h : zs.Perm ys) : ∀ {l : List α}, zs = l.map f → ∃ l' : List α, l'.Perm l ∧ ys = l'.map f := by
  induction h with
  | nil => exact fun {l} e => ⟨[], (by cases l with | nil => exact .refl _ | cons a l => cases e), rfl⟩
  | cons x h ih =>
    intro l e
    cases l with
    | nil => cases e
    | cons a l =>
      injection e with e1 e2
      obtain ⟨l', hp, e3⟩ := ih e2
      exact ⟨a :: l', hp.cons a, by rw [List.map_cons, e1, e3]⟩
  | swap x y zs =>
    intro l e
    match l, e with
    | a :: b :: l, e =>
      injection e with e1 e2
      injection e2 with e2 e3
      exact ⟨b :: a :: l, .swap _ _ _, by rw [List.map_cons, List.map_cons, e1, e2, e3]⟩
  | trans h1 h2 ih1 ih2 =>
    intro l e
    obtain ⟨l1, p1, e1⟩ := ih1 e
    obtain ⟨l2, p2, e2⟩ := ih2 e1
    exact ⟨l2, p2.trans p1, e2⟩
theorem str_dg1 : ∀ d : Nat, d ≤ 9 → (toString (d : Int) : Str) = dg1 d := by
  have h : ∀ d : Fin 10, (toString ((d.val : Nat) : Int) : Str) = dg1 d.val := by decide +kernel
  exact fun d hd => h ⟨d, by omega⟩
theorem dgS_one {d : Nat} : dgS [d] = dg1 d := by rfl
/-- "".join(a list of figures) -/
theorem w_joinDg {p : Addr} {l : List Nat} (h : S p = some (.lst ((l.map dg1).map V.str))) (hl : l.length ≤ 1000) : W g (fun H (Q : VK) => ∃ (b : Str) (q : Addr) (zs : List Str), V.str (Str.ofString "") = .str b ∧ [V.ref p] = [.ref q] ∧ (SqL K H q (zs.map V.str) ∨ SqT K H q (zs.map V.str)) ∧ (zs.map (·.length)).sum + zs.length * b.length ≤ 16777216 ∧ Q (.str (Txt.join b zs)) H) S (Is (V.str (dgS l))) := (w_join (K := S) (a := Str.ofString "") (ys := l.map dg1) (sq_of h) (by rw [sum_dg1, List.length_map]; show _ + _ * 0 ≤ _; omega)).is (by rw [join_dg])
end
end Cm

/-! ## E24 -/
set_option maxHeartbeats 4000000
/-! The law's drawn digits, trips, facts. -/
namespace Cm
open PySem PySem.Spec PyProof.Rows L2 Evl
local macro_rules | `(tactic| walk_at "w") => `(tactic| first
  | exact w_c
  | ((refine w_var ?_); rfl)
  | exact w_nil
  | ((refine w_cons (x := ?x) (xs := ?xs) ?h1 ?h2); (case h1 => walk_at "w"); (case h2 => walk_at "w"))
  | ((refine w_op (x := ?x) (y := ?y) ?h1 ?h2 ?h3); (case h1 => walk_at "w"); (case h2 => walk_at "w"); (case h3 => walk_at "w"))
  | exact w_rI0
  | exact w_rU
  | ((refine w_un (x := ?x) ?h1 ?h2); (case h1 => walk_at "w"); (case h2 => walk_at "w"))
  | ((refine w_rEq ?_); rfl)
  | ((refine w_rNe ?_); rfl)
  | ((refine w_test (b := ?b) ?h1); (case h1 => walk_at "w"))
  | ((refine w_tB (b := ?b) ?h1); (case h1 => walk_at "w"))
  | ((refine w_not (a := ?a) ?h1); (case h1 => walk_at "w"))
  | ((refine w_orU (a := ?a) (b := ?b) ?h1 ?h2); (case h1 => walk_at "w"); (case h2 => walk_at "w"))
  | ((refine w_andU (a := ?a) (b := ?b) ?h1 ?h2); (case h1 => walk_at "w"); (case h2 => walk_at "w"))
  | ((refine w_notV (a := ?a) ?h1); (case h1 => walk_at "w"))
  | ((refine w_orVU (a := ?a) (b := ?b) ?h1 ?h2); (case h1 => walk_at "w"); (case h2 => walk_at "w"))
  | ((refine w_andVU (a := ?a) (b := ?b) ?h1 ?h2); (case h1 => walk_at "w"); (case h2 => walk_at "w"))
  | ((refine w_chain1 (x := ?x) (y := ?y) (z := ?z) (p := ?p) (q := ?q) ?h1 ?h2 ?h3 ?h4 ?h5); (case h1 => walk_at "w"); (case h2 => walk_at "w"); (case h3 => walk_at "w"); (case h4 => walk_at "w"); (case h5 => walk_at "w"))
  | exact w_isN
  | exact w_max2
  | exact w_min2
  | exact w_int1
  | exact w_abs
  | (refine w_rI ?_; decide)
  | assumption)

section
variable {P : Program} {w : World} {K : PySem.W.Frag} {mg : Str → Option Value} {base : Heap} {g : Bg} {S : Hp}
theorem dgS_nil {l : List Nat} : decide (V.str (dgS l) = V.str "") = decide (l = []) := decide_eq_decide.mpr ⟨fun h => by
  have h := V.str.inj h
  have h2 := congrArg Str.length h
  rw [dgS_len] at h2
  exact List.eq_nil_of_length_eq_zero h2, fun h => by rw [h]; rfl⟩
/-- different figures, at least one -/
def DgOk (l : List Nat) : Prop := l ≠ [] ∧ l.Nodup ∧ ∀ d ∈ l, d ≤ 9
theorem DgOk.few {l : List Nat} (h : l.Nodup) (h9 : ∀ d ∈ l, d ≤ 9) : l.length ≤ 10 := nodup_lt 10 l h fun x hx => by have := h9 x hx; omega
theorem w_testR {σ : L2.St} {te : TE} {R : Bool → Hp → Prop} (h : W g (te σ) S fun v S' => ∃ b, v = .bl b ∧ R b S') : W g (tTest te σ) S R := fun K2 H e a Q q => h K2 H e a _ fun v S H' d ⟨b, ev, hR⟩ => ⟨b, ev, q _ S H' d hR⟩
/-- both ways behind an if come together -/
theorem gs_ifJ {c : Ct} {K : Hp} {σ : L2.St} {D : Ends} {t z : TS} {tt : TT} {b : Bool} {R : L2.St → Hp → Prop} (h : W c.g (tt σ) K (Is b)) (k : ∀ σ' S, Ex K S → R σ' S → G c (z D) σ' [] S) (h2 : b = false → R σ K)
    (h1 : b = true → (∀ σ' S, Ex K S → R σ' S → G c (z D) σ' [] S) → G c (t { D with nx := z D }) σ [] K) : G c (tSeq (tIfS tt t tNext) z D) σ [] K := gs_ifN h (fun e => h1 e k) fun e => k σ K (.refl _) (h2 e)
def sp_law_digits (K : PySem.W.Frag) : Sp := Pr (ι := Addr × Addr) (fun x => [.ref x.1]) (fun g x _ => g = some x) (fun x _ v S => ∃ l, v = .str (dgS l) ∧ DgOk l)
theorem c_law_digits (T : Txt K mg) : C8.Cal P w K mg base 3 "_law_digits" (sp_law_digits K) [] := mk_law_digits T (pr_len (ps := ["_law_bag_here"]) fun _ => rfl) (Bd.bs fun cdv A outer s H Q E hr => by
  have hu := hu_of hr
  have nd := sc_law_digits.nd
  refine ⟨_, (pss_cons (ps_set (i := 1) nd rfl (by first | exact .inl rfl | exact .inr rfl) (peJoin (K := K) rfl pe_str (pe_lc (own := [("_law_digit", 2)]) (g := gName 2) rfl nd (pi_str pe_str) (blkOk_by (own := [("_law_digit", 2)]) (N := N_law_digits) (sc := d_law_digits.scope) (by decide +kernel)) (fun _ _ _ _ _ => (pg_name (i := 2) nd rfl (by first | exact .inl rfl | exact .inr rfl))) (fun _ _ _ _ _ => (pts_one (pt_cmpR op_eq (C8.pe_c (c_law_draw (K := K) T) hr (by decide) rfl (pa_cons (pv 0) (pa_cons pe_int pa_nil))) pe_int (nomark _)))) (fun _ _ _ _ _ => (pv 2)))))
      (pss_cons (ps_if (pt_cmpR op_eq (pv 1) pe_str (nomark _)) (pss_one (ps_set (i := 1) nd rfl (by first | exact .inl rfl | exact .inr rfl) (pe_callTy call_str_int rfl (T.free 58 rfl) bt_str (pa_cons (C8.pe_c (c_law_draw (K := K) T) hr (by decide) rfl (pa_cons (pv 0) (pa_cons pe_int pa_nil))) pa_nil)))) pss_nil)
      (pss_one (ps_ret (peJoin (K := K) rfl pe_str (C8.pe_c (c_law_mixed (K := K) T) hr (by decide) rfl (pa_cons (pv 0) (pa_cons (pe_callTy (call_listTxt rfl) rfl (T.free 53 rfl) bt_list (pa_cons (pv 1) pa_nil)) pa_nil)))))))), fun g S0 x hp hQ => ?_⟩
  obtain ⟨b, l⟩ := x
  have hg : (⟨g, S0, H⟩ : Ct).g = some (b, l) := hp
  show G ⟨g, S0, H⟩ _ (start N_law_digits [.ref b]) [] S0
  refine gs_asg (R := fun v _ => ∃ l : List Nat, v = .str (dgS l) ∧ l.Nodup ∧ ∀ d ∈ l, d ≤ 9) (w_m1R w_c (Ra := fun v S => ∃ (p : Addr) (l : List Nat), v = .ref p ∧ S p = some (.lst ((l.map dg1).map V.str)) ∧ l.Nodup ∧ ∀ d ∈ l, d ≤ 9) (w_lc (Rs := fun ys _ => ys = (List.range 10).map fun d => V.str (dg1 d)) (w_iDg (l := List.range 10) (w_c.is (by rw [digs]))) fun ys S1 e1 ey => ?_) fun y S e ⟨p, l, ey, hp, hn, h9⟩ => by
      subst ey
      exact (w_joinDg hp (by have := DgOk.few hn h9; omega)).imp fun v S' e' ev => ⟨l, ev, hn, h9⟩) fun v S1 e1 ⟨l1, ev, hn, h9⟩ => ?_
  · subst ey
    refine ⟨fun i acc S' => ∃ l : List Nat, acc = (l.map dg1).map V.str ∧ l.Sublist ((List.range 10).take i), ⟨[], rfl, List.nil_sublist _⟩, fun i acc S' ⟨l, ea, hs⟩ => ?_, fun i x acc S' hx e2 ⟨l, ea, hs⟩ => ?_, fun acc S' p e2 ⟨l, ea, hs⟩ hp hk => ⟨p, l, rfl, by rw [upd_same, ea], ?_, ?_⟩⟩
    · rw [ea, List.length_map, List.length_map]
      have h1 := hs.length_le
      have h2 := List.length_take_le' i (List.range 10)
      rw [List.length_range] at h2
      omega
    · have hi := (List.getElem?_eq_some_iff.mp hx).1
      rw [List.length_map, List.length_range] at hi
      rw [List.getElem?_map, List.getElem?_range hi] at hx
      cases hx
      have htk := take_next (List.getElem?_range hi)
      refine ⟨_, tg_name, rfl, (w_testR (R := fun _ _ => True) (w_opR2 (w_c0 (w_cons (w_var rfl) (w_cons w_c w_nil)) (v_draw (sz := 2) hg (by decide))) (fun S e => w_c) fun y S e ⟨d, ey, _⟩ => by subst ey; exact w_eqI.imp fun v S' e' ev => ⟨_, ev, trivial⟩)).imp fun bb S2 e3 _ => ⟨fun _ => (w_var rfl : W _ _ _ (Is (V.str (dg1 i)))).imp fun y S3 e4 ey => ?_, fun _ => ?_⟩⟩
      · cases ey
        refine ⟨l ++ [i], by rw [ea, List.map_append, List.map_append]; rfl, ?_⟩
        rw [htk]
        exact hs.append (.refl _)
      · refine ⟨l, ea, ?_⟩
        rw [htk]
        exact hs.trans (List.sublist_append_left _ _)
    · rw [List.length_map, List.length_range] at hs
      exact (List.nodup_range.sublist (hs.trans (List.take_sublist _ _)))
    · intro d hd
      have := List.mem_range.mp ((List.take_sublist _ _).subset (hs.subset hd))
      omega
  subst ev
  refine gs_ifJ (R := fun σ _ => ∃ l : List Nat, σ = [some (.ref b), some (.str (dgS l)), none] ∧ DgOk l) (b := decide (V.str (dgS l1) = V.str "")) (w_test (w_op (w_var rfl) w_c (w_rEq rfl))) (fun σ' S2 e2 ⟨l2, es, hl2⟩ => ?_) (fun hb => ⟨l1, rfl, by rw [dgS_nil] at hb; exact of_decide_eq_false hb, hn, h9⟩) fun _ k => ?_
  · subst es
    have hl10 := DgOk.few hl2.2.1 hl2.2.2
    refine g_weak (e1.trans e2) (.refl _) (g_retP (w_m1R w_c (Ra := fun v S => ∃ (p : Addr) (l : List Nat), v = .ref p ∧ S p = some (.lst ((l.map dg1).map V.str)) ∧ l.Perm l2) (w_cR (Ra := fun vs S => ∃ p, vs = [.ref b, .ref p] ∧ S p = some (.lst (l2.map fun d => V.str (dg1 d)))) (w_consR (w_var rfl : W _ _ _ (Is (V.ref b))) fun v S e ev => w_consR (w_cb (w_cons (w_var rfl) w_nil) (w_listTxt (by rw [dgS_len]; omega))) fun v2 S2 e2 ⟨p, ev2, _, hp2⟩ => w_nilR fun S3 e3 => ⟨p, by rw [ev, ev2], by rw [e3 _ _ hp2]; exact congrArg (fun z => some (HO.lst z)) (dgS_sgL l2)⟩) fun vs S e ⟨p, ev, hp2⟩ => by
          subst ev
          exact fun E => W.imp (v_mixed hg hp2 (by rw [List.length_map]; omega) E) fun v S' e' ⟨q, ys, ev, _, hq, hP⟩ => by
            obtain ⟨l', hl', ey⟩ := perm_inv hP.symm rfl
            exact ⟨q, l', ev, by rw [hq, ey, List.map_map]; rfl, hl'⟩) fun y S e ⟨p, l', ey, hp2, hl'⟩ => by
      subst ey
      exact (w_joinDg hp2 (by have := hl'.length_eq; omega)).imp fun v S' e' ev => ⟨l', ev, fun z => hl2.1 (by rw [z] at hl'; exact hl'.symm.eq_nil), hl'.nodup_iff.mpr hl2.2.1, fun d hd => hl2.2.2 d (hl'.subset hd)⟩) hQ fun v S e h => h)
  · refine g_asg (w_cbR (Ra := fun vs _ => ∃ d : Nat, vs = [.int d] ∧ d ≤ 9) (R := fun v _ => ∃ d : Nat, v = .str (dg1 d) ∧ d ≤ 9) (w_consR (w_c0 (w_cons (w_var rfl) (w_cons w_c w_nil)) (v_draw (sz := 10) hg (by decide))) fun v S e ⟨d, ev, hd⟩ => w_nilR fun S2 e2 => ⟨d, by rw [ev], by omega⟩) fun vs S e ⟨d, ev, hd⟩ => by
      subst ev
      exact (w_str (Nat.lt_of_le_of_lt (Nat.log2_le_self _) (by omega))).imp fun v S' e' ev => ⟨d, by rw [ev, str_dg1 d hd], hd⟩) fun v S2 e2 ⟨d, ev, hd⟩ => ?_
    subst ev
    exact k _ _ e2 ⟨[d], rfl, by simp, by simp, fun x hx => by rw [List.mem_singleton.mp hx]; exact hd⟩)

end
end Cm

/-! ## E25 -/
set_option maxHeartbeats 4000000
/-! The law's drawn trips and true facts. -/
namespace Cm
open PySem PySem.Spec PyProof.Rows L2 Evl
local macro_rules | `(tactic| walk_at "w") => `(tactic| first
  | exact w_c
  | ((refine w_var ?_); rfl)
  | exact w_nil
  | ((refine w_cons (x := ?x) (xs := ?xs) ?h1 ?h2); (case h1 => walk_at "w"); (case h2 => walk_at "w"))
  | ((refine w_op (x := ?x) (y := ?y) ?h1 ?h2 ?h3); (case h1 => walk_at "w"); (case h2 => walk_at "w"); (case h3 => walk_at "w"))
  | exact w_rI0
  | exact w_rU
  | ((refine w_un (x := ?x) ?h1 ?h2); (case h1 => walk_at "w"); (case h2 => walk_at "w"))
  | ((refine w_rEq ?_); rfl)
  | ((refine w_rNe ?_); rfl)
  | ((refine w_test (b := ?b) ?h1); (case h1 => walk_at "w"))
  | ((refine w_tB (b := ?b) ?h1); (case h1 => walk_at "w"))
  | ((refine w_not (a := ?a) ?h1); (case h1 => walk_at "w"))
  | ((refine w_orU (a := ?a) (b := ?b) ?h1 ?h2); (case h1 => walk_at "w"); (case h2 => walk_at "w"))
  | ((refine w_andU (a := ?a) (b := ?b) ?h1 ?h2); (case h1 => walk_at "w"); (case h2 => walk_at "w"))
  | ((refine w_notV (a := ?a) ?h1); (case h1 => walk_at "w"))
  | ((refine w_orVU (a := ?a) (b := ?b) ?h1 ?h2); (case h1 => walk_at "w"); (case h2 => walk_at "w"))
  | ((refine w_andVU (a := ?a) (b := ?b) ?h1 ?h2); (case h1 => walk_at "w"); (case h2 => walk_at "w"))
  | ((refine w_chain1 (x := ?x) (y := ?y) (z := ?z) (p := ?p) (q := ?q) ?h1 ?h2 ?h3 ?h4 ?h5); (case h1 => walk_at "w"); (case h2 => walk_at "w"); (case h3 => walk_at "w"); (case h4 => walk_at "w"); (case h5 => walk_at "w"))
  | exact w_isN
  | exact w_max2
  | exact w_min2
  | exact w_int1
  | exact w_abs
  | (refine w_rI ?_; decide)
  | assumption)

section
variable {P : Program} {w : World} {K : PySem.W.Frag} {mg : Str → Option Value} {base : Heap} {g : Bg} {S : Hp}
theorem dgs_of {t : Nat} : ∀ {xs : List V}, (∀ x ∈ xs, ∃ d : Nat, x = .str (dg1 d) ∧ d ≤ t) → ∃ l : List Nat, xs = (l.map dg1).map V.str ∧ ∀ d ∈ l, d ≤ t
  | [], _ => ⟨[], rfl, fun d h => nomatch h⟩
  | x :: xs, h => by
    obtain ⟨d, ex, hd⟩ := h x List.mem_cons_self
    obtain ⟨l, e, hl⟩ := dgs_of fun y hy => h y (List.mem_cons_of_mem _ hy)
    exact ⟨d :: l, by rw [ex, e]; rfl, fun y hy => (List.mem_cons.mp hy).elim (fun z => by rw [z]; exact hd) (hl y)⟩
def sp_law_base_trip (K : PySem.W.Frag) : Sp := Pr (ι := (Addr × Addr) × Nat × Nat) (fun x => [.ref x.1.1, .int x.2.1, .int x.2.2]) (fun g x _ => g = some x.1 ∧ x.2.1 ≤ 100 ∧ x.2.2 ≤ 9) (fun x _ v _ => ∃ tr : List Nat, v = .str (dgS tr) ∧ tr.length = x.2.1 ∧ ∀ d ∈ tr, d ≤ x.2.2)
theorem c_law_base_trip (T : Txt K mg) : C8.Cal P w K mg base 2 "_law_base_trip" (sp_law_base_trip K) [] := mk_law_base_trip T (pr_len (ps := ["_law_bag_here", "_law_ticks", "_law_top"]) fun _ => rfl) (Bd.bs fun cdv A outer s H Q E hr => by
  have hu := hu_of hr
  have nd := sc_law_base_trip.nd
  refine ⟨_, (pss_one (ps_ret (peJoin (K := K) rfl pe_str (pe_lc (own := [("_law_tick", 3)]) (g := gName 3) (tt := tYes) rfl nd (pi_range1 rfl (T.free 54 rfl) (pa_cons (pv 1) pa_nil)) (blkOk_by (own := [("_law_tick", 3)]) (N := N_law_base_trip) (sc := d_law_base_trip.scope) (by decide +kernel)) (fun _ _ _ _ _ => (pg_name (i := 3) nd rfl (by first | exact .inl rfl | exact .inr rfl))) (fun _ _ _ _ _ => pts_nil) (fun _ _ _ _ _ => (pe_callTy call_str_int rfl (T.free 58 rfl) bt_str (pa_cons (C8.pe_c (c_law_draw (K := K) T) hr (by decide) rfl (pa_cons (pv 0) (pa_cons (pe_op op_add (pv 2) pe_int) pa_nil))) pa_nil))))))), fun g S0 x hp hQ => ?_⟩
  obtain ⟨⟨b, l⟩, n, t⟩ := x
  obtain ⟨hg, hn, ht⟩ := hp
  dsimp only at hn ht
  have hg : (⟨g, S0, H⟩ : Ct).g = some (b, l) := hg
  show G ⟨g, S0, H⟩ _ (start N_law_base_trip [.ref b, .int n, .int t]) [] S0
  exact g_retP (w_m1R w_c (Ra := fun v S => ∃ (p : Addr) (l : List Nat), v = .ref p ∧ S p = some (.lst ((l.map dg1).map V.str)) ∧ l.length = n ∧ ∀ d ∈ l, d ≤ t) ((w_lcN (ys := List.range n) (h := fun (n : Nat) => V.int (n : Int)) (Pv := fun _ v _ => ∃ d : Nat, v = .str (dg1 d) ∧ d ≤ t) (w_iN (w_cons (w_var rfl) w_nil) rfl (by omega)) (by rw [List.length_range]; omega) (fun _ _ _ _ _ h => h) fun i k S hk e => ⟨_, tg_name, rfl, w_cbR (Ra := fun vs _ => ∃ d : Nat, vs = [.int d] ∧ d ≤ t) (w_consR (w_c0 (w_cons (w_var rfl) (w_cons (w_op (w_var rfl) w_c w_rI0) w_nil)) (v_draw (sz := (t : Int) + 1) hg (by omega))) fun v S e ⟨d, ev, hd⟩ => w_nilR fun S2 e2 => ⟨d, by rw [ev], by omega⟩) fun vs S e ⟨d, ev, hd⟩ => by
      subst ev
      exact (w_str (Nat.lt_of_le_of_lt (Nat.log2_le_self _) (by omega))).imp fun v S' e' ev => ⟨d, by rw [ev, str_dg1 d (by omega)], hd⟩⟩).imp fun v S e ⟨p, xs, ev, _, hp2, hl, hP⟩ => by
    obtain ⟨l', ex, hl'⟩ := dgs_of (xs := xs) (t := t) fun x hx => by
      obtain ⟨i, hi, ei⟩ := List.mem_iff_getElem.mp hx
      exact hP i i x (List.getElem?_range (by rw [hl, List.length_range] at hi; exact hi)) (by rw [List.getElem?_eq_getElem hi, ei])
    rw [List.length_range] at hl
    exact ⟨p, l', ev, by rw [hp2, ex], by rw [ex, List.length_map, List.length_map] at hl; exact hl, hl'⟩) fun y S e ⟨p, l', ey, hp2, hl, hl'⟩ => by
      subst ey
      exact (w_joinDg hp2 (by omega)).imp fun v S' e' ev => ⟨l', ev, hl, hl'⟩) hQ fun v S e h => h)

/-! places along a trip -/
theorem go_way (M : Mtr) : ∀ (w : List Nat) (p : Pl), (w.foldl M.go p).2 = p.2 + (w.map fun d => ((d : Nat) : Int)).sum
  | [], p => (Int.add_zero _).symm
  | d :: w, p => by
    show (w.foldl M.go (M.go p d)).2 = _
    rw [go_way M w, List.map_cons, List.sum_cons]
    show p.2 + (d : Int) + _ = _
    omega
theorem pl_way {M : Mtr} {w : List Nat} : (M.pl w).2 = (w.map fun d => ((d : Nat) : Int)).sum := (go_way M w (0, 0)).trans (Int.zero_add _)
theorem way_pos : ∀ w : List Nat, 0 ≤ (w.map fun d => ((d : Nat) : Int)).sum
  | [] => Int.le_refl _
  | d :: w => by
    rw [List.map_cons, List.sum_cons]
    have := way_pos w
    omega
theorem go_pos {M : Mtr} (ok : M.Ok) : ∀ (w : List Nat) (p : Pl), (∀ d ∈ w, d ≤ 9) → 0 ≤ p.1 → 0 ≤ (w.foldl M.go p).1
  | [], p, _, h => h
  | d :: w, p, hd, h => by
    refine go_pos ok w _ (fun x hx => hd x (List.mem_cons_of_mem _ hx)) ?_
    have := worth_in (j := M.jumpsAt p.1) ok (hd d List.mem_cons_self)
    show 0 ≤ p.1 + (M.tabAt (M.jumpsAt p.1)).getD d 0
    omega
theorem pl_pos {M : Mtr} (ok : M.Ok) {w : List Nat} (h : ∀ d ∈ w, d ≤ 9) : 0 ≤ (M.pl w).1 := go_pos ok w _ h (Int.le_refl _)
theorem price_pos {M : Mtr} (ok : M.Ok) {c : Int} (h : 0 ≤ c) : 0 ≤ M.priceAt c := by
  have hg := ok.g1
  have he := ok.e1
  have hd := ok.d1
  unfold Mtr.priceAt Mtr.jumpsAt
  split
  · rw [Int.mul_zero]; omega
  · rename_i z
    have := Int.fdiv_nonneg (a := c - M.first) (b := M.drop) (by omega) (by omega)
    have := Int.mul_nonneg (a := M.each) (b := 1 + (c - M.first).fdiv M.drop) (by omega) (by omega)
    omega
end
end Cm

/-! ## E26 -/
set_option maxHeartbeats 4000000
/-! The law's true facts. -/
namespace Cm
open PySem PySem.Spec PyProof.Rows L2 Evl
local macro_rules | `(tactic| walk_at "w") => `(tactic| first
  | exact w_c
  | ((refine w_var ?_); rfl)
  | exact w_nil
  | ((refine w_cons (x := ?x) (xs := ?xs) ?h1 ?h2); (case h1 => walk_at "w"); (case h2 => walk_at "w"))
  | ((refine w_op (x := ?x) (y := ?y) ?h1 ?h2 ?h3); (case h1 => walk_at "w"); (case h2 => walk_at "w"); (case h3 => walk_at "w"))
  | exact w_rI0
  | exact w_rU
  | ((refine w_un (x := ?x) ?h1 ?h2); (case h1 => walk_at "w"); (case h2 => walk_at "w"))
  | ((refine w_rEq ?_); rfl)
  | ((refine w_rNe ?_); rfl)
  | ((refine w_test (b := ?b) ?h1); (case h1 => walk_at "w"))
  | ((refine w_tB (b := ?b) ?h1); (case h1 => walk_at "w"))
  | ((refine w_not (a := ?a) ?h1); (case h1 => walk_at "w"))
  | ((refine w_orU (a := ?a) (b := ?b) ?h1 ?h2); (case h1 => walk_at "w"); (case h2 => walk_at "w"))
  | ((refine w_andU (a := ?a) (b := ?b) ?h1 ?h2); (case h1 => walk_at "w"); (case h2 => walk_at "w"))
  | ((refine w_notV (a := ?a) ?h1); (case h1 => walk_at "w"))
  | ((refine w_orVU (a := ?a) (b := ?b) ?h1 ?h2); (case h1 => walk_at "w"); (case h2 => walk_at "w"))
  | ((refine w_andVU (a := ?a) (b := ?b) ?h1 ?h2); (case h1 => walk_at "w"); (case h2 => walk_at "w"))
  | ((refine w_chain1 (x := ?x) (y := ?y) (z := ?z) (p := ?p) (q := ?q) ?h1 ?h2 ?h3 ?h4 ?h5); (case h1 => walk_at "w"); (case h2 => walk_at "w"); (case h3 => walk_at "w"); (case h4 => walk_at "w"); (case h5 => walk_at "w"))
  | exact w_isN
  | exact w_max2
  | exact w_min2
  | exact w_int1
  | exact w_abs
  | (refine w_rI ?_; decide)
  | assumption)

section
variable {P : Program} {w : World} {K : PySem.W.Frag} {mg : Str → Option Value} {base : Heap} {g : Bg} {S : Hp}
theorem slice_take {l : List Nat} {m : Nat} : Txt.slice (dgS l) none (some (m : Int)) = dgS (l.take m) := by
  unfold dgS
  rw [SX.slice_to (by omega), Int.toNat_natCast, List.map_take]
theorem dgS_cat {l : List Nat} {d : Nat} : dgS l ++ dg1 d = dgS (l ++ [d]) := by
  rw [← dgS_one]
  unfold dgS
  rw [SX.S_cat, List.map_append]
theorem dgS_at {l : List Nat} {i : Nat} {d : Nat} (h : l[i]? = some d) : atI (dgS l).cps.toList (i : Int) = some (48 + d) := by
  rw [dgS_cps]
  exact atI_nat (by rw [List.getElem?_map, h]; rfl)
/-- different figures, sorted -/
theorem sorted_ok {l : List Nat} (h : DgOk l) {ss : List Str} (hp : ss.Perm ((dgS l).cps.toList.map fun c => ⟨#[c]⟩)) (hs : sortedS ss = true) : ∃ l', SpdOk l' ∧ l'.Perm l ∧ ss = l'.map dg1 := by
  have hm : (l.mergeSort fun a b => decide (a ≤ b)).Perm l := List.mergeSort_perm _ _
  have hsrt := List.pairwise_mergeSort (le := fun a b : Nat => decide (a ≤ b)) (fun a b c => by simp; omega) (fun a b => by simp; omega) l
  have hnd := hm.nodup_iff.mpr h.2.1
  generalize (l.mergeSort fun a b => decide (a ≤ b)) = l' at hm hsrt hnd
  have ok : SpdOk l' := ⟨fun z => h.1 (by rw [z] at hm; exact hm.symm.eq_nil), (hsrt.and hnd).imp fun ⟨a, b⟩ => by
    have := of_decide_eq_true a
    omega, fun d hd => h.2.2 d (hm.subset hd)⟩
  refine ⟨l', ok, hm, sorted_dg ok (hp.trans ?_) hs⟩
  rw [dgS_cps, dgS_cps, List.map_map, List.map_map]
  exact hm.symm.map _
def sp_law_true_fact (K : PySem.W.Frag) : Sp := Pr (ι := (Addr × Addr) × Addr × Mtr × List Nat) (fun x => [.ref x.1.1, .ref x.2.1, .str (dgS x.2.2.2)]) (fun g x S => g = some x.1 ∧ PlainAt S x.2.1 x.2.2.1 ∧ x.2.2.1.Ok ∧ (∀ d ∈ x.2.2.2, d ≤ 9) ∧ 1 ≤ x.2.2.2.length ∧ x.2.2.2.length ≤ 24) (fun x _ v S => ∃ q f, v = .ref q ∧ S q = some (.tup f.vs) ∧ f.Ok x.2.2.2.length ∧ x.2.2.1.told x.2.2.2 f = true)
theorem c_law_true_fact (T : Txt K mg) : C8.Cal P w K mg base 4 "_law_true_fact" (sp_law_true_fact K) [] := mk_law_true_fact T (pr_len (ps := ["_law_bag_here", "_law_plain", "_law_trip"]) fun _ => rfl) (Bd.bs fun cdv A outer s H Q E hr => by
  have hu := hu_of hr
  have nd := sc_law_true_fact.nd
  refine ⟨_, (pss_cons (ps_set (i := 3) nd rfl (by first | exact .inl rfl | exact .inr rfl) (pe_callB call_len_str rfl (T.free 51 rfl) bt_len (pa_cons (pv 2) pa_nil)))
      (pss_cons (ps_set (i := 4) nd rfl (by first | exact .inl rfl | exact .inr rfl) (C8.pe_c (c_law_counts (K := K) T) hr (by decide) rfl (pa_cons (pv 1) (pa_cons (pv 2) pa_nil))))
      (pss_cons (ps_set (i := 5) nd rfl (by first | exact .inl rfl | exact .inr rfl) (C8.pe_c (c_law_draw (K := K) T) hr (by decide) rfl (pa_cons (pv 0) (pa_cons pe_int pa_nil))))
      (pss_cons (ps_set (i := 6) nd rfl (by first | exact .inl rfl | exact .inr rfl) (C8.pe_c (c_law_draw (K := K) T) hr (by decide) rfl (pa_cons (pv 0) (pa_cons (pe_op op_add (pv 3) pe_int) pa_nil))))
      (pss_cons (ps_if (PW.pt (pw_or (pt_cmpR op_eq (pv 3) pe_int (nomark _)) (pw_or1 (pt_cmpR op_eq (pv 5) pe_int (nomark _))))) (pss_one (ps_ret (pe_tup (pa_cons pe_str (pa_cons (pv 6) (pa_cons (pe_callB (cbSum (K := K) rfl rfl) rfl (T.free 57 rfl) bt_sum (pa_cons (pe_lc (own := [("_law_digit", 9)]) (g := gName 9) (tt := tYes) rfl nd (pi_str (pe_slice C8.sl_txt (pv 2) po_none (po_some (pv 6)))) (blkOk_by (own := [("_law_digit", 9)]) (N := N_law_true_fact) (sc := d_law_true_fact.scope) (by decide +kernel)) (fun _ _ _ _ _ => (pg_name (i := 9) nd rfl (by first | exact .inl rfl | exact .inr rfl))) (fun _ _ _ _ _ => pts_nil) (fun _ _ _ _ _ => (pe_callTy call_int_str rfl (T.free 59 rfl) bt_int (pa_cons (pv 9) pa_nil)))) pa_nil)) pa_nil)))))) pss_nil)
      (pss_cons (ps_if (pt_cmpR op_eq (pv 5) pe_int (nomark _)) (pss_one (ps_ret (pe_tup (pa_cons pe_str (pa_cons (pv 6) (pa_cons (pe_op op_add (pe_ix (ixT (K := K) rfl) (pv 1) pe_int (fun _ _ => rfl)) (pe_op op_mul (pe_ix (ixT (K := K) rfl) (pv 1) pe_int (fun _ _ => rfl)) (C8.pe_c (c_law_jumps_at (K := K) T) hr (by decide) rfl (pa_cons (pv 1) (pa_cons (pe_ix (ixL (K := K) rfl) (pv 4) (pv 6) (fun _ _ => rfl)) pa_nil))))) pa_nil)))))) pss_nil)
      (pss_cons (ps_set (i := 7) nd rfl (by first | exact .inl rfl | exact .inr rfl) (C8.pe_c (c_law_draw (K := K) T) hr (by decide) rfl (pa_cons (pv 0) (pa_cons (pv 3) pa_nil))))
      (pss_cons (ps_if (pt_cmpR op_eq (pv 5) pe_int (nomark _)) (pss_one (ps_ret (pe_tup (pa_cons pe_str (pa_cons (pv 7) (pa_cons (pe_cmpR op_gt (C8.pe_c (c_law_jumps_at (K := K) T) hr (by decide) rfl (pa_cons (pv 1) (pa_cons (pe_ix (ixL (K := K) rfl) (pv 4) (pe_op op_add (pv 7) pe_int) (fun _ _ => rfl)) pa_nil))) (C8.pe_c (c_law_jumps_at (K := K) T) hr (by decide) rfl (pa_cons (pv 1) (pa_cons (pe_ix (ixL (K := K) rfl) (pv 4) (pv 7) (fun _ _ => rfl)) pa_nil))) (nomark _)) pa_nil)))))) pss_nil)
      (pss_cons (ps_set (i := 8) nd rfl (by first | exact .inl rfl | exact .inr rfl) (C8.pe_c (c_law_digits (K := K) T) hr (by decide) rfl (pa_cons (pv 0) pa_nil)))
      (pss_cons (ps_if (pt_cmpR op_notIn_sign (pe_ix ix_str (pv 2) (pv 7) (fun _ _ => rfl)) (pv 8) rfl) (pss_one (ps_set (i := 8) nd rfl (by first | exact .inl rfl | exact .inr rfl) (pe_op op_add_str (pv 8) (pe_ix ix_str (pv 2) (pv 7) (fun _ _ => rfl))))) pss_nil)
      (pss_one (ps_ret (pe_tup (pa_cons pe_str (pa_cons (pv 7) (pa_cons (peJoin (K := K) rfl pe_str (pe_callB (call_sortedTxt rfl) rfl (T.free 62 rfl) bt_sorted (pa_cons (pv 8) pa_nil))) pa_nil)))))))))))))))), fun g S0 x hp hQ => ?_⟩
  obtain ⟨⟨b, l⟩, p, M, tr⟩ := x
  obtain ⟨hg, hp, ok, hd, hn1, hn24⟩ := hp
  dsimp only at hp ok hd hn1 hn24
  have hg : (⟨g, S0, H⟩ : Ct).g = some (b, l) := hg
  show G ⟨g, S0, H⟩ _ (start N_law_true_fact [.ref b, .ref p, .str (dgS tr)]) [] S0
  refine gs_asgI (v := .int (tr.length : Nat)) (w_cb (w_cons (w_var rfl) w_nil) ((w_lenS (by rw [dgS_len]; omega)).is (by rw [dgS_len]))) ?_
  refine gs_asg (w_c0 (w_cons (w_var rfl) (w_cons (w_var rfl) w_nil)) (v_lcounts hp ok hd (by omega))) fun v S1 e1 ⟨cq, ev, hcq⟩ => ?_
  subst ev
  refine gs_asg (w_c0 (w_cons (w_var rfl) (w_cons w_c w_nil)) (v_draw (sz := 4) hg (by decide))) fun v S2 e2 ⟨ch, ev, hch⟩ => ?_
  subst ev
  refine gs_asg (w_c0 (w_cons (w_var rfl) (w_cons (w_op (w_var rfl) w_c w_rI0) w_nil)) (v_draw (sz := (tr.length : Nat) + 1) hg (by omega))) fun v S3 e3 ⟨m, ev, hm⟩ => ?_
  subst ev
  have e13 := e2.trans e3
  have e03 := e1.trans e13
  have hm : m ≤ tr.length := by omega
  have htk : ∀ i, ∀ d ∈ tr.take i, d ≤ 9 := fun i d h => hd d (List.mem_of_mem_take h)
  have hcnt : ∀ {S : Hp} {i : Nat}, Ex S1 S → i ≤ tr.length → ∀ {σ : L2.St} {ti : TE}, σ[4]? = some (some (V.ref cq)) → W g (ti σ) S (Is (V.int (i : Nat))) → W g (tOp (rIxL K) (tVar 4) ti σ) S (Is (.int (M.pl (tr.take i)).1)) := fun {S i} e hi {σ ti} h4 hw => w_op (w_var h4) hw (w_ixL (sq_of (e _ _ hcq)) (at_map (cnts_at hi)))
  refine gs_ifN (b := decide (((tr.length : Nat) : Int) = 0) || decide ((ch : Int) = 0)) (w_orU (w_test (w_op (w_var rfl) w_c w_eqI)) (w_test (w_op (w_var rfl) w_c w_eqI))) (fun _ => ?_) fun _ => ?_
  · refine g_weak e03 (.refl _) (g_retP (w_tupO (xs := (Fact.passed m ((tr.take m).map fun d => ((d : Nat) : Int)).sum).vs) (w_cons w_c (w_cons (w_var rfl) (w_cons (w_sumLc (ys := tr.take m) (h := fun d => V.str (dg1 d)) (f := fun d => ((d : Nat) : Int)) (w_iDg ((w_sl (w_var rfl) w_po0 (w_po1 (w_var rfl)) (w_slS (by rw [dgS_len]; omega))).is (by rw [slice_take]))) (by rw [List.length_take]; omega) fun i d S hi e => ⟨_, tg_name, rfl, w_cb (w_cons (w_var rfl) w_nil) (w_intS (int_dg d (htk m d (List.mem_of_getElem? hi))) (show 1 ≤ 640 by decide))⟩) w_nil))) (show 3 ≤ 1000 by decide)) hQ fun v S e ⟨q, ev, _, hq⟩ => ⟨q, _, ev, hq, ⟨hm, way_pos _⟩, decide_eq_true pl_way.symm⟩)
  refine gs_ifN (b := decide ((ch : Int) = 1)) (w_test (w_op (w_var rfl) w_c w_eqI)) (fun _ => ?_) fun _ => ?_
  · obtain ⟨pt, pu, qs, h1, _⟩ := hp.mono e03
    have he := ok.e1
    exact g_weak e03 (.refl _) (g_retP (w_tupO (xs := (Fact.showed m (M.priceAt (M.pl (tr.take m)).1)).vs) (w_cons w_c (w_cons (w_var rfl) (w_cons (w_op (w_op (w_var rfl) w_c (w_ixT (v := .int M.flag) (st_of h1) rfl)) (w_op (w_op (w_var rfl) w_c (w_ixT (v := .int M.each) (st_of h1) rfl)) (w_c0 (w_cons (w_var rfl) (w_cons (hcnt e13 hm rfl (w_var rfl)) w_nil)) (v_ljumps (hp.mono e03) ok)) (w_rI (.inl ⟨by omega, by omega⟩))) w_rI0) w_nil))) (show 3 ≤ 1000 by decide)) hQ fun v S e ⟨q, ev, _, hq⟩ => ⟨q, _, ev, hq, ⟨hm, price_pos ok (pl_pos ok (htk m))⟩, decide_eq_true rfl⟩)
  refine gs_asg (w_c0 (w_cons (w_var rfl) (w_cons (w_var rfl) w_nil)) (v_draw (sz := (tr.length : Nat)) hg (by omega))) fun v S4 e4 ⟨t, ev, ht⟩ => ?_
  subst ev
  have ht : t < tr.length := by omega
  have e04 := e03.trans e4
  refine gs_ifN (b := decide ((ch : Int) = 2)) (w_test (w_op (w_var rfl) w_c w_eqI)) (fun _ => ?_) fun _ => ?_
  · refine g_weak e04 (.refl _) (g_retP (w_tupO (xs := (Fact.jumped t (decide (M.jumpsAt (M.pl (tr.take (t + 1))).1 > M.jumpsAt (M.pl (tr.take t)).1))).vs) (w_cons w_c (w_cons (w_var rfl) (w_cons (w_op (w_c0 (w_cons (w_var rfl) (w_cons (hcnt (i := t + 1) (e13.trans e4) ht rfl (w_op (w_var rfl) w_c w_rI0)) w_nil)) (v_ljumps (hp.mono e04) ok)) (w_c0 (w_cons (w_var rfl) (w_cons (hcnt (e13.trans e4) (Nat.le_of_lt ht) rfl (w_var rfl)) w_nil)) (v_ljumps (hp.mono e04) ok)) w_rI0) w_nil))) (show 3 ≤ 1000 by decide)) hQ fun v S e ⟨q, ev, _, hq⟩ => ⟨q, _, ev, hq, ht, ?_⟩)
    show (decide _ == decide _) = true
    rw [beq_iff_eq]
  obtain ⟨d, hdt⟩ : ∃ d, tr[t]? = some d := ⟨_, List.getElem?_eq_getElem ht⟩
  have hd9 := hd d (List.mem_of_getElem? hdt)
  have hgd : tr.getD t 0 = d := by rw [List.getD_eq_getElem?_getD, hdt]; rfl
  have hix : ∀ {S : Hp} {σ : L2.St}, σ[2]? = some (some (V.str (dgS tr))) → σ[7]? = some (some (V.int (t : Nat))) → W g (tOp rIxS (tVar 2) (tVar 7) σ) S (Is (.str (dg1 d))) := fun h2 h7 => w_op (w_var h2) (w_var h7) (w_ixS (by rw [dgS_len]; omega) (dgS_at hdt))
  refine gs_asg (w_c0 (w_cons (w_var rfl) w_nil) (show SpW g (sp_law_digits K) [.ref b] S4 (fun v _ => ∃ l, v = .str (dgS l) ∧ DgOk l) from w_pr (b, l) (fun _ _ => hg) fun _ _ _ _ _ h => h)) fun v S5 e5 ⟨l1, ev, hl1⟩ => ?_
  subst ev
  have hfew := DgOk.few hl1.2.1 hl1.2.2
  refine gs_ifJ (R := fun σ _ => ∃ l2 : List Nat, σ = [some (.ref b), some (.ref p), some (.str (dgS tr)), some (.int (tr.length : Nat)), some (.ref cq), some (.int ch), some (.int m), some (.int t), some (.str (dgS l2)), none] ∧ DgOk l2 ∧ d ∈ l2) (b := !decide (d ∈ l1)) (w_test (w_op (hix rfl rfl) (w_var rfl) (w_notInSign.is (by rw [dg_in])))) (fun σ' S6 e6 ⟨l2, es, hl2, hin⟩ => ?_) (fun hb => ⟨l1, rfl, hl1, by simpa using hb⟩) fun hb k => ?_
  · subst es
    have hfew2 := DgOk.few hl2.2.1 hl2.2.2
    refine g_weak ((e04.trans e5).trans e6) (.refl _) (g_retP (R := fun v S => ∃ q l3, v = .ref q ∧ S q = some (.tup (Fact.speeds t l3).vs) ∧ SpdOk l3 ∧ d ∈ l3) (w_tupR (Ra := fun xs _ => ∃ l3, xs = (Fact.speeds t l3).vs ∧ SpdOk l3 ∧ d ∈ l3) (w_consR (w_c : W _ _ _ (Is (V.str "speeds"))) fun v S e ev => w_consR (w_var rfl : W _ _ _ (Is (V.int (t : Nat)))) fun v2 S2 e2 ev2 => w_consR (Ra := fun v _ => ∃ l3, v = .str (dgS l3) ∧ SpdOk l3 ∧ d ∈ l3) (w_m1R w_c (Ra := fun v S => ∃ p l3, v = .ref p ∧ S p = some (.lst ((l3.map dg1).map V.str)) ∧ SpdOk l3 ∧ d ∈ l3) (w_cb (w_cons (w_var rfl) w_nil) (w_sortedTxt (by rw [dgS_len]; omega) fun ss p S h1 h2 h3 => by
        obtain ⟨l3, ok3, hp3, es⟩ := sorted_ok hl2 h1 h2
        exact ⟨p, l3, rfl, by rw [h3, es], ok3, hp3.mem_iff.mpr hin⟩)) fun y S e ⟨p, l3, ey, hp3, ok3, hi3⟩ => by
          subst ey
          exact (w_joinDg hp3 (by have := ok3.few; omega)).imp fun v S' e' ev => ⟨l3, ev, ok3, hi3⟩) fun v3 S3 e3 ⟨l3, ev3, ok3, hi3⟩ => w_nilR fun S4 e4 => ⟨l3, by rw [ev, ev2, ev3]; rfl, ok3, hi3⟩) fun xs S e ⟨l3, ex, ok3, hi3⟩ => ⟨by rw [ex]; exact (by decide : 3 ≤ 1000), fun p hp => ⟨p, l3, rfl, by rw [upd_same, ex], ok3, hi3⟩⟩) hQ fun v S e ⟨q, l3, ev, hq, ok3, hi3⟩ => ⟨q, .speeds t l3, ev, hq, ⟨ht, ok3⟩, decide_eq_true (by rw [hgd]; exact hi3)⟩)
  · refine g_asgI (v := .str (dgS (l1 ++ [d]))) (w_op (w_var rfl) (hix rfl rfl) ((w_addS (by rw [dgS_len]; show l1.length + 1 ≤ _; omega)).is (by rw [dgS_cat]))) (k _ _ (.refl _) ⟨l1 ++ [d], rfl, ⟨by simp, ?_, fun x hx => ?_⟩, by simp⟩)
    · rw [List.nodup_append]
      refine ⟨hl1.2.1, by simp, fun x hx y hy e => ?_⟩
      rw [List.mem_singleton.mp hy] at e
      rw [e] at hx
      simp [hx] at hb
    · rcases List.mem_append.mp hx with z | z
      · exact hl1.2.2 x z
      · rw [List.mem_singleton.mp z]; exact hd9)

theorem v_true_fact {b l p : Addr} {M : Mtr} {tr : List Nat} (hg : g = some (b, l)) (hp : PlainAt S p M) (ok : M.Ok) (hd : ∀ d ∈ tr, d ≤ 9) (hn : 1 ≤ tr.length ∧ tr.length ≤ 24) : SpW g (sp_law_true_fact K) [.ref b, .ref p, .str (dgS tr)] S (fun v S' => ∃ q f, v = .ref q ∧ S' q = some (.tup f.vs) ∧ f.Ok tr.length ∧ M.told tr f = true) := w_pr ((b, l), p, M, tr) (fun _ e => ⟨hg, hp.mono e, ok, hd, hn.1, hn.2⟩) fun _ _ _ _ _ h => h
end
end Cm

/-! ## M5 -/
set_option maxHeartbeats 4000000
/-! The mathematics: fewer facts, more trips; kept facts; clashes; the best look. -/
namespace Cm
open PySem PySem.Spec PyProof.Rows L2 Evl
namespace Mtr
variable {M : Mtr} {top n : Nat} {fs gs : List Fact}
theorem tot_mono (h : ∀ f ∈ gs, f ∈ fs) : M.tot top n fs ≤ M.tot top n gs := S1_le fun w _ => by
  cases z : fs.all (M.told w) with
  | true =>
    rw [if_pos rfl, if_pos (List.all_eq_true.mpr fun f hf => List.all_eq_true.mp z f (h f hf))]
    exact Int.le_refl _
  | false =>
    rw [if_neg (by decide)]
    split <;> decide
theorem tot_pos : 0 ≤ M.tot top n fs := S1_pos fun w _ => by split <;> decide
theorem tot_good {w : List Nat} (hw : w ∈ trips top n) (h : fs.all (M.told w) = true) : 0 < M.tot top n fs := by
  have := S1_in (f := fun w => if fs.all (M.told w) = true then (1 : Int) else 0) (fun x _ => by split <;> decide) hw
  rw [if_pos h] at this
  exact Int.lt_of_lt_of_le (by decide) this
theorem trips_len : ∀ k : Nat, ((trips top k).length : Int) = ((top + 1) ^ k : Nat)
  | 0 => rfl
  | k + 1 => by
    rw [← S1_len, trips_succ]
    have h : ∀ d ∈ List.range (top + 1), (S1 (trips top k) fun w => (1 : Int)) = ((top + 1) ^ k : Nat) := fun d _ => by rw [S1_len, trips_len k]
    rw [S1_congr h]
    have e : (S1 (List.range (top + 1)) fun _ => (((top + 1) ^ k : Nat) : Int)) = S1 (List.range (top + 1)) fun x => (((top + 1) ^ k : Nat) : Int) * 1 := S1_congr fun x _ => (Int.mul_one _).symm
    rw [e, S1_mul, S1_len, List.length_range, Nat.pow_succ]
    exact (Int.natCast_mul _ _).symm
theorem tot_nil : M.tot top n [] = ((top + 1) ^ n : Nat) := by
  rw [← trips_len n, ← S1_len]
  exact S1_congr fun w _ => if_pos rfl
theorem tot_zero {t : Nat} {a b : Int} (h1 : Fact.passed t a ∈ fs) (h2 : Fact.passed t b ∈ fs) (h : a ≠ b) : M.tot top n fs = 0 := S1_none fun w _ => by
  refine if_neg fun z => h ?_
  have z := List.all_eq_true.mp z
  have a1 := of_decide_eq_true (z _ h1)
  have a2 := of_decide_eq_true (z _ h2)
  exact a1.trans a2.symm
end Mtr
namespace Rec
variable {R : Rec}
theorem pick_eq {ns : List Nat} : (R.pick ns).M = R.M ∧ (R.pick ns).top = R.top ∧ (R.pick ns).n = R.n := ⟨rfl, rfl, rfl⟩
theorem pick_tot (ok : R.Ok) {ns : List Nat} (h : ns.length ≤ 10) : (R.pick ns).howMany = R.M.tot R.top R.n (ns.filterMap fun k => R.fs[k]?) := howMany_tot (pick_ok ok h)
theorem pick_mono (ok : R.Ok) {ns ms : List Nat} (h1 : ns.length ≤ 10) (h2 : ms.length ≤ 10) (h : ∀ k ∈ ns, k ∈ ms) : (R.pick ms).howMany ≤ (R.pick ns).howMany := by
  rw [pick_tot ok h1, pick_tot ok h2]
  refine Mtr.tot_mono fun f hf => ?_
  obtain ⟨k, hk, e⟩ := List.mem_filterMap.mp hf
  exact List.mem_filterMap.mpr ⟨k, h k hk, e⟩
theorem range_get {α : Type} : ∀ L : List α, ((List.range L.length).filterMap fun k => L[k]?) = L
  | [] => rfl
  | a :: L => by
    rw [List.length_cons, List.range_succ_eq_map, List.filterMap_cons]
    show a :: List.filterMap _ _ = _
    rw [List.filterMap_map]
    congr 1
    exact range_get L
theorem pick_all : R.pick (List.range R.fs.length) = R := by
  unfold pick
  rw [range_get]
theorem how_pos (ok : R.Ok) : 0 ≤ R.howMany := by
  rw [howMany_tot ok]
  exact Mtr.tot_pos
/-! ### kept facts -/
theorem others_sub {ns : List Nat} {k : Nat} : ∀ x ∈ othersOf ns k, x ∈ ns := fun x hx => (List.mem_filter.mp hx).1
theorem kept_inv (ok : R.Ok) : ∀ (ks kept : List Nat), kept.length ≤ 10 → (R.pick kept).howMany = R.howMany → (∀ k ∈ kept, k ∈ ks ∨ R.howMany < (R.pick (othersOf kept k)).howMany) →
    (R.pick (R.keptOn ks kept)).howMany = R.howMany ∧ (∀ k ∈ R.keptOn ks kept, k ∈ kept ∧ R.howMany < (R.pick (othersOf (R.keptOn ks kept) k)).howMany) ∧ (R.keptOn ks kept).length ≤ kept.length
  | [], kept, hl, h1, h2 => ⟨h1, fun k hk => ⟨hk, (h2 k hk).resolve_left fun z => by cases z⟩, Nat.le_refl _⟩
  | j :: ks, kept, hl, h1, h2 => by
    have step : R.keptOn (j :: ks) kept = R.keptOn ks (if (R.pick (othersOf kept j)).howMany = R.howMany then othersOf kept j else kept) := rfl
    rw [step]
    have ol : (othersOf kept j).length ≤ 10 := Nat.le_trans others_len hl
    by_cases z : (R.pick (othersOf kept j)).howMany = R.howMany
    · rw [if_pos z]
      obtain ⟨a, b, c⟩ := kept_inv ok ks (othersOf kept j) ol z fun k hk => by
        have hkk := others_sub k hk
        rcases h2 k hkk with y | y
        · rcases List.mem_cons.mp y with e | e
          · have := (List.mem_filter.mp hk).2
            rw [e] at this
            simp at this
          · exact .inl e
        · right
          refine Int.lt_of_lt_of_le y (pick_mono ok (Nat.le_trans others_len ol) (Nat.le_trans others_len hl) fun x hx => ?_)
          obtain ⟨m1, m2⟩ := List.mem_filter.mp hx
          exact List.mem_filter.mpr ⟨others_sub x m1, m2⟩
      exact ⟨a, fun k hk => ⟨others_sub k (b k hk).1, (b k hk).2⟩, Nat.le_trans c others_len⟩
    · rw [if_neg z]
      refine kept_inv ok ks kept hl h1 fun k hk => ?_
      rcases h2 k hk with y | y
      · rcases List.mem_cons.mp y with e | e
        · right
          subst e
          have := pick_mono ok ol hl (others_sub (ns := kept) (k := k))
          rw [h1] at this
          omega
        · exact .inl e
      · exact .inr y
theorem kept_ok (ok : R.Ok) : (R.pick R.kept).howMany = R.howMany ∧ (∀ k ∈ R.kept, k < R.fs.length ∧ R.howMany < (R.pick (othersOf R.kept k)).howMany) ∧ R.kept.length ≤ 10 := by
  have hl : (List.range R.fs.length).length ≤ 10 := by rw [List.length_range]; exact ok.fl
  obtain ⟨a, b, c⟩ := kept_inv ok (List.range R.fs.length).reverse (List.range R.fs.length) hl (by rw [pick_all]) fun k hk => .inl (List.mem_reverse.mpr hk)
  exact ⟨a, fun k hk => ⟨List.mem_range.mp (b k hk).1, (b k hk).2⟩, Nat.le_trans c hl⟩
theorem needless_ok {k : Nat} (h : k ∈ R.needless) : k < R.fs.length ∧ (R.pick (othersOf (List.range R.fs.length) k)).howMany = R.howMany := by
  obtain ⟨h1, h2⟩ := List.mem_filter.mp h
  exact ⟨List.mem_range.mp h1, of_decide_eq_true h2⟩
/-! ### the best look -/
theorem bestOn_next {ls : List Lk} {l : Lk} : R.bestOn (ls ++ [l]) = match R.bestOn ls with
    | none => some (l, R.worst l)
    | some x => if R.worst l < x.2 then some (l, R.worst l) else some x := by
  unfold bestOn
  rw [List.foldl_append]
  rfl
theorem bestOn_spec : ∀ (n : Nat) (ls : List Lk), ls.length = n → ls ≠ [] → ∃ l m, R.bestOn ls = some (l, m) ∧ l ∈ ls ∧ m = R.worst l ∧ ∀ x ∈ ls, m ≤ R.worst x
  | 0, ls, hl, hne => absurd (List.eq_nil_of_length_eq_zero hl) hne
  | n + 1, ls, hl, hne => by
    obtain ⟨us, u, rfl⟩ : ∃ us u, ls = us ++ [u] := ⟨_, _, (List.dropLast_concat_getLast hne).symm⟩
    rw [bestOn_next]
    have hul : us.length = n := by rw [List.length_append, List.length_singleton] at hl; omega
    by_cases z : us = []
    · subst z
      exact ⟨u, R.worst u, rfl, by simp, rfl, fun x hx => by rw [List.nil_append] at hx; rw [List.mem_singleton.mp hx]; exact Int.le_refl _⟩
    · obtain ⟨l, m, h1, h2, h3, h4⟩ := bestOn_spec n us hul z
      rw [h1]
      by_cases y : R.worst u < m
      · refine ⟨u, R.worst u, if_pos y, by simp, rfl, fun x hx => ?_⟩
        rcases List.mem_append.mp hx with q | q
        · have := h4 x q; omega
        · rw [List.mem_singleton.mp q]; exact Int.le_refl _
      · refine ⟨l, m, if_neg y, List.mem_append_left _ h2, h3, fun x hx => ?_⟩
        rcases List.mem_append.mp hx with q | q
        · exact h4 x q
        · rw [List.mem_singleton.mp q]; omega
theorem looks_in {l : Lk} (h : R.LkOk l) : l ∈ R.looks := by
  obtain ⟨k, t⟩ := l
  unfold looks lks
  cases k with
  | speed => exact List.mem_append_left _ (List.mem_append_left _ (List.mem_map.mpr ⟨t, List.mem_range.mpr h, rfl⟩))
  | way => exact List.mem_append_left _ (List.mem_append_right _ (List.mem_map.mpr ⟨t, List.mem_range.mpr (Nat.lt_succ_of_le h), rfl⟩))
  | price => exact List.mem_append_right _ (List.mem_map.mpr ⟨t, List.mem_range.mpr (Nat.lt_succ_of_le h), rfl⟩)
theorem best_spec (hn : 1 ≤ R.n) : ∃ l m, R.best = some (l, m) ∧ R.LkOk l ∧ m = R.worst l ∧ ∀ x, R.LkOk x → m ≤ R.worst x := by
  obtain ⟨l, m, h1, h2, h3, h4⟩ := bestOn_spec R.looks.length R.looks rfl fun z => by
    have := looks_in (R := R) (l := (.way, 0)) (Nat.zero_le _)
    rw [z] at this
    cases this
  exact ⟨l, m, h1, looks_ok h2, h3, fun x hx => h4 x (looks_in hx)⟩
/-! ### clashes -/
theorem lists_all {many : Nat} : ∀ {s : Nat} {ns : List Nat}, ns.length = s → ns.Pairwise (· < ·) → (∀ k ∈ ns, k < many) → ns ∈ listsOf many s
  | 0, ns, hl, _, _ => by rw [List.eq_nil_of_length_eq_zero hl]; exact List.mem_singleton.mpr rfl
  | s + 1, ns, hl, hp, hm => by
    obtain ⟨us, u, rfl⟩ : ∃ us u, ns = us ++ [u] := ⟨_, _, (List.dropLast_concat_getLast fun z => by rw [z] at hl; cases hl).symm⟩
    have hp2 := List.pairwise_append.mp hp
    refine List.mem_flatMap.mpr ⟨us, lists_all (by rw [List.length_append, List.length_singleton] at hl; omega) hp2.1 fun k hk => hm k (List.mem_append_left _ hk), List.mem_map.mpr ⟨u, List.mem_filter.mpr ⟨List.mem_range.mpr (hm u (by simp)), ?_⟩, rfl⟩⟩
    by_cases z : us = []
    · rw [decide_eq_true z]; rfl
    · obtain ⟨vs, v, rfl⟩ : ∃ vs v, us = vs ++ [v] := ⟨_, _, (List.dropLast_concat_getLast z).symm⟩
      have : v < u := hp2.2.2 v (by simp) u (by simp)
      rw [List.getLast?_append, List.getLast?_singleton]
      show (_ || decide (v < u)) = true
      rw [decide_eq_true this, Bool.or_true]
theorem lists_asc {many : Nat} : ∀ {s : Nat} {ns : List Nat}, ns ∈ listsOf many s → ns.Pairwise (· < ·)
  | 0, ns, h => by rw [List.mem_singleton.mp h]; exact List.Pairwise.nil
  | s + 1, ns, h => by
    obtain ⟨us, hus, h2⟩ := List.mem_flatMap.mp h
    obtain ⟨u, hu, e⟩ := List.mem_map.mp h2
    subst e
    have ih := lists_asc hus
    refine List.pairwise_append.mpr ⟨ih, List.pairwise_singleton _ _, fun a ha b hb => ?_⟩
    rw [List.mem_singleton.mp hb]
    have hc := (List.mem_filter.mp hu).2
    obtain ⟨vs, v, rfl⟩ : ∃ vs v, us = vs ++ [v] := ⟨_, _, (List.dropLast_concat_getLast fun z => by rw [z] at ha; cases ha).symm⟩
    rw [List.getLast?_append, List.getLast?_singleton] at hc
    have hv : v < u := by
      have hc : (decide (vs ++ [v] = []) || decide (v < u)) = true := hc
      rw [decide_eq_false (by simp), Bool.false_or] at hc
      exact of_decide_eq_true hc
    rcases List.mem_append.mp ha with q | q
    · exact Nat.lt_trans ((List.pairwise_append.mp ih).2.2 a q v (by simp)) hv
    · rw [List.mem_singleton.mp q]; exact hv
theorem findSome_range {β : Type} {f : Nat → Option β} : ∀ m, (∃ k, k < m ∧ f k ≠ none) → ∃ k y, (List.range m).findSome? f = some y ∧ k < m ∧ f k = some y ∧ ∀ j, j < k → f j = none
  | 0, ⟨k, h, _⟩ => absurd h (Nat.not_lt_zero _)
  | m + 1, ⟨k, hk, hf⟩ => by
    rw [List.range_succ, List.findSome?_append]
    by_cases z : ∃ k, k < m ∧ f k ≠ none
    · obtain ⟨k, y, h1, h2, h3, h4⟩ := findSome_range m z
      exact ⟨k, y, by rw [h1]; rfl, by omega, h3, h4⟩
    · have hn : ∀ j, j < m → f j = none := fun j hj => Classical.byContradiction fun y => z ⟨j, hj, y⟩
      have hkm : k = m := Classical.byContradiction fun y => hf (hn k (by omega))
      subst hkm
      have e : (List.range k).findSome? f = none := List.findSome?_eq_none_iff.mpr fun j hj => hn j (List.mem_range.mp hj)
      cases q : f k with
      | none => exact absurd q hf
      | some y => exact ⟨k, y, by rw [e, List.findSome?_cons, q]; rfl, by omega, q, hn⟩
theorem others_one {x : Nat} : ∀ {ns : List Nat}, ns.Nodup → x ∈ ns → (othersOf ns x).length + 1 = ns.length
  | [], _, hx => by cases hx
  | a :: ns, hnd, hx => by
    have nd := List.nodup_cons.mp hnd
    unfold othersOf
    by_cases q : a = x
    · subst q
      rw [List.filter_cons_of_neg (by simp)]
      rw [List.filter_eq_self.mpr fun b hb => by
        have : b ≠ a := fun e => nd.1 (by rw [← e]; exact hb)
        simp [this]]
      rfl
    · rw [List.filter_cons_of_pos (by simp [q]), List.length_cons, List.length_cons]
      exact congrArg (· + 1) (others_one nd.2 ((List.mem_cons.mp hx).resolve_left fun e => q e.symm))
theorem clash_ok (ok : R.Ok) (h0 : R.howMany = 0) : ∃ ns, R.clash = some ns ∧ (R.pick ns).howMany = 0 ∧ (∀ k ∈ ns, k < R.fs.length) ∧ ns.length ≤ 10 ∧ ∀ k ∈ ns, 0 < (R.pick (othersOf ns k)).howMany := by
  have hfl := ok.fl
  have one : 0 < (R.pick []).howMany := by
    rw [pick_tot ok (by decide), List.filterMap_nil, Mtr.tot_nil]
    have := Nat.pow_pos (a := R.top + 1) (n := R.n) (by omega)
    omega
  have hpos : 0 < R.fs.length := Nat.pos_of_ne_zero fun z => by
    have e : R.pick (List.range R.fs.length) = R := pick_all
    rw [z] at e
    have e : R.pick [] = R := e
    rw [e, h0] at one
    exact absurd one (by decide)
  have full : R.clashAt (R.fs.length - 1) ≠ none := fun z => by
    have z := List.find?_eq_none.mp z
    rw [show R.fs.length - 1 + 1 = R.fs.length by omega] at z
    refine z (List.range R.fs.length) (lists_all (by rw [List.length_range]) List.pairwise_lt_range fun k hk => List.mem_range.mp hk) ?_
    rw [pick_all]
    exact decide_eq_true h0
  obtain ⟨k, ns, h1, h2, h3, h4⟩ := findSome_range (f := R.clashAt) R.fs.length ⟨R.fs.length - 1, by omega, full⟩
  have hm := List.mem_of_find?_eq_some h3
  have hz := List.find?_some h3
  obtain ⟨hl, hlt⟩ := lists_in (k + 1) ns hm
  have hasc := lists_asc hm
  refine ⟨ns, by unfold clash; rw [if_neg (by omega)]; exact h1, of_decide_eq_true hz, hlt, by omega, fun x hx => ?_⟩
  have hol : (othersOf ns x).length = k := by
    have hnd : ns.Nodup := hasc.imp fun h => Nat.ne_of_lt h
    have := others_one hnd hx
    omega
  have hle : (othersOf ns x).length ≤ 10 := by omega
  have hnz : (R.pick (othersOf ns x)).howMany ≠ 0 := fun z => by
    cases k with
    | zero =>
      rw [List.eq_nil_of_length_eq_zero hol] at z
      rw [z] at one
      exact absurd one (by decide)
    | succ k =>
      have h5 := List.find?_eq_none.mp (h4 k (Nat.lt_succ_self k)) (othersOf ns x) (lists_all hol (hasc.sublist List.filter_sublist) fun y hy => hlt y (others_sub y hy))
      exact h5 (decide_eq_true z)
  have := how_pos (pick_ok ok hle)
  omega
end Rec
end Cm

/-! ## E27 -/
set_option maxHeartbeats 4000000
/-! The law: kept facts, clashes. -/
namespace Cm
open PySem PySem.Spec PyProof.Rows L2 Evl
local macro_rules | `(tactic| walk_at "w") => `(tactic| first
  | exact w_c
  | ((refine w_var ?_); rfl)
  | exact w_nil
  | ((refine w_cons (x := ?x) (xs := ?xs) ?h1 ?h2); (case h1 => walk_at "w"); (case h2 => walk_at "w"))
  | ((refine w_op (x := ?x) (y := ?y) ?h1 ?h2 ?h3); (case h1 => walk_at "w"); (case h2 => walk_at "w"); (case h3 => walk_at "w"))
  | exact w_rI0
  | exact w_rU
  | ((refine w_un (x := ?x) ?h1 ?h2); (case h1 => walk_at "w"); (case h2 => walk_at "w"))
  | ((refine w_rEq ?_); rfl)
  | ((refine w_rNe ?_); rfl)
  | ((refine w_test (b := ?b) ?h1); (case h1 => walk_at "w"))
  | ((refine w_tB (b := ?b) ?h1); (case h1 => walk_at "w"))
  | ((refine w_not (a := ?a) ?h1); (case h1 => walk_at "w"))
  | ((refine w_orU (a := ?a) (b := ?b) ?h1 ?h2); (case h1 => walk_at "w"); (case h2 => walk_at "w"))
  | ((refine w_andU (a := ?a) (b := ?b) ?h1 ?h2); (case h1 => walk_at "w"); (case h2 => walk_at "w"))
  | ((refine w_notV (a := ?a) ?h1); (case h1 => walk_at "w"))
  | ((refine w_orVU (a := ?a) (b := ?b) ?h1 ?h2); (case h1 => walk_at "w"); (case h2 => walk_at "w"))
  | ((refine w_andVU (a := ?a) (b := ?b) ?h1 ?h2); (case h1 => walk_at "w"); (case h2 => walk_at "w"))
  | ((refine w_chain1 (x := ?x) (y := ?y) (z := ?z) (p := ?p) (q := ?q) ?h1 ?h2 ?h3 ?h4 ?h5); (case h1 => walk_at "w"); (case h2 => walk_at "w"); (case h3 => walk_at "w"); (case h4 => walk_at "w"); (case h5 => walk_at "w"))
  | exact w_isN
  | exact w_max2
  | exact w_min2
  | exact w_int1
  | exact w_abs
  | (refine w_rI ?_; decide)
  | assumption)

section
variable {P : Program} {w : World} {K : PySem.W.Frag} {mg : Str → Option Value} {base : Heap} {g : Bg} {S : Hp}
theorem v_kept {r : Addr} {R : Rec} (h : RecAt K S r R) (ok : R.Ok) : SpW g (sp_kept_facts K) [.ref r] S (fun v S' => ∃ q, v = .ref q ∧ S' q = some (.lst (natsV R.kept))) := w_pr (r, R) (fun _ e => ⟨h.mono e, ok⟩) fun _ _ _ _ _ h => h
theorem v_needless {r : Addr} {R : Rec} (h : RecAt K S r R) (ok : R.Ok) : SpW g (sp_needless_facts K) [.ref r] S (fun v S' => ∃ q, v = .ref q ∧ S' q = some (.lst (natsV R.needless))) := w_pr (r, R) (fun _ e => ⟨h.mono e, ok⟩) fun _ _ _ _ _ h => h
theorem ne_nat {a b : Nat} : (!decide ((a : Int) = b)) = !decide (a = b) := by
  by_cases h : a = b
  · rw [decide_eq_true h, decide_eq_true (by rw [h])]
  · rw [decide_eq_false h, decide_eq_false (by omega)]
/-- [other for other in a list if other != n] -/
theorem w_othLc {σ : L2.St} {i j k : Nat} {p : Addr} {ns : List Nat} {n : Nat} {vs : List Nat} (hp : S p = some (.lst (natsV ns))) (hl : ns.length ≤ 100) (hi : σ[i]? = some (some (V.ref p))) (hj : ∀ x, wipe ((wipe σ vs).set j (some x)) vs = wipe σ vs) (hx : ∀ x, ((wipe σ vs).set j (some x))[j]? = some (some x)) (hk : ∀ x, ((wipe σ vs).set j (some x))[k]? = some (some (V.int (n : Nat)))) :
    W g (tLc (iList K (tVar i)) (gName j) (tTest (tOp rNe (tVar j) (tVar k))) (tVar j) vs σ) S (NewO S (.lst (natsV (othersOf ns n)))) :=
  w_lcF (ys := ns) (h := fun (n : Nat) => V.int (n : Int)) (f := fun (n : Nat) => V.int (n : Int)) (p := fun k => !decide (k = n)) (w_iL (w_var hi) (sq_of hp)) (by omega) fun i m S hm e => ⟨_, tg_name, hj _, w_test (w_op (w_var (hx _)) (w_var (hk _)) (w_neI.is (by rw [ne_nat]))), fun _ => w_var (hx _)⟩
/-- record_of(record, a new list).how_many() -/
theorem w_howNew {σ : L2.St} {r : Addr} {R : Rec} {ns : List Nat} {E E2 : XK} {t2 : TE} {i : Nat} (h : RecAt K S r R) (ok : R.Ok) (hi : σ[i]? = some (some (V.ref r))) (ht : ∀ S', Ex S S' → W g (t2 σ) S' (NewO S' (.lst (natsV ns)))) (hk : ∀ k ∈ ns, k < R.fs.length) (hl : ns.length ≤ 10) :
    W g (tMeth (CR K) "how_many" (sp_Record_how_many K) [] E (tCall (sp_record_of K) [] E2 (tCons (tVar i) (tCons t2 tNil))) tNil σ) S (Is (.int (R.pick ns).howMany)) :=
  w_howPick h ok (w_consR (w_var hi) fun v S1 e1 ev => w_consR (ht S1 e1) fun v2 S2 e2 ⟨q, ev2, _, hq⟩ => w_nilR fun S3 e3 => ⟨q, by rw [ev, ev2], e3 _ _ hq⟩) hk hl
/-- .. a list that is known -/
theorem w_howKn {σ : L2.St} {r p : Addr} {R : Rec} {ns : List Nat} {E E2 : XK} {i j : Nat} (h : RecAt K S r R) (ok : R.Ok) (hi : σ[i]? = some (some (V.ref r))) (hj : σ[j]? = some (some (V.ref p))) (hp : S p = some (.lst (natsV ns))) (hk : ∀ k ∈ ns, k < R.fs.length) (hl : ns.length ≤ 10) :
    W g (tMeth (CR K) "how_many" (sp_Record_how_many K) [] E (tCall (sp_record_of K) [] E2 (tCons (tVar i) (tCons (tVar j) tNil))) tNil σ) S (Is (.int (R.pick ns).howMany)) :=
  w_howPick h ok (w_consR (w_var hi) fun v S1 e1 ev => w_consR (w_var hj) fun v2 S2 e2 ev2 => w_nilR fun S3 e3 => ⟨p, by rw [ev, ev2], e3 _ _ (e2 _ _ (e1 _ _ hp))⟩) hk hl
theorem nat_at {ns : List Nat} {i : Nat} {z : V} (hz : (natsV ns)[i]? = some z) : ∃ k, ns[i]? = some k ∧ z = .int (k : Nat) := by
  rw [List.getElem?_map] at hz
  cases q : ns[i]? with
  | none => rw [q] at hz; cases hz
  | some k => rw [q] at hz; exact ⟨k, rfl, (Option.some.inj hz).symm⟩
def sp_law_kept_right (K : PySem.W.Frag) : Sp := Pr (ι := Addr × Rec) (fun x => [.ref x.1]) (fun _ x S => RecAt K S x.1 x.2 ∧ x.2.Ok) (fun _ _ v _ => v = .bl true)
theorem c_law_kept_right (T : Txt K mg) : C8.Cal P w K mg base 11 "_law_kept_right" (sp_law_kept_right K) [] := mk_law_kept_right T (pr_len (ps := ["_law_record"]) fun _ => rfl) (Bd.bs fun cdv A outer s H Q E hr => by
  have hu := hu_of hr
  have nd := sc_law_kept_right.nd
  refine ⟨_, (pss_cons (ps_set (i := 1) nd rfl (by first | exact .inl rfl | exact .inr rfl) (C8.pe_c (c_kept_facts (K := K) T) hr (by decide) rfl (pa_cons (pv 0) pa_nil)))
      (pss_cons (ps_set (i := 2) nd rfl (by first | exact .inl rfl | exact .inr rfl) (C8.pe_mt0 (m_Record_how_many (K := K) T) hr (by decide) (pv 0)))
      (pss_cons (ps_if (PW.pt (pw_or (pt_cmpR op_ne (C8.pe_mt0 (m_Record_how_many (K := K) T) hr (by decide) (C8.pe_c (c_record_of (K := K) T) hr (by decide) rfl (pa_cons (pv 0) (pa_cons (pv 1) pa_nil)))) (pv 2) (nomark _)) (pw_or1 (pt_not (pt_val (pe_callB (cbAll (K := K) rfl rfl) rfl (T.free 50 rfl) bt_all (pa_cons (pe_lc (own := [("_law_number", 3)]) (g := gName 3) (tt := tYes) rfl nd (piL (K := K) rfl (pv 1)) (blkOk_by (own := [("_law_number", 3)]) (N := N_law_kept_right) (sc := d_law_kept_right.scope) (by decide +kernel)) (fun _ _ _ _ _ => (pg_name (i := 3) nd rfl (by first | exact .inl rfl | exact .inr rfl))) (fun _ _ _ _ _ => pts_nil) (fun _ _ _ _ _ => (pe_cmpR op_lt (pv 3) (pe_callB (cbLen (K := K) rfl) rfl (T.free 51 rfl) bt_len (pa_cons (C8.pe_mt0 (m_Record_facts (K := K) T) hr (by decide) (pv 0)) pa_nil)) (nomark _)))) pa_nil))))))) (pss_one (ps_ret pe_bl)) pss_nil)
      (pss_cons (ps_for PassesOwn.never rfl (piL (K := K) rfl (pv 1)) (pg_name (i := 3) nd rfl (by first | exact .inl rfl | exact .inr rfl))
      (pss_one (ps_if (pt_cmpR op_le (C8.pe_mt0 (m_Record_how_many (K := K) T) hr (by decide) (C8.pe_c (c_record_of (K := K) T) hr (by decide) rfl (pa_cons (pv 0) (pa_cons (pe_lc (own := [("_law_other", 5)]) (g := gName 5) rfl nd (piL (K := K) rfl (pv 1)) (blkOk_by (own := [("_law_other", 5)]) (N := N_law_kept_right) (sc := d_law_kept_right.scope) (by decide +kernel)) (fun _ _ _ _ _ => (pg_name (i := 5) nd rfl (by first | exact .inl rfl | exact .inr rfl))) (fun _ _ _ _ _ => (pts_one (pt_cmpR op_ne (pv 5) (pv 3) (nomark _)))) (fun _ _ _ _ _ => (pv 5))) pa_nil)))) (pv 2) (nomark _)) (pss_one (ps_ret pe_bl)) pss_nil)))
      (pss_cons (ps_for PassesOwn.never rfl (piL (K := K) rfl (C8.pe_c (c_needless_facts (K := K) T) hr (by decide) rfl (pa_cons (pv 0) pa_nil))) (pg_name (i := 3) nd rfl (by first | exact .inl rfl | exact .inr rfl))
      (pss_cons (ps_setLc (i := 4) (own := [("_law_other", 5)]) (g := gName 5) rfl nd rfl rfl (sw_true rfl rfl rfl (by decide +kernel)) (pi_range1 rfl (T.free 54 rfl) (pa_cons (pe_callB (cbLen (K := K) rfl) rfl (T.free 51 rfl) bt_len (pa_cons (C8.pe_mt0 (m_Record_facts (K := K) T) hr (by decide) (pv 0)) pa_nil)) pa_nil)) (blkOk_by (own := [("_law_other", 5)]) (N := N_law_kept_right) (sc := d_law_kept_right.scope) (by decide +kernel)) (fun _ _ _ _ _ => (pg_name (i := 5) nd rfl (by first | exact .inl rfl | exact .inr rfl))) (fun _ _ _ _ _ => (pts_one (pt_cmpR op_ne (pv 5) (pv 3) (nomark _)))) (fun _ _ _ _ _ => (pv 5)))
      (pss_one (ps_if (pt_cmpR op_ne (C8.pe_mt0 (m_Record_how_many (K := K) T) hr (by decide) (C8.pe_c (c_record_of (K := K) T) hr (by decide) rfl (pa_cons (pv 0) (pa_cons (pv 4) pa_nil)))) (pv 2) (nomark _)) (pss_one (ps_ret pe_bl)) pss_nil))))
      (pss_one (ps_ret pe_bl))))))), fun g S0 x hp hQ => ?_⟩
  obtain ⟨r, R⟩ := x
  obtain ⟨hr0, ok⟩ := hp
  dsimp only at hr0 ok
  obtain ⟨y, er, hr1, hB⟩ := RecAt.b hr0
  subst er
  have hfl := ok.fl
  obtain ⟨hk1, hk2, hk3⟩ := Rec.kept_ok ok
  have hkl : ∀ k ∈ R.kept, k < R.fs.length := fun k hk => (hk2 k hk).1
  show G ⟨g, S0, H⟩ _ (start N_law_kept_right [.ref y.r]) [] S0
  refine gs_asg (w_c0 (w_cons (w_var rfl) w_nil) (v_kept hr0 ok)) fun v S1 e1 ⟨pk, ev, hpk⟩ => ?_
  subst ev
  refine gs_asgI (w_m0 (w_var rfl) (e1 _ _ hr1) rfl w_nil (v_how_many (hr0.mono e1) ok)) ?_
  refine gs_ifF (w_orU (w_test (w_op (w_howKn (hr0.mono e1) ok rfl rfl hpk hkl hk3) (w_var rfl) w_neI)) (w_not (w_tB (w_allLc (ys := R.kept) (h := fun (n : Nat) => V.int (n : Int)) (p := fun k => decide ((k : Int) < (R.fs.length : Nat))) (w_iL (w_var rfl) (sq_of hpk)) (by omega) fun i k S hk e => ⟨_, tg_name, rfl, w_op (w_var rfl) (w_lenFacts (w_m0 (w_var rfl) (e _ _ (e1 _ _ hr1)) rfl w_nil (v_facts (hr0.mono (e1.trans e))))) w_rI0⟩)))) ?_ ?_
  · rw [hk1, decide_eq_true rfl, Bool.not_true, Bool.false_or, Bool.not_eq_false', List.all_eq_true]
    intro k hk
    have := hkl k hk
    exact decide_eq_true (by omega)
  refine gs_for (Rs := fun ys _ => ys = natsV R.kept) (w_iL (w_var rfl) (sq_of hpk)) fun ys S2 e2 ey => ?_
  subst ey
  refine ⟨fun i σ' m' K' => (∃ a, σ' = [some (.ref y.r), some (.ref pk), some (.int R.howMany), a, none, none]) ∧ m' = [] ∧ Ex S2 K', ⟨⟨none, rfl⟩, rfl, .refl _⟩, fun _ _ _ _ h => h.2.2, ?_, fun σ' m' K' ⟨⟨a, es⟩, em, e3⟩ => ?_⟩
  · rintro i z σ' m' K' hz ⟨⟨a, es⟩, em, e3⟩
    subst es em
    obtain ⟨k, hk, ez⟩ := nat_at hz
    subst ez
    have e0 := (e1.trans e2).trans e3
    have hgt := (hk2 k (List.mem_of_getElem? hk)).2
    refine g_name (g_ifF (w_test (w_op (w_howNew (ns := othersOf R.kept k) (hr0.mono e0) ok rfl (fun S' e' => w_othLc (e' _ _ ((e2.trans e3) _ _ hpk)) (by omega) rfl (fun _ => rfl) (fun _ => rfl) fun _ => rfl) (others_in hkl) (Nat.le_trans others_len hk3)) (w_var rfl) w_rI0)) (decide_eq_false (by omega)) (g_turn ⟨⟨_, rfl⟩, rfl, e3⟩))
  subst es em
  refine gs_for (Rs := fun ys _ => ys = natsV R.needless) (w_iLR (w_c0 (w_cons (w_var rfl) w_nil) (v_needless (hr0.mono ((e1.trans e2).trans e3)) ok)) fun v S e ⟨q, ev, hq⟩ => ⟨q, _, ev, sq_of hq, rfl⟩) fun ys S4 e4 ey => ?_
  subst ey
  refine ⟨fun i σ' m' K' => (∃ a c, σ' = [some (.ref y.r), some (.ref pk), some (.int R.howMany), a, c, none]) ∧ m' = [] ∧ Ex S4 K', ⟨⟨_, _, rfl⟩, rfl, .refl _⟩, fun _ _ _ _ h => h.2.2, ?_, fun σ' m' K' ⟨⟨a, c, es⟩, em, e5⟩ => ?_⟩
  · rintro i z σ' m' K' hz ⟨⟨a, c, es⟩, em, e5⟩
    subst es em
    obtain ⟨k, hk, ez⟩ := nat_at hz
    subst ez
    have e0 := (((e1.trans e2).trans e3).trans e4).trans e5
    obtain ⟨hkf, hkn⟩ := Rec.needless_ok (List.mem_of_getElem? hk)
    refine g_name (gs_asg (R := NewO K' (.lst (natsV (othersOf (List.range R.fs.length) k)))) (w_lcF (ys := List.range R.fs.length) (h := fun (n : Nat) => V.int (n : Int)) (f := fun (n : Nat) => V.int (n : Int)) (p := fun j => !decide (j = k)) (w_iN (w_cons (w_lenFacts (w_m0 (w_var rfl) (e0 _ _ hr1) rfl w_nil (v_facts (hr0.mono e0)))) w_nil) rfl (by omega)) (by rw [List.length_range]; omega) fun i m S hm e => ⟨_, tg_name, rfl, w_test (w_op (w_var rfl) (w_var rfl) (w_neI.is (by rw [ne_nat]))), fun _ => w_var rfl⟩) fun v S6 e6 ⟨q, ev, _, hq⟩ => ?_)
    subst ev
    have hrg : ∀ j ∈ List.range R.fs.length, j < R.fs.length := fun j hj => List.mem_range.mp hj
    refine g_ifF (w_test (w_op (w_howKn (hr0.mono (e0.trans e6)) ok rfl rfl hq (others_in hrg) (Nat.le_trans others_len (by rw [List.length_range]; exact hfl))) (w_var rfl) w_neI)) (by rw [hkn, decide_eq_true rfl]; rfl) (g_turn ⟨⟨_, _, rfl⟩, rfl, e5.trans e6⟩)
  subst es em
  exact g_weak ((((e1.trans e2).trans e3).trans e4).trans e5) (.refl _) (g_retI (v := .bl true) w_c hQ fun S e => rfl))

theorem v_kept_right {r : Addr} {R : Rec} (h : RecAt K S r R) (ok : R.Ok) : SpW g (sp_law_kept_right K) [.ref r] S (Is (.bl true)) := w_pr (r, R) (fun _ e => ⟨h.mono e, ok⟩) fun _ _ _ _ _ h => h
def sp_law_clash_right (K : PySem.W.Frag) : Sp := PrO (ι := RB × Rec × Int) (fun x => [.ref x.1.r, .int (x.2.1.n : Nat), .int x.2.2]) (fun x => x.1.r) (fun x => x.1.o K) (fun _ x S => RecB K S x.1 x.2.1 ∧ x.2.1.Ok ∧ x.2.1.fs.length ≤ 9 ∧ 0 ≤ x.2.2 ∧ Fact.passed x.2.1.n x.2.2 ∈ x.2.1.fs) (fun _ _ v _ _ => v = .bl true)
theorem c_law_clash_right (T : Txt K mg) : C8.Cal P w K mg base 11 "_law_clash_right" (sp_law_clash_right K) [] := mk_law_clash_right T (prO_len fun _ => rfl) (BdO.bs fun cdv A outer s H Q E hr => by
  have hu := hu_of hr
  have nd := sc_law_clash_right.nd
  refine ⟨_, (pss_cons (ps_expr (C8.pe_mt (m_Record_passed (K := K) T) hr (by decide) (pv 0) (pa_cons (pv 1) (pa_cons (pe_op op_add (pv 2) pe_int) pa_nil))))
      (pss_cons (ps_set (i := 3) nd rfl (by first | exact .inl rfl | exact .inr rfl) (C8.pe_c (c_fewest_clash (K := K) T) hr (by decide) rfl (pa_cons (pv 0) pa_nil)))
      (pss_cons (ps_if (PW.pt (pw_or (pt_cmpR op_isN (pv 3) pe_non (nomark _)) (pw_or (pt_cmpR op_ne (C8.pe_mt0 (m_Record_how_many (K := K) T) hr (by decide) (pv 0)) pe_int (nomark _)) (pw_or1 (pt_cmpR op_ne (C8.pe_mt0 (m_Record_how_many (K := K) T) hr (by decide) (C8.pe_c (c_record_of (K := K) T) hr (by decide) rfl (pa_cons (pv 0) (pa_cons (pv 3) pa_nil)))) pe_int (nomark _)))))) (pss_one (ps_ret pe_bl)) pss_nil)
      (pss_one (ps_ret (pe_callB (cbAll (K := K) rfl rfl) rfl (T.free 50 rfl) bt_all (pa_cons (pe_lc (own := [("_law_number", 4)]) (g := gName 4) (tt := tYes) rfl nd (piL (K := K) rfl (pv 3)) (blkOk_by (own := [("_law_number", 4)]) (N := N_law_clash_right) (sc := d_law_clash_right.scope) (by decide +kernel)) (fun _ _ _ _ _ => (pg_name (i := 4) nd rfl (by first | exact .inl rfl | exact .inr rfl))) (fun _ _ _ _ _ => pts_nil) (fun _ _ _ _ _ => (pe_cmpR op_gt (C8.pe_mt0 (m_Record_how_many (K := K) T) hr (by decide) (C8.pe_c (c_record_of (K := K) T) hr (by decide) rfl (pa_cons (pv 0) (pa_cons (pe_lc (own := [("_law_other", 5)]) (g := gName 5) rfl nd (piL (K := K) rfl (pv 3)) (blkOk_by (own := [("_law_other", 5)]) (N := N_law_clash_right) (by kernel_rfl)) (fun _ _ _ _ _ => (pg_name (i := 5) nd rfl (by first | exact .inl rfl | exact .inr rfl))) (fun _ _ _ _ _ => (pts_one (pt_cmpR op_ne (pv 5) (pv 4) (nomark _)))) (fun _ _ _ _ _ => (pv 5))) pa_nil)))) pe_int (nomark _)))) pa_nil))))))), fun g S0 H0 x hp hQ => ?_⟩
  obtain ⟨y, R, wy⟩ := x
  obtain ⟨hB, ok, hl, hw, hin⟩ := hp
  dsimp only at hB ok hl hw hin
  have hf : (Fact.passed R.n (wy + 1)).Ok R.n := ⟨Nat.le_refl _, by omega⟩
  have okR := Rec.plus_ok ok hl hf
  have h0 : (R.plus (.passed R.n (wy + 1))).howMany = 0 := by
    rw [Rec.howMany_tot okR]
    exact Mtr.tot_zero (List.mem_append_left _ hin) (List.mem_append_right _ List.mem_cons_self) (by omega)
  obtain ⟨ns, hc1, hc2, hc3, hc4, hc5⟩ := Rec.clash_ok okR h0
  show G ⟨g, S0, H0⟩ _ (start N_law_clash_right [.ref y.r, .int (R.n : Nat), .int wy]) [(y.r, y.o K)] S0
  refine g_off fun off => ?_
  have hoff := off _ List.mem_cons_self
  refine gs_dropO (wo_m0 (w_var rfl) rfl (w_cons (w_var rfl) (w_cons (w_op (w_var rfl) w_c w_rI0) w_nil)) fun vs S e hv => hv ▸ v_passed (hB.mono e) hf (by omega)) fun v o' S1 e1 ⟨_, t, eo, hB1⟩ => ?_
  subst eo
  have hB1 : RecB K S1 { y with t := t } (R.plus (.passed R.n (wy + 1))) := hB1
  generalize hR' : R.plus (.passed R.n (wy + 1)) = R' at okR h0 hc1 hc2 hc3 hc4 hc5 hB1
  refine g_keepH fun k1 _ => ?_
  have hr1 : upd S1 y.r (RB.o K { y with t := t }) y.r = some (RB.o K { y with t := t }) := upd_same
  have hr0 : RecAt K (upd S1 y.r (RB.o K { y with t := t })) y.r R' := RecB.at (x := { y with t := t }) upd_same (hB1.mono (Ex.new k1))
  have e12 : Ex S0 (upd S1 y.r (RB.o K { y with t := t })) := e1.trans (Ex.new k1)
  generalize upd S1 y.r (RB.o K { y with t := t }) = K2 at hr1 hr0 e12 ⊢
  refine gs_asg (w_c0 (w_cons (w_var rfl) w_nil) (v_clash hr0 okR)) fun v S3 e3 hv => ?_
  rw [hc1] at hv
  obtain ⟨q, ev, hq⟩ := hv
  subst ev
  refine gs_ifF (w_orU (w_test ((w_op (w_var rfl) w_c w_isN).is rfl)) (w_orU (w_test (w_op (w_m0 (w_var rfl) (e3 _ _ hr1) rfl w_nil (v_how_many (hr0.mono e3) okR)) w_c w_neI)) (w_test (w_op (w_howKn (hr0.mono e3) okR rfl rfl hq hc3 hc4) w_c w_neI)))) (by rw [h0, hc2]; rfl) ?_
  refine g_ret (R := Is (V.bl (ns.all fun k => decide ((R'.pick (othersOf ns k)).howMany > 0)))) (w_allLc (ys := ns) (h := fun (n : Nat) => V.int (n : Int)) (p := fun k => decide ((R'.pick (othersOf ns k)).howMany > 0)) (w_iL (w_var rfl) (sq_of hq)) (by omega) fun i k S hk e => ⟨_, tg_name, rfl, w_op (w_howNew (ns := othersOf ns k) (hr0.mono (e3.trans e)) okR rfl (fun S' e' => w_othLc (e' _ _ (e _ _ hq)) (by omega) rfl (fun _ => rfl) (fun _ => rfl) fun _ => rfl) (others_in hc3) (Nat.le_trans others_len hc4)) w_c w_rI0⟩) fun v S H' e s hv => ?_
  refine hQ v _ _ H' (s.again (e _ _ (e3 _ _ hr1)) (fun _ z => by cases z) hoff.2 hoff.1) ?_
  rw [hv]
  congr 1
  exact List.all_eq_true.mpr fun k hk => decide_eq_true (hc5 k hk))

end
end Cm

/-! ## E28 -/
set_option maxHeartbeats 4000000
/-! The law: some looks. -/
namespace Cm
open PySem PySem.Spec PyProof.Rows L2 Evl
local macro_rules | `(tactic| walk_at "w") => `(tactic| first
  | exact w_c
  | ((refine w_var ?_); rfl)
  | exact w_nil
  | ((refine w_cons (x := ?x) (xs := ?xs) ?h1 ?h2); (case h1 => walk_at "w"); (case h2 => walk_at "w"))
  | ((refine w_op (x := ?x) (y := ?y) ?h1 ?h2 ?h3); (case h1 => walk_at "w"); (case h2 => walk_at "w"); (case h3 => walk_at "w"))
  | exact w_rI0
  | exact w_rU
  | ((refine w_un (x := ?x) ?h1 ?h2); (case h1 => walk_at "w"); (case h2 => walk_at "w"))
  | ((refine w_rEq ?_); rfl)
  | ((refine w_rNe ?_); rfl)
  | ((refine w_test (b := ?b) ?h1); (case h1 => walk_at "w"))
  | ((refine w_tB (b := ?b) ?h1); (case h1 => walk_at "w"))
  | ((refine w_not (a := ?a) ?h1); (case h1 => walk_at "w"))
  | ((refine w_orU (a := ?a) (b := ?b) ?h1 ?h2); (case h1 => walk_at "w"); (case h2 => walk_at "w"))
  | ((refine w_andU (a := ?a) (b := ?b) ?h1 ?h2); (case h1 => walk_at "w"); (case h2 => walk_at "w"))
  | ((refine w_notV (a := ?a) ?h1); (case h1 => walk_at "w"))
  | ((refine w_orVU (a := ?a) (b := ?b) ?h1 ?h2); (case h1 => walk_at "w"); (case h2 => walk_at "w"))
  | ((refine w_andVU (a := ?a) (b := ?b) ?h1 ?h2); (case h1 => walk_at "w"); (case h2 => walk_at "w"))
  | ((refine w_chain1 (x := ?x) (y := ?y) (z := ?z) (p := ?p) (q := ?q) ?h1 ?h2 ?h3 ?h4 ?h5); (case h1 => walk_at "w"); (case h2 => walk_at "w"); (case h3 => walk_at "w"); (case h4 => walk_at "w"); (case h5 => walk_at "w"))
  | exact w_isN
  | exact w_max2
  | exact w_min2
  | exact w_int1
  | exact w_abs
  | (refine w_rI ?_; decide)
  | assumption)

section
variable {P : Program} {w : World} {K : PySem.W.Frag} {mg : Str → Option Value} {base : Heap} {g : Bg} {S : Hp}
/-! calls that change the first local thing, within tests -/
def WOa {α : Type} (c : Ct) (f : Hp → (α → Hp → Prop) → Prop) (r : Addr) (o : HO) (m : List (Addr × HO)) (K : Hp) (R : α → HO → Hp → Prop) : Prop :=
  ∀ (K1 H : Hp), Ex K K1 → St8 c ((r, o) :: m) K1 H → ∀ Q : α → Hp → Prop, (∀ v o' S H', St8 c ((r, o') :: m) S H' → Ex K1 S → R v o' S → Q v H') → f H Q
section
variable {c : Ct} {m : List (Addr × HO)} {K : Hp} {σ : L2.St} {D : Ends} {t z : TS} {ta tb te : TE} {tt u : TT} {r : Addr} {o : HO} {r' : R2} {x y : V} {b : Bool} {R : HO → Hp → Prop}
theorem wo_opO (h : WO c (ta σ) r o m K fun v o' S => v = x ∧ R o' S) (hb : ∀ S, Ex K S → W c.g (tb σ) S (Is y)) (hr : ∀ S, Ex K S → W c.g (r' x y) S (Is (V.bl b))) (hm : ∀ o' S S', Ex S S' → R o' S → R o' S') : WO c (tOp r' ta tb σ) r o m K fun v o' S => v = .bl b ∧ R o' S :=
  fun K1 H e s Q q => h K1 H e s _ fun v o' S H' s' e' ⟨ev, hR⟩ => by
    subst ev
    refine hb S (e.trans e') S H' (.refl _) s'.a.here _ fun v2 S2 H2 d2 hv2 => ?_
    cases hv2
    refine hr S2 ((e.trans e').trans d2.kk) S2 H2 (.refl _) d2.here _ fun v3 S3 H3 d3 hv3 => ?_
    exact q v3 o' S3 H3 ((s'.to d2).to d3) ((e'.trans d2.kk).trans d3.kk) ⟨hv3, hm _ _ _ (d2.kk.trans d3.kk) hR⟩
theorem wo_test (h : WO c (te σ) r o m K fun v o' S => v = .bl b ∧ R o' S) : WOa c (tTest te σ) r o m K fun v o' S => v = b ∧ R o' S :=
  fun K1 H e s Q q => h K1 H e s _ fun v o' S H' s' e' ⟨ev, hR⟩ => ⟨b, ev, q b o' S H' s' e' ⟨rfl, hR⟩⟩
theorem wo_orF {Ra : Bool → HO → Hp → Prop} (h1 : W c.g (tt σ) K (Is false)) (h2 : WOa c (u σ) r o m K Ra) : WOa c (tOr tt u σ) r o m K Ra :=
  fun K1 H e s Q q => h1 K1 H e s.a.here _ fun v S H' d hv => by
    cases hv
    exact iteF (h2 K1 H' e ((s.to d).weak s.a.kk d.kk) Q q)
theorem g_ifO (h : WOa c (tt σ) r o m K fun v o' S => v = false ∧ R o' S) (k : ∀ o' S, Ex K S → R o' S → G c D.nx σ ((r, o') :: m) S) : G c (tIfS tt t tNext D) σ ((r, o) :: m) K :=
  fun H s => h K H (.refl _) s _ fun v o' S H' s' e' ⟨ev, hR⟩ => by
    subst ev
    exact iteF (k o' S e' hR H' s')
theorem gs_ifO (h : WOa c (tt σ) r o m K fun v o' S => v = false ∧ R o' S) (k : ∀ o' S, Ex K S → R o' S → G c (z D) σ ((r, o') :: m) S) : G c (tSeq (tIfS tt t tNext) z D) σ ((r, o) :: m) K := g_ifO (D := { D with nx := z D }) h k
end
theorem v_nb {r q : Addr} {R : Rec} {f : Fact} {ps : Array Value} (h : RecAt K S r R) (ok : R.Ok) (hl : R.fs.length ≤ 9) (hq : S q = some (.tup f.vs)) (hf : f.Ok R.n) (ht : TabK ps nbQ S) : SpO g (sp_law_number_behind K) (nbP K) (.tbl ps) [.ref r, .ref q] S fun v o S' => v = .int (R.plus f).howMany ∧ ∃ ps', o = .tbl ps' ∧ TabK ps' nbQ S' :=
  w_prO (r, R, q, f, ps) (fun _ e => ⟨h.mono e, ok, hl, e _ _ hq, hf, ht.mono e⟩) fun _ _ _ _ _ _ h => h
theorem v_look_fact {q : Addr} {l : Lk} {s : Int} (h : LkAt S q l) (hs : l.1 = .speed → ∃ d : Nat, s = d ∧ d ≤ 9) : SpW g (sp_law_look_fact K) [.ref q, .int s] S (fun v S' => ∃ q', v = .ref q' ∧ S' q' = some (.tup (lookF l s).vs)) := w_pr (q, l, s) (fun _ e => ⟨h.mono e, hs⟩) fun _ _ _ _ _ h => h
theorem v_best {r : Addr} {R : Rec} (h : RecAt K S r R) (ok : R.Ok) (hh : 0 < R.howMany) : SpW g (sp_best_look K) [.ref r] S (fun v S' => BestAt S' v R.best) := w_pr (r, R) (fun _ e => ⟨h.mono e, ok, hh⟩) fun _ _ _ _ _ h => h
/-! the numbers of a dict -/
theorem ienc_val {D : Ip} (nd : (D.map (·.1)).Nodup) {e : Int × Int} (h : e ∈ D) : valV (ienc D) (ik e.1) = some (.int e.2) := by
  rw [ienc_get, Ip.mem_get nd h]
  rfl
theorem ienc_at {D : Ip} {s : Int} (h : s ∈ D.map (·.1)) : valV (ienc D) (ik s) = some (.int (D.get0 s)) := by
  obtain ⟨n, h1, _⟩ := qget_in h
  rw [ienc_get, Ip_get, h1, Ip_get0]
  unfold qget0
  rw [h1]
  rfl
/-- [.. for seen in numbers] -/
theorem w_nums {σ : L2.St} {i j : Nat} {d : Addr} {D : Ip} {te : TE} {vs : List Nat} (hd : S d = some (.dK (ienc D))) (hl : D.length < 100000) (hi : σ[i]? = some (some (V.ref d))) (hj : ∀ x, wipe ((wipe σ vs).set j (some x)) vs = wipe σ vs)
    (hs : ∀ (od : Obj) (e : Int × Int) (S' : Hp), e ∈ D → S' d = some (.frz od (.dK (ienc D))) → W g (te ((wipe σ vs).set j (some (.int e.1)))) S' (Is (.int e.2))) : W g (tLockE (tLc (iKeys (tVar i)) (gName j) tYes te vs) σ) S (fun v S' => ∃ p, v = .ref p ∧ S' p = some (.lst ((D.map (·.2)).map V.int))) :=
  w_lock (d := d) (u := .dK (ienc D)) (R' := fun v S' => ∃ p, v = .ref p ∧ p ≠ d ∧ S' p = some (.lst ((D.map (·.2)).map V.int))) hd trivial notS_K (fun od => (w_lcA (ys := D) (h := fun e => V.int e.1) (f := fun e => V.int e.2) ((w_iK (od := od) (w_var hi) upd_same).imp fun J S' e ⟨ys, h1, h2⟩ => ⟨ys, h1, by
    rw [h2]
    unfold ienc
    rw [List.map_map]
    rfl⟩) hl fun k e S' hk e' => ⟨_, tg_name, hj _, hs od e S' (List.mem_of_getElem? hk) (e' _ _ upd_same)⟩).imp fun v S' e ⟨p, ev, hn, hp⟩ => ⟨p, ev, (fun z => by rw [z, upd_same] at hn; cases hn), by rw [hp, List.map_map]; rfl⟩) fun v S' od ⟨p, ev, hne, hp⟩ hsd e => ⟨p, ev, by rw [upd_ne hne]; exact hp⟩
theorem w_dgetK {σ : L2.St} {i j : Nat} {d : Addr} {D : Ip} {s x : Int} {od : Obj} (hi : σ[i]? = some (some (V.ref d))) (hj : σ[j]? = some (some (V.int s))) (hd : S d = some (.frz od (.dK (ienc D)))) (hv : valV (ienc D) (ik s) = some (.int x)) : W g (tDGet (tVar i) (tVar j) σ) S (Is (.int x)) :=
  w_dget (w_var hi) (w_var hj) fun H e => .inl ⟨_, ik s, .inr ⟨od, e _ _ hd⟩, rfl, hv.symm⟩
theorem w_dgetN {σ : L2.St} {i j : Nat} {d : Addr} {D : Ip} {s x : Int} (hi : σ[i]? = some (some (V.ref d))) (hj : σ[j]? = some (some (V.int s))) (hd : S d = some (.dK (ienc D))) (hv : valV (ienc D) (ik s) = some (.int x)) : W g (tDGet (tVar i) (tVar j) σ) S (Is (.int x)) :=
  w_dget (w_var hi) (w_var hj) fun H e => .inl ⟨_, ik s, .inl (e _ _ hd), rfl, hv.symm⟩
theorem w_sumN {σ : L2.St} {te : TE} {D : Ip} (h : W g (te σ) S (fun v S' => ∃ p, v = .ref p ∧ S' p = some (.lst ((D.map (·.2)).map V.int)))) : W g (tCB (rSum K) (tCons te tNil) σ) S (Is (.int (S1 D (·.2)))) :=
  w_cbR (w_consR (R := fun vs S => ∃ p, vs = [.ref p] ∧ S p = some (.lst ((D.map (·.2)).map V.int))) h fun v S e ⟨p, ev, hp⟩ => w_nilR fun S2 e2 => ⟨p, by rw [ev], e2 _ _ hp⟩) fun vs S e ⟨p, ev, hp⟩ => ev ▸ w_sum (sq_of hp)
theorem w_maxN {σ : L2.St} {te : TE} {D : Ip} (hn : D ≠ []) (hp : ∀ e ∈ D, 1 ≤ e.2) (h : W g (te σ) S (fun v S' => ∃ p, v = .ref p ∧ S' p = some (.lst ((D.map (·.2)).map V.int)))) : W g (tCB (rMax K) (tCons te tNil) σ) S (Is (.int D.worst)) :=
  w_cbR (w_consR (R := fun vs S => ∃ p, vs = [.ref p] ∧ S p = some (.lst ((D.map (·.2)).map V.int))) h fun v S e ⟨p, ev, hp⟩ => w_nilR fun S2 e2 => ⟨p, by rw [ev], e2 _ _ hp⟩) fun vs S e ⟨p, ev, hp2⟩ => ev ▸ w_max (sq_of hp2) (worst_mem hn hp) worst_le
/-- max(list(look_numbers(record, a look).values())) -/
theorem w_worstOf {σ : L2.St} {r : Addr} {R : Rec} {l : Lk} {E : XK} {tr : TA} (h : RecAt K S r R) (ok : R.Ok) (hl : R.LkOk l) (hh : 0 < R.howMany) (ht : W g (tr σ) S fun vs S' => ∃ q, vs = [.ref r, .ref q] ∧ LkAt S' q l) :
    W g (tCB (rMax K) (tCons (tListVals (tCall (sp_look_numbers K) [] E tr)) tNil) σ) S (Is (.int (R.worst l))) :=
  w_maxN (Rec.look_ne ok hl hh) (Rec.look_pos hl) (w_valsR (w_cR ht fun vs S' e ⟨q, ev, hq⟩ => ev ▸ v_look_numbers (h.mono e) ok hq hl) fun x S' e ⟨d, ex, hd⟩ => ⟨d, _, ex, fun H e2 => .inl ⟨_, .inl (e2 _ _ hd), rfl⟩, fun v S2 e3 ⟨p, ev, _, hp⟩ => ⟨p, ev, by
    rw [hp]
    congr 2
    unfold ienc
    rw [List.map_map, List.map_map]
    rfl⟩⟩)
theorem look_len {R : Rec} (ok : R.Ok) {l : Lk} (hl : R.LkOk l) : (R.look l).length < 100000 := by
  obtain ⟨k, t⟩ := l
  have ht : t ≤ R.n := by cases k <;> first | exact Nat.le_of_lt hl | exact hl
  have hb := back_len ok ht
  by_cases hk : k = .speed
  · subst hk
    have h1 := few_speed (D := R.look (.speed, t)) (b := R.top) Rec.look_nd fun s hs => Rec.speed_key (Rec.look_key hl hs)
    have := ok.t1
    omega
  · have h1 : (R.look (k, t)).length ≤ ([] : Ip).length + (R.lps k t (R.back (R.n - t))).length := qall_len
    rw [lps_o hk, List.length_map, List.length_nil] at h1
    omega
theorem key_pos {R : Rec} (ok : R.Ok) {l : Lk} (hl : R.LkOk l) {s : Int} (hs : s ∈ (R.look l).map (·.1)) : (lookF l s).Ok R.n ∧ (l.1 = .speed → ∃ d : Nat, s = d ∧ d ≤ 9) := by
  obtain ⟨k, t⟩ := l
  have hk := Rec.look_key hl hs
  cases k with
  | speed =>
    obtain ⟨d, ed, hd⟩ := Rec.speed_key hk
    have hd9 : d ≤ 9 := Nat.le_trans hd ok.t1.2
    refine ⟨⟨hl, by simp, List.pairwise_singleton _ _, fun x hx => ?_⟩, fun _ => ⟨d, ed, hd9⟩⟩
    rw [List.mem_singleton.mp hx, ed]
    omega
  | way =>
    obtain ⟨x, hx, e⟩ := List.mem_map.mp hk
    obtain ⟨y, hy, ey⟩ := List.mem_map.mp hx
    have hb := (Rec.ahead_bx ok t).bx y.1 (Rec.back_key hl hy).1
    subst ey
    refine ⟨⟨hl, ?_⟩, fun z => by cases z⟩
    rw [← e]
    exact hb.2.1
  | price =>
    obtain ⟨x, hx, e⟩ := List.mem_map.mp hk
    obtain ⟨y, hy, ey⟩ := List.mem_map.mp hx
    have hb := (Rec.ahead_bx ok t).bx y.1 (Rec.back_key hl hy).1
    subst ey
    refine ⟨⟨hl, ?_⟩, fun z => by cases z⟩
    rw [← e]
    exact price_pos ok.m hb.1.1
/-- pick(bag, sorted(numbers)) -/
theorem w_pickKey {σ : L2.St} {i j : Nat} {b l d : Addr} {D : Ip} {E : XK} (hg : g = some (b, l)) (hi : σ[i]? = some (some (V.ref b))) (hj : σ[j]? = some (some (V.ref d))) (hd : S d = some (.dK (ienc D))) (hn : D ≠ []) (hl : D.length < 100000) :
    W g (tCall (sp_law_pick K) [] E (tCons (tVar i) (tCons (tCB rSortedDK (tCons (tVar j) tNil)) tNil)) σ) S (fun v _ => ∃ s, v = .int s ∧ s ∈ D.map (·.1)) :=
  w_cR (Ra := fun vs S' => ∃ (p : Addr) (ys : List Int), vs = [.ref b, .ref p] ∧ S' p = some (.lst (ys.map V.int)) ∧ ys.Perm (D.map (·.1))) (w_consR (w_var hi) fun v S1 e1 ev => w_consR (Ra := fun v S2 => ∃ (p' : Addr) (ys : List Int), v = .ref p' ∧ S2 p' = some (.lst (ys.map V.int)) ∧ ys.Perm (D.map (·.1))) (w_cb (w_cons (w_var hj) w_nil) (w_sortedDK (ks := D.map (·.1)) (e1 _ _ hd) (by unfold ienc; rw [List.map_map, List.map_map]; rfl) fun ys p S2 h1 h2 h3 => ⟨p, ys, rfl, h3, h1⟩)) fun v2 S2 e2 ⟨p, ys, ev2, h3, h4⟩ => w_nilR fun S3 e3 => ⟨p, ys, by rw [ev, ev2], e3 _ _ h3, h4⟩) fun vs S' e ⟨p, ys, ev, h3, h4⟩ => by
    subst ev
    have hlen := h4.length_eq
    rw [List.length_map] at hlen
    have hne : ys ≠ [] := fun z => hn (by rw [z] at hlen; exact List.eq_nil_of_length_eq_zero hlen.symm)
    exact fun E => W.imp (v_pick hg h3 (fun z => hne (List.map_eq_nil_iff.mp z)) (by rw [List.length_map]; omega) E) fun v S'' e' hv => by
      obtain ⟨s, hs, es⟩ := List.mem_map.mp hv
      exact ⟨s, es.symm, h4.subset hs⟩
end
end Cm

/-! ## E29 -/
set_option maxHeartbeats 4000000
/-! The law: some looks are right. -/
namespace Cm
open PySem PySem.Spec PyProof.Rows L2 Evl
local macro_rules | `(tactic| walk_at "w") => `(tactic| first
  | exact w_c
  | ((refine w_var ?_); rfl)
  | exact w_nil
  | ((refine w_cons (x := ?x) (xs := ?xs) ?h1 ?h2); (case h1 => walk_at "w"); (case h2 => walk_at "w"))
  | ((refine w_op (x := ?x) (y := ?y) ?h1 ?h2 ?h3); (case h1 => walk_at "w"); (case h2 => walk_at "w"); (case h3 => walk_at "w"))
  | exact w_rI0
  | exact w_rU
  | ((refine w_un (x := ?x) ?h1 ?h2); (case h1 => walk_at "w"); (case h2 => walk_at "w"))
  | ((refine w_rEq ?_); rfl)
  | ((refine w_rNe ?_); rfl)
  | ((refine w_test (b := ?b) ?h1); (case h1 => walk_at "w"))
  | ((refine w_tB (b := ?b) ?h1); (case h1 => walk_at "w"))
  | ((refine w_not (a := ?a) ?h1); (case h1 => walk_at "w"))
  | ((refine w_orU (a := ?a) (b := ?b) ?h1 ?h2); (case h1 => walk_at "w"); (case h2 => walk_at "w"))
  | ((refine w_andU (a := ?a) (b := ?b) ?h1 ?h2); (case h1 => walk_at "w"); (case h2 => walk_at "w"))
  | ((refine w_notV (a := ?a) ?h1); (case h1 => walk_at "w"))
  | ((refine w_orVU (a := ?a) (b := ?b) ?h1 ?h2); (case h1 => walk_at "w"); (case h2 => walk_at "w"))
  | ((refine w_andVU (a := ?a) (b := ?b) ?h1 ?h2); (case h1 => walk_at "w"); (case h2 => walk_at "w"))
  | ((refine w_chain1 (x := ?x) (y := ?y) (z := ?z) (p := ?p) (q := ?q) ?h1 ?h2 ?h3 ?h4 ?h5); (case h1 => walk_at "w"); (case h2 => walk_at "w"); (case h3 => walk_at "w"); (case h4 => walk_at "w"); (case h5 => walk_at "w"))
  | exact w_isN
  | exact w_max2
  | exact w_min2
  | exact w_int1
  | exact w_abs
  | (refine w_rI ?_; decide)
  | assumption)

section
variable {P : Program} {w : World} {K : PySem.W.Frag} {mg : Str → Option Value} {base : Heap} {g : Bg} {S : Hp}
/-- a look, as a value -/
def AskI (R : Rec) (v : V) (S : Hp) : Prop := ∃ q l, v = .ref q ∧ LkAt S q l ∧ R.LkOk l
theorem AskI.mono {R : Rec} (v : V) (S S' : Hp) (e : Ex S S') (h : AskI R v S) : AskI R v S' := by
  obtain ⟨q, l, h1, h2, h3⟩ := h
  exact ⟨q, l, h1, h2.mono e, h3⟩
/-- the table of the lambda's code, as it stands -/
def TabM (S : Hp) (o : HO) : Prop := ∃ ps, o = .tbl ps ∧ TabK ps nbQ S
theorem TabM.mono {S S' : Hp} {o : HO} (e : Ex S S') (h : TabM S o) : TabM S' o := by
  obtain ⟨ps, h1, h2⟩ := h
  exact ⟨ps, h1, h2.mono e⟩
/-- number_behind(record, look_fact(look, seen)) != numbers[seen] is false -/
theorem wo_behind {c : Ct} {m : List (Addr × HO)} {K0 : Hp} {σ : L2.St} {i1 i7 i8 i9 : Nat} {r q d : Addr} {R : Rec} {l : Lk} {s : Int} {o : HO} {E E2 : XK} (h : RecAt K K0 r R) (ok : R.Ok) (hl : R.fs.length ≤ 9) (hq : LkAt K0 q l) (hlk : R.LkOk l) (hs : s ∈ (R.look l).map (·.1)) (hd : K0 d = some (.dK (ienc (R.look l)))) (ht : TabM K0 o)
    (h1 : σ[i1]? = some (some (V.ref r))) (h7 : σ[i7]? = some (some (V.ref q))) (h8 : σ[i8]? = some (some (V.ref d))) (h9 : σ[i9]? = some (some (V.int s))) :
    WOa c (tTest (tOp rNe (tCall (sp_law_number_behind K) [] E (tCons (tVar i1) (tCons (tCall (sp_law_look_fact K) [] E2 (tCons (tVar i7) (tCons (tVar i9) tNil))) tNil))) (tDGet (tVar i8) (tVar i9))) σ) (nbP K) o m K0 fun b o' S => b = false ∧ TabM S o' := by
  obtain ⟨ps, eo, ht⟩ := ht
  subst eo
  obtain ⟨hf, h9s⟩ := key_pos ok hlk hs
  have hnum : (R.plus (lookF l s)).howMany = (R.look l).get0 s := by
    rw [Rec.howMany_tot (Rec.plus_ok ok hl hf), Rec.look_told ok hlk hs]
    rfl
  refine wo_test (wo_opO (R := fun o' S => TabM S o') (x := .int ((R.look l).get0 s)) (y := .int ((R.look l).get0 s)) ?_ (fun S e => w_dgetN h8 h9 (e _ _ hd) (ienc_at hs)) (fun S e => w_neI.is (by rw [decide_eq_true rfl]; rfl)) fun o' S S' e h => h.mono e)
  refine wo_c0 (Ra := fun vs S => ∃ q', vs = [.ref r, .ref q'] ∧ S q' = some (.tup (lookF l s).vs)) (w_consR (w_var h1) fun v S1 e1 ev => w_consR (w_c0 (w_cons (w_var h7) (w_cons (w_var h9) w_nil)) (v_look_fact (hq.mono e1) h9s)) fun v2 S2 e2 ⟨q', ev2, hq'⟩ => w_nilR fun S3 e3 => ⟨q', by rw [ev, ev2], e3 _ _ hq'⟩) fun vs S e ⟨q', ev, hq'⟩ => ?_
  subst ev
  exact (v_nb (h.mono e) ok hl hq' hf (ht.mono e)).imp fun v o' S' ⟨a, b⟩ => ⟨by rw [a, hnum], b⟩
theorem w_int1N {σ : L2.St} {te : TE} {x : Int} (h : W g (te σ) S (Is (V.int x))) : W g (tCB (fun xs H (Q : VK) => (∃ j, xs = [V.int j] ∧ Q (.int j) H) ∨ ∃ k, xs = [V.bl k] ∧ Q (.int (if k then 1 else 0)) H) (tCons te tNil) σ) S (Is (.int x)) := w_cb (w_cons h w_nil) w_int1
def sp_law_some_looks_right (K : PySem.W.Frag) : Sp := PrO (ι := (Addr × Addr) × Addr × Rec × Array Value) (fun x => [.ref x.1.1, .ref x.2.1, .int (x.2.2.1.n : Nat)]) (fun _ => nbP K) (fun x => .tbl x.2.2.2) (fun g x S => g = some x.1 ∧ RecAt K S x.2.1 x.2.2.1 ∧ x.2.2.1.Ok ∧ x.2.2.1.fs.length ≤ 9 ∧ 0 < x.2.2.1.howMany ∧ TabK x.2.2.2 nbQ S) (fun _ _ v o S => v = .bl true ∧ TabM S o)
theorem c_law_some_looks_right (T : Txt K mg) (TB : LamX.TabB base mg (nbC K) (nbP K)) : C8.Cal P w K mg base 13 "_law_some_looks_right" (sp_law_some_looks_right K) [] := mk_law_some_looks_right T (prO_len fun _ => rfl) (BdO.bs fun cdv A outer s H Q E hr => by
  have hu := hu_of hr
  have nd := sc_law_some_looks_right.nd
  refine ⟨_, (pss_cons (ps_set (i := 3) nd rfl (by first | exact .inl rfl | exact .inr rfl) (C8.pe_mt0 (m_Record_how_many (K := K) T) hr (by decide) (pv 1)))
      (pss_cons (ps_set (i := 4) nd rfl (by first | exact .inl rfl | exact .inr rfl) (C8.pe_c (c_best_look (K := K) T) hr (by decide) rfl (pa_cons (pv 1) pa_nil)))
      (pss_cons (ps_if (pt_cmpR op_isN (pv 4) pe_non (nomark _)) (pss_one (ps_ret pe_bl)) pss_nil)
      (pss_cons (ps_for PassesOwn.never rfl (pi_range1 rfl (T.free 54 rfl) (pa_cons pe_int pa_nil)) (pg_name (i := 5) nd rfl (by first | exact .inl rfl | exact .inr rfl))
      (pss_cons (ps_set (i := 6) nd rfl (by first | exact .inl rfl | exact .inr rfl) (pe_tup (pa_cons (C8.pe_c (c_law_pick (K := K) T) hr (by decide) rfl (pa_cons (pv 0) (pa_cons (pe_lst (pa_cons pe_str (pa_cons pe_str pa_nil))) pa_nil))) (pa_cons (C8.pe_c (c_law_draw (K := K) T) hr (by decide) rfl (pa_cons (pv 0) (pa_cons (pe_op op_add (pv 2) pe_int) pa_nil))) pa_nil))))
      (pss_one (ps_for PassesOwn.never rfl (piL (K := K) rfl (pe_lst (pa_cons (pv 6) (pa_cons (pe_tup (pa_cons pe_str (pa_cons (C8.pe_c (c_law_draw (K := K) T) hr (by decide) rfl (pa_cons (pv 0) (pa_cons (pv 2) pa_nil))) pa_nil))) pa_nil)))) (pg_name (i := 7) nd rfl (by first | exact .inl rfl | exact .inr rfl))
      (pss_cons (ps_set (i := 8) nd rfl (by first | exact .inl rfl | exact .inr rfl) (C8.pe_c (c_look_numbers (K := K) T) hr (by decide) rfl (pa_cons (pv 1) (pa_cons (pv 7) pa_nil))))
      (pss_cons (ps_if (pt_cmpR op_ne (pe_callB (cbSum (K := K) rfl rfl) rfl (T.free 57 rfl) bt_sum (pa_cons (pe_lock (pe_lc (own := [("_law_seen", 9)]) (g := gName 9) (tt := tYes) rfl nd (pi_keys (pv 8)) (blkOk_by (own := [("_law_seen", 9)]) (N := N_law_some_looks_right) (sc := d_law_some_looks_right.scope) (by decide +kernel)) (fun _ _ _ _ _ => (pg_name (i := 9) nd rfl (by first | exact .inl rfl | exact .inr rfl))) (fun _ _ _ _ _ => pts_nil) (fun _ _ _ _ _ => (pe_dget hu (pv 8) (pv 9) (fun _ _ => rfl))))) pa_nil)) (pv 3) (nomark _)) (pss_one (ps_ret pe_bl)) pss_nil)
      (pss_cons (ps_set (i := 9) nd rfl (by first | exact .inl rfl | exact .inr rfl) (C8.pe_c (c_law_pick (K := K) T) hr (by decide) rfl (pa_cons (pv 0) (pa_cons (pe_callB (call_sortedDK rfl) rfl (T.free 62 rfl) bt_sorted (pa_cons (pv 8) pa_nil)) pa_nil))))
      (pss_cons (ps_if (pt_cmpR op_ne (C8.pe_c (c_law_number_behind (K := K) T TB) hr (by decide) rfl (pa_cons (pv 1) (pa_cons (C8.pe_c (c_law_look_fact (K := K) T) hr (by decide) rfl (pa_cons (pv 7) (pa_cons (pv 9) pa_nil))) pa_nil))) (pe_dget hu (pv 8) (pv 9) (fun _ _ => rfl)) (nomark _)) (pss_one (ps_ret pe_bl)) pss_nil)
      (pss_one (ps_if (pt_cmpR op_lt (pe_callB (cbMax (K := K) rfl rfl) rfl (T.free 55 rfl) bt_max (pa_cons (pe_lock (pe_lc (own := [("_law_other", 10)]) (g := gName 10) (tt := tYes) rfl nd (pi_keys (pv 8)) (blkOk_by (own := [("_law_other", 10)]) (N := N_law_some_looks_right) (sc := d_law_some_looks_right.scope) (by decide +kernel)) (fun _ _ _ _ _ => (pg_name (i := 10) nd rfl (by first | exact .inl rfl | exact .inr rfl))) (fun _ _ _ _ _ => pts_nil) (fun _ _ _ _ _ => (pe_callTy call_int1 rfl (T.free 59 rfl) bt_int (pa_cons (pe_dget hu (pv 8) (pv 10) (fun _ _ => rfl)) pa_nil))))) pa_nil)) (pe_ix (ixT (K := K) rfl) (pv 4) pe_int (fun _ _ => rfl)) (nomark _)) (pss_one (ps_ret pe_bl)) pss_nil))))))))))
      (pss_one (ps_ret (pe_cmpR op_eq (pe_callB (cbMax (K := K) rfl rfl) rfl (T.free 55 rfl) bt_max (pa_cons (pe_listVals rfl rfl (T.free 53 rfl) (C8.pe_c (c_look_numbers (K := K) T) hr (by decide) rfl (pa_cons (pv 1) (pa_cons (pe_ix (ixT (K := K) rfl) (pv 4) pe_int (fun _ _ => rfl)) pa_nil)))) pa_nil)) (pe_ix (ixT (K := K) rfl) (pv 4) pe_int (fun _ _ => rfl)) (nomark _)))))))), fun g S0 H0 x hp hQ => ?_⟩
  obtain ⟨⟨b, l⟩, r, R, ps⟩ := x
  obtain ⟨hg, hr0, ok, hfl, hh, ht0⟩ := hp
  dsimp only at hr0 ok hfl hh ht0
  have hg : (⟨g, S0, H0⟩ : Ct).g = some (b, l) := hg
  obtain ⟨y, er, hr1, hB⟩ := RecAt.b hr0
  subst er
  have hn := ok.n1
  obtain ⟨bl, bm, hbest, hblk, hbm, hbw⟩ := Rec.best_spec (R := R) hn.1
  show G ⟨g, S0, H0⟩ _ (start N_law_some_looks_right [.ref b, .ref y.r, .int (R.n : Nat)]) [(nbP K, .tbl ps)] S0
  refine gs_asgI (w_m0 (w_var rfl) hr1 rfl w_nil (v_how_many hr0 ok)) ?_
  refine gs_asg (w_c0 (w_cons (w_var rfl) w_nil) (v_best hr0 ok hh)) fun v S1 e1 hbv => ?_
  rw [hbest] at hbv
  obtain ⟨qb, qlb, ev, hqb, hqlb⟩ := hbv
  subst ev
  refine gs_ifF (w_test ((w_op (w_var rfl) w_c w_isN).is rfl)) rfl ?_
  refine gs_for (Rs := fun ys _ => True) ((w_iR1 (w_cons w_c w_nil) (by decide)).imp fun J S e ⟨ys, h1, _⟩ => ⟨ys, h1, trivial⟩) fun ys S2 e2 _ => ?_
  refine ⟨fun i σ' m' K' => (∃ a5 a6 a7 a8 a9 a10, σ' = [some (.ref b), some (.ref y.r), some (.int (R.n : Nat)), some (.int R.howMany), some (.ref qb), a5, a6, a7, a8, a9, a10]) ∧ (∃ o, m' = [(nbP K, o)] ∧ TabM K' o) ∧ Ex S2 K', ⟨⟨_, _, _, _, _, _, rfl⟩, ⟨_, rfl, ps, rfl, (ht0.mono e1).mono e2⟩, .refl _⟩, fun _ _ _ _ h => h.2.2, ?_, fun σ' m' K' ⟨⟨a5, a6, a7, a8, a9, a10, es⟩, ⟨o, em, hto⟩, e3⟩ => ?_⟩
  · rintro i z σ' m' K' hz ⟨⟨a5, a6, a7, a8, a9, a10, es⟩, ⟨o, em, hto⟩, e3⟩
    subst es em
    refine g_name (gs_asg (R := AskI R) ?_ fun v S4 e4 hlook => ?_)
    · refine w_tupR (Ra := fun xs S => ∃ k t, xs = [.str (Kd.s k), .int (t : Nat)] ∧ R.LkOk (k, t)) (w_consR (Ra := fun v S => v ∈ [V.str (Kd.s .way), .str (Kd.s .price)]) (w_cR (Ra := fun vs S => ∃ p, vs = [.ref b, .ref p] ∧ S p = some (.lst [.str (Kd.s .way), .str (Kd.s .price)])) (w_consR (w_var rfl : W _ _ _ (Is (V.ref b))) fun v S e ev => w_consR (w_lstO (xs := [.str (Kd.s .way), .str (Kd.s .price)]) (w_cons w_c (w_cons w_c w_nil))) fun v2 S2 e2 ⟨p, ev2, _, hp2⟩ => w_nilR fun S3 e3 => ⟨p, by rw [ev, ev2], e3 _ _ hp2⟩) fun vs S e ⟨p, ev, hp2⟩ => ev ▸ v_pick hg hp2 (by simp) (by decide)) fun v S e hv => w_consR (w_c0 (w_cons (w_var rfl) (w_cons (w_op (w_var rfl) w_c w_rI0) w_nil)) (v_draw (sz := (R.n : Nat) + 1) hg (by omega))) fun v2 S2 e2 ⟨t, ev2, ht2⟩ => w_nilR fun S3 e3 => ?_) fun xs S e ⟨k, t, ex, hk⟩ => ⟨by rw [ex]; exact (by decide : 2 ≤ 1000), fun p hp => ⟨p, (k, t), rfl, by unfold LkAt; rw [upd_same, ex], hk⟩⟩
      simp only [List.mem_cons, List.not_mem_nil, or_false] at hv
      rcases hv with ev | ev
      · exact ⟨.way, t, by rw [ev, ev2], by show t ≤ R.n; omega⟩
      · exact ⟨.price, t, by rw [ev, ev2], by show t ≤ R.n; omega⟩
    refine g_for (Rs := fun ys S => ∀ x ∈ ys, AskI R x S) (w_iLR (Ra := fun v S => ∃ (p : Addr) (xs : List V), v = .ref p ∧ S p = some (.lst xs) ∧ ∀ x ∈ xs, AskI R x S) (w_lstR (w_consP AskI.mono ((w_var rfl : W _ _ _ (Is v)).imp fun v' S e ev => by cases ev; exact hlook.mono _ _ _ e) fun S e => w_consP AskI.mono (w_tupR (Ra := fun xs S => ∃ t : Nat, xs = [.str (Kd.s .speed), .int (t : Nat)] ∧ t < R.n) (w_consR (w_c : W _ _ _ (Is (V.str (Kd.s .speed)))) fun v S e ev => w_consR (w_c0 (w_cons (w_var rfl) (w_cons (w_var rfl) w_nil)) (v_draw (sz := (R.n : Nat)) hg (by omega))) fun v2 S2 e2 ⟨t, ev2, ht2⟩ => w_nilR fun S3 e3 => ⟨t, by rw [ev, ev2], by omega⟩) fun xs S e ⟨t, ex, ht2⟩ => ⟨by rw [ex]; exact (by decide : 2 ≤ 1000), fun p hp => ⟨p, (.speed, t), rfl, by unfold LkAt; rw [upd_same, ex], ht2⟩⟩) fun S e => w_nilP) fun xs S e ⟨h1, h2⟩ => ⟨by omega, fun p hp => ⟨p, xs, rfl, upd_same, fun x hx => AskI.mono _ _ _ (Ex.new hp) (h1 x hx)⟩⟩) fun v S e ⟨p, xs, ev, hp, hx⟩ => ⟨p, xs, ev, sq_of hp, hx⟩) fun ys S5 e5 hys => ?_
    refine ⟨fun i σ' m' K' => (∃ a7 a8 a9 a10, σ' = [some (.ref b), some (.ref y.r), some (.int (R.n : Nat)), some (.int R.howMany), some (.ref qb), some z, some v, a7, a8, a9, a10]) ∧ (∃ o, m' = [(nbP K, o)] ∧ TabM K' o) ∧ Ex S5 K', ⟨⟨_, _, _, _, rfl⟩, ⟨_, rfl, hto.mono (e4.trans e5)⟩, .refl _⟩, fun _ _ _ _ h => h.2.2, ?_, fun σ' m' K' ⟨⟨a7, a8, a9, a10, es⟩, ⟨o, em, hto⟩, e6⟩ => ?_⟩
    · rintro j x σ' m' K4 hx ⟨⟨a7, a8, a9, a10, es⟩, ⟨o, em, hto⟩, e6⟩
      subst es em
      obtain ⟨q, lk, ex, hq, hlk⟩ := (hys x (List.mem_of_getElem? hx)).mono _ _ _ e6
      subst ex
      have e04 : Ex S1 K4 := (((e2.trans e3).trans e4).trans e5).trans e6
      have hrK := hr0.mono (e1.trans e04)
      refine g_name (gs_asg (w_c0 (w_cons (w_var rfl) (w_cons (w_var rfl) w_nil)) (v_look_numbers hrK ok hq hlk)) fun v S7 e7 ⟨d, ev, hd⟩ => ?_)
      subst ev
      have hll := look_len ok hlk
      have hne := Rec.look_ne ok hlk hh
      have nd := Rec.look_nd (R := R) (l := lk)
      refine gs_ifF (w_test (w_op (w_sumN (w_nums hd hll rfl (fun _ => rfl) fun od e S' he hd' => w_dgetK rfl rfl hd' (ienc_val nd he))) (w_var rfl) w_neI)) (by rw [Rec.look_all ok hlk, decide_eq_true rfl]; rfl) ?_
      refine gs_asg (w_pickKey hg rfl rfl hd hne hll) fun v S8 e8 ⟨s', ev, hs'⟩ => ?_
      subst ev
      refine gs_ifO (wo_behind (hrK.mono (e7.trans e8)) ok hfl (hq.mono (e7.trans e8)) hlk hs' (e8 _ _ hd) (hto.mono (e7.trans e8)) rfl rfl rfl rfl) fun o' S9 e9 ht9 => ?_
      refine g_ifF (w_test (w_op (w_maxN hne (Rec.look_pos hlk) (w_nums (e9 _ _ (e8 _ _ hd)) hll rfl (fun _ => rfl) fun od e S' he hd' => w_int1N (w_dgetK rfl rfl hd' (ienc_val nd he)))) (w_op (w_var rfl) w_c (w_ixT (st_of (e9 _ _ (e8 _ _ (e7 _ _ (e04 _ _ hqb))))) rfl)) w_rI0)) (decide_eq_false (by have := hbw lk hlk; show ¬ R.worst lk < bm; omega)) (g_turn ⟨⟨_, _, _, _, rfl⟩, ⟨o', rfl, ht9⟩, ((e6.trans e7).trans e8).trans e9⟩)
    · subst es em
      exact g_turn ⟨⟨_, _, _, _, _, _, rfl⟩, ⟨_, rfl, hto⟩, ((e3.trans e4).trans e5).trans e6⟩
  subst es em
  have e1K : Ex S1 K' := e2.trans e3
  refine g_ret (R := Is (V.bl true)) ((w_op (w_worstOf (hr0.mono (e1.trans e1K)) ok hblk hh (w_consR (w_var rfl : W _ _ _ (Is (V.ref y.r))) fun v S e ev => w_consR (w_op (w_var rfl) w_c (w_ixT (v := .ref qlb) (st_of (e _ _ (e1K _ _ hqb))) rfl)) fun v2 S2 e2 ev2 => w_nilR fun S3 e3 => ⟨qlb, by rw [ev, ev2], (hqlb.mono e1K).mono ((e.trans e2).trans e3)⟩)) (w_op (w_var rfl) w_c (w_ixT (v := .int bm) (st_of (e1K _ _ hqb)) rfl)) w_eqI).is (by rw [hbm, decide_eq_true rfl])) fun v S H' e s hv => hQ v o S H' s ⟨hv, hto.mono e⟩)

end
end Cm

/-! ## E30 -/
set_option maxHeartbeats 4000000
/-! The law: looks are right. -/
namespace Cm
open PySem PySem.Spec PyProof.Rows L2 Evl
local macro_rules | `(tactic| walk_at "w") => `(tactic| first
  | exact w_c
  | ((refine w_var ?_); rfl)
  | exact w_nil
  | ((refine w_cons (x := ?x) (xs := ?xs) ?h1 ?h2); (case h1 => walk_at "w"); (case h2 => walk_at "w"))
  | ((refine w_op (x := ?x) (y := ?y) ?h1 ?h2 ?h3); (case h1 => walk_at "w"); (case h2 => walk_at "w"); (case h3 => walk_at "w"))
  | exact w_rI0
  | exact w_rU
  | ((refine w_un (x := ?x) ?h1 ?h2); (case h1 => walk_at "w"); (case h2 => walk_at "w"))
  | ((refine w_rEq ?_); rfl)
  | ((refine w_rNe ?_); rfl)
  | ((refine w_test (b := ?b) ?h1); (case h1 => walk_at "w"))
  | ((refine w_tB (b := ?b) ?h1); (case h1 => walk_at "w"))
  | ((refine w_not (a := ?a) ?h1); (case h1 => walk_at "w"))
  | ((refine w_orU (a := ?a) (b := ?b) ?h1 ?h2); (case h1 => walk_at "w"); (case h2 => walk_at "w"))
  | ((refine w_andU (a := ?a) (b := ?b) ?h1 ?h2); (case h1 => walk_at "w"); (case h2 => walk_at "w"))
  | ((refine w_notV (a := ?a) ?h1); (case h1 => walk_at "w"))
  | ((refine w_orVU (a := ?a) (b := ?b) ?h1 ?h2); (case h1 => walk_at "w"); (case h2 => walk_at "w"))
  | ((refine w_andVU (a := ?a) (b := ?b) ?h1 ?h2); (case h1 => walk_at "w"); (case h2 => walk_at "w"))
  | ((refine w_chain1 (x := ?x) (y := ?y) (z := ?z) (p := ?p) (q := ?q) ?h1 ?h2 ?h3 ?h4 ?h5); (case h1 => walk_at "w"); (case h2 => walk_at "w"); (case h3 => walk_at "w"); (case h4 => walk_at "w"); (case h5 => walk_at "w"))
  | exact w_isN
  | exact w_max2
  | exact w_min2
  | exact w_int1
  | exact w_abs
  | (refine w_rI ?_; decide)
  | assumption)

section
variable {P : Program} {w : World} {K : PySem.W.Frag} {mg : Str → Option Value} {base : Heap} {g : Bg} {S : Hp}
theorem v_some {b l r : Addr} {R : Rec} {o : HO} (hg : g = some (b, l)) (h : RecAt K S r R) (ok : R.Ok) (hl : R.fs.length ≤ 9) (hh : 0 < R.howMany) (ht : TabM S o) : SpO g (sp_law_some_looks_right K) (nbP K) o [.ref b, .ref r, .int (R.n : Nat)] S fun v o S' => v = .bl true ∧ TabM S' o := by
  obtain ⟨ps, eo, ht⟩ := ht
  subst eo
  exact w_prO ((b, l), r, R, ps) (fun _ e => ⟨hg, h.mono e, ok, hl, hh, ht.mono e⟩) fun _ _ _ _ _ _ h => h
/-- a list of looks -/
def AskL (R : Rec) (m : Nat) (v : V) (S : Hp) : Prop := ∃ (p : Addr) (xs : List V), v = .ref p ∧ S p = some (.lst xs) ∧ (∀ x ∈ xs, AskI R x S) ∧ xs.length ≤ m
theorem AskL.mono {R : Rec} {m : Nat} (v : V) (S S' : Hp) (e : Ex S S') (h : AskL R m v S) : AskL R m v S' := by
  obtain ⟨p, xs, h1, h2, h3, h4⟩ := h
  exact ⟨p, xs, h1, e _ _ h2, fun x hx => (h3 x hx).mono _ _ _ e, h4⟩
/-- [(kind, tick) for tick in range(n)] -/
theorem w_asks {σ : L2.St} {j n : Nat} {R : Rec} {k : Kd} {tr : TA} {vs : List Nat} (h : W g (tr σ) S (Is [.int (n : Nat)])) (hn : n ≤ 50) (hk : ∀ t, t < n → R.LkOk (k, t)) (hj : ∀ x, wipe ((wipe σ vs).set j (some x)) vs = wipe σ vs) (hx : ∀ x, ((wipe σ vs).set j (some x))[j]? = some (some x)) :
    W g (tLc (iRng1 tr) (gName j) tYes (tTup (tCons (tC (.str k.s)) (tCons (tVar j) tNil))) vs σ) S (AskL R n) :=
  (w_lcN (ys := List.range n) (h := fun (n : Nat) => V.int (n : Int)) (Pv := fun t v S => ∃ q, v = .ref q ∧ LkAt S q (k, t)) (w_iN h rfl (by omega)) (by rw [List.length_range]; omega) (fun t v S S' e ⟨q, ev, hq⟩ => ⟨q, ev, hq.mono e⟩) fun i t S ht e => ⟨_, tg_name, hj _, (w_tupO (xs := [.str k.s, .int (t : Nat)]) (w_cons w_c (w_cons (w_var (hx _)) w_nil))).imp fun v S e ⟨q, ev, _, hq⟩ => ⟨q, ev, hq⟩⟩).imp fun v S' e ⟨p, xs, ev, _, hp, hl, hP⟩ => ⟨p, xs, ev, hp, fun x hx => by
    obtain ⟨i, hi, ei⟩ := List.mem_iff_getElem.mp hx
    rw [List.length_range] at hl
    obtain ⟨q, ex, hq⟩ := hP i i x (List.getElem?_range (by omega)) (by rw [List.getElem?_eq_getElem hi, ei])
    exact ⟨q, (k, i), ex, hq, hk i (by omega)⟩, by rw [List.length_range] at hl; omega⟩
theorem w_catAsk {R : Rec} {a b : Nat} {x y : V} (hx : AskL R a x S) (hy : AskL R b y S) (h : a + b ≤ 1000) : W g (rCat x y) S (AskL R (a + b)) := by
  obtain ⟨p, xs, ex, h1, h2, h3⟩ := hx
  obtain ⟨q, ys, ey, k1, k2, k3⟩ := hy
  subst ex ey
  exact (w_cat h1 k1 (by omega)).imp fun v S' e ⟨r, ev, _, hr⟩ => ⟨r, _, ev, hr, fun z hz => (List.mem_append.mp hz).elim (fun z2 => (h2 z z2).mono _ _ _ e) fun z2 => (k2 z z2).mono _ _ _ e, by rw [List.length_append]; omega⟩
theorem cut_mem {xs : List V} {lo hi : Option Int} {x : V} (h : x ∈ cutV xs lo hi) : x ∈ xs := List.mem_of_mem_drop (List.mem_of_mem_take h)
def sp_law_looks_right (K : PySem.W.Frag) : Sp := PrO (ι := (Addr × Addr) × Addr × Rec × Bool × Array Value) (fun x => [.ref x.1.1, .ref x.2.1, .int (x.2.2.1.n : Nat), .bl x.2.2.2.1]) (fun _ => nbP K) (fun x => .tbl x.2.2.2.2) (fun g x S => g = some x.1 ∧ RecAt K S x.2.1 x.2.2.1 ∧ x.2.2.1.Ok ∧ x.2.2.1.fs.length ≤ 9 ∧ 0 < x.2.2.1.howMany ∧ TabK x.2.2.2.2 nbQ S) (fun _ _ v o S => v = .bl true ∧ TabM S o)
theorem c_law_looks_right (T : Txt K mg) (TB : LamX.TabB base mg (nbC K) (nbP K)) : C8.Cal P w K mg base 14 "_law_looks_right" (sp_law_looks_right K) [] := mk_law_looks_right T (prO_len fun _ => rfl) (BdO.bs fun cdv A outer s H Q E hr => by
  have hu := hu_of hr
  have nd := sc_law_looks_right.nd
  refine ⟨_, (pss_cons (ps_if (pt_val (pv 3)) (pss_one (ps_ret (C8.pe_c (c_law_some_looks_right (K := K) T TB) hr (by decide) rfl (pa_cons (pv 0) (pa_cons (pv 1) (pa_cons (pv 2) pa_nil)))))) pss_nil)
      (pss_cons (ps_set (i := 4) nd rfl (by first | exact .inl rfl | exact .inr rfl) (C8.pe_mt0 (m_Record_how_many (K := K) T) hr (by decide) (pv 1)))
      (pss_cons (ps_set (i := 5) nd rfl (by first | exact .inl rfl | exact .inr rfl) (C8.pe_c (c_best_look (K := K) T) hr (by decide) rfl (pa_cons (pv 1) pa_nil)))
      (pss_cons (ps_if (pt_cmpR op_isN (pv 5) pe_non (nomark _)) (pss_one (ps_ret (pe_cmpR op_eq (pv 4) pe_int (nomark _)))) pss_nil)
      (pss_cons (ps_set (i := 6) nd rfl (by first | exact .inl rfl | exact .inr rfl) (pe_op op_cat (pe_lc (own := [("_law_tick", 10)]) (g := gName 10) (tt := tYes) rfl nd (pi_range1 rfl (T.free 54 rfl) (pa_cons (pv 2) pa_nil)) (blkOk_by (own := [("_law_tick", 10)]) (N := N_law_looks_right) (sc := d_law_looks_right.scope) (by decide +kernel)) (fun _ _ _ _ _ => (pg_name (i := 10) nd rfl (by first | exact .inl rfl | exact .inr rfl))) (fun _ _ _ _ _ => pts_nil) (fun _ _ _ _ _ => (pe_tup (pa_cons pe_str (pa_cons (pv 10) pa_nil))))) (pe_lc (own := [("_law_tick", 10)]) (g := gName 10) (tt := tYes) rfl nd (pi_range1 rfl (T.free 54 rfl) (pa_cons (pe_op op_add (pv 2) pe_int) pa_nil)) (blkOk_by (own := [("_law_tick", 10)]) (N := N_law_looks_right) (sc := d_law_looks_right.scope) (by decide +kernel)) (fun _ _ _ _ _ => (pg_name (i := 10) nd rfl (by first | exact .inl rfl | exact .inr rfl))) (fun _ _ _ _ _ => pts_nil) (fun _ _ _ _ _ => (pe_tup (pa_cons pe_str (pa_cons (pv 10) pa_nil)))))))
      (pss_cons (ps_set (i := 6) nd rfl (by first | exact .inl rfl | exact .inr rfl) (pe_op op_cat (pv 6) (pe_lc (own := [("_law_tick", 10)]) (g := gName 10) (tt := tYes) rfl nd (pi_range1 rfl (T.free 54 rfl) (pa_cons (pe_op op_add (pv 2) pe_int) pa_nil)) (blkOk_by (own := [("_law_tick", 10)]) (N := N_law_looks_right) (sc := d_law_looks_right.scope) (by decide +kernel)) (fun _ _ _ _ _ => (pg_name (i := 10) nd rfl (by first | exact .inl rfl | exact .inr rfl))) (fun _ _ _ _ _ => pts_nil) (fun _ _ _ _ _ => (pe_tup (pa_cons pe_str (pa_cons (pv 10) pa_nil)))))))
      (pss_cons (ps_for PassesOwn.never rfl (piL (K := K) rfl (pe_op op_cat (pe_slice (slL (K := K) rfl) (C8.pe_c (c_law_mixed (K := K) T) hr (by decide) rfl (pa_cons (pv 0) (pa_cons (pv 6) pa_nil))) po_none (po_some pe_int)) (pe_lst (pa_cons (pe_ix (ixT (K := K) rfl) (pv 5) pe_int (fun _ _ => rfl)) pa_nil)))) (pg_name (i := 7) nd rfl (by first | exact .inl rfl | exact .inr rfl))
      (pss_cons (ps_set (i := 8) nd rfl (by first | exact .inl rfl | exact .inr rfl) (C8.pe_c (c_look_numbers (K := K) T) hr (by decide) rfl (pa_cons (pv 1) (pa_cons (pv 7) pa_nil))))
      (pss_cons (ps_if (PW.pt (pw_or (pt_cmpR op_ne (pe_callB (cbSum (K := K) rfl rfl) rfl (T.free 57 rfl) bt_sum (pa_cons (pe_lock (pe_lc (own := [("_law_seen", 9)]) (g := gName 9) (tt := tYes) rfl nd (pi_keys (pv 8)) (blkOk_by (own := [("_law_seen", 9)]) (N := N_law_looks_right) (sc := d_law_looks_right.scope) (by decide +kernel)) (fun _ _ _ _ _ => (pg_name (i := 9) nd rfl (by first | exact .inl rfl | exact .inr rfl))) (fun _ _ _ _ _ => pts_nil) (fun _ _ _ _ _ => (pe_dget hu (pv 8) (pv 9) (fun _ _ => rfl))))) pa_nil)) (pv 4) (nomark _)) (pw_or1 (pt_cmpR op_lt (pe_callB (cbMax (K := K) rfl rfl) rfl (T.free 55 rfl) bt_max (pa_cons (pe_lock (pe_lc (own := [("_law_seen", 9)]) (g := gName 9) (tt := tYes) rfl nd (pi_keys (pv 8)) (blkOk_by (own := [("_law_seen", 9)]) (N := N_law_looks_right) (sc := d_law_looks_right.scope) (by decide +kernel)) (fun _ _ _ _ _ => (pg_name (i := 9) nd rfl (by first | exact .inl rfl | exact .inr rfl))) (fun _ _ _ _ _ => pts_nil) (fun _ _ _ _ _ => (pe_callTy call_int1 rfl (T.free 59 rfl) bt_int (pa_cons (pe_dget hu (pv 8) (pv 9) (fun _ _ => rfl)) pa_nil))))) pa_nil)) (pe_ix (ixT (K := K) rfl) (pv 5) pe_int (fun _ _ => rfl)) (nomark _))))) (pss_one (ps_ret pe_bl)) pss_nil)
      (pss_cons (ps_set (i := 9) nd rfl (by first | exact .inl rfl | exact .inr rfl) (C8.pe_c (c_law_pick (K := K) T) hr (by decide) rfl (pa_cons (pv 0) (pa_cons (pe_callB (call_sortedDK rfl) rfl (T.free 62 rfl) bt_sorted (pa_cons (pv 8) pa_nil)) pa_nil))))
      (pss_one (ps_if (PW.pt (pw_or (pt_cmpR op_lt (pe_dget hu (pv 8) (pv 9) (fun _ _ => rfl)) pe_int (nomark _)) (pw_or1 (pt_cmpR op_ne (C8.pe_c (c_law_number_behind (K := K) T TB) hr (by decide) rfl (pa_cons (pv 1) (pa_cons (C8.pe_c (c_law_look_fact (K := K) T) hr (by decide) rfl (pa_cons (pv 7) (pa_cons (pv 9) pa_nil))) pa_nil))) (pe_dget hu (pv 8) (pv 9) (fun _ _ => rfl)) (nomark _))))) (pss_one (ps_ret pe_bl)) pss_nil))))))
      (pss_one (ps_ret (pe_and (pe_cmpR op_eq (pe_callB (cbMax (K := K) rfl rfl) rfl (T.free 55 rfl) bt_max (pa_cons (pe_listVals rfl rfl (T.free 53 rfl) (C8.pe_c (c_look_numbers (K := K) T) hr (by decide) rfl (pa_cons (pv 1) (pa_cons (pe_ix (ixT (K := K) rfl) (pv 5) pe_int (fun _ _ => rfl)) pa_nil)))) pa_nil)) (pe_ix (ixT (K := K) rfl) (pv 5) pe_int (fun _ _ => rfl)) (nomark _)) (pe_one (pe_cmpR op_eq (C8.pe_mt0 (m_Record_how_many (K := K) T) hr (by decide) (pv 1)) (pv 4) (nomark _))))))))))))), fun g S0 H0 x hp hQ => ?_⟩
  obtain ⟨⟨b, l⟩, r, R, many, ps⟩ := x
  obtain ⟨hg, hr0, ok, hfl, hh, ht0⟩ := hp
  dsimp only at hr0 ok hfl hh ht0
  have hg : (⟨g, S0, H0⟩ : Ct).g = some (b, l) := hg
  obtain ⟨y, er, hr1, hB⟩ := RecAt.b hr0
  subst er
  have hn := ok.n1
  obtain ⟨bl, bm, hbest, hblk, hbm, hbw⟩ := Rec.best_spec (R := R) hn.1
  show G ⟨g, S0, H0⟩ _ (start N_law_looks_right [.ref b, .ref y.r, .int (R.n : Nat), .bl many]) [(nbP K, .tbl ps)] S0
  refine gs_ifN (b := many) (w_tB (w_var rfl)) (fun _ => ?_) fun _ => ?_
  · exact g_retO (wo_c0 (w_cons (w_var rfl) (w_cons (w_var rfl) (w_cons (w_var rfl) w_nil))) fun vs S e hv => hv ▸ v_some hg (hr0.mono e) ok hfl hh ⟨ps, rfl, ht0.mono e⟩) fun v o' S H' e h s => hQ v o' S H' s h
  refine gs_asgI (w_m0 (w_var rfl) hr1 rfl w_nil (v_how_many hr0 ok)) ?_
  refine gs_asg (w_c0 (w_cons (w_var rfl) w_nil) (v_best hr0 ok hh)) fun v S1 e1 hbv => ?_
  rw [hbest] at hbv
  obtain ⟨qb, qlb, ev, hqb, hqlb⟩ := hbv
  subst ev
  refine gs_ifN (b := false) (w_test ((w_op (w_var rfl) w_c w_isN).is rfl)) (fun z => by cases z) fun _ => ?_
  refine gs_asg (R := AskL R (R.n + (R.n + 1))) (w_opRL (w_asks (n := R.n) (R := R) (k := .speed) (w_cons (w_var rfl) w_nil) (by omega) (fun t ht => ht) (fun _ => rfl) fun _ => rfl) (fun x S e hx => w_asks (n := R.n + 1) (R := R) (k := .way) (w_cons (w_op (w_var rfl) w_c w_rI0) w_nil) (by omega) (fun t ht => Nat.le_of_lt_succ ht) (fun _ => rfl) fun _ => rfl) fun x S2 y' S3 e2 hx e3 hy => w_catAsk (hx.mono _ _ _ e3) hy (by omega)) fun v S2 e2 hl1 => ?_
  refine gs_asg (R := AskL R (R.n + (R.n + 1) + (R.n + 1))) (w_opRR (w_var rfl) (w_asks (n := R.n + 1) (R := R) (k := .price) (w_cons (w_op (w_var rfl) w_c w_rI0) w_nil) (by omega) (fun t ht => Nat.le_of_lt_succ ht) (fun _ => rfl) fun _ => rfl) fun y' S3 e3 hy => w_catAsk (hl1.mono _ _ _ e3) hy (by omega)) fun v2 S3 e3 hl2 => ?_
  obtain ⟨lp, lxs, ev2, hlp, hlx, hll⟩ := hl2
  subst ev2
  refine gs_for (Rs := fun ys S => ∀ x ∈ ys, AskI R x S) (w_iLR (Ra := AskL R 1000) (w_opRL (Ra := AskL R 900) (w_slR (Ra := AskL R 900) (w_c0 (w_cons (w_var rfl) (w_cons (w_var rfl) w_nil)) fun E => W.imp (v_mixed hg hlp (by omega) E) fun v S e ⟨q, ys, ev, _, hq, hP⟩ => ⟨q, ys, ev, hq, fun x hx => (hlx x (hP.subset hx)).mono _ _ _ e, by have := hP.length_eq; omega⟩) (fun S e => w_po0) (fun S e => w_po1 w_c) fun x S e ⟨q, ys, ex, hq, hys, hyl⟩ => by
      subst ex
      exact (w_slL (sq_of hq)).imp fun v S' e' ⟨p, ev, _, hp⟩ => ⟨p, _, ev, hp, fun x hx => (hys x (cut_mem hx)).mono _ _ _ e', Nat.le_trans (cutV_length _ _ _) hyl⟩) (fun x S e hx => w_lstR (Ra := fun xs S => xs = [V.ref qlb]) (w_consR (w_op (w_var rfl) w_c (w_ixT (v := .ref qlb) (st_of (e _ _ (e3 _ _ (e2 _ _ hqb)))) rfl)) fun v S e ev => w_nilR fun S2 e2 => by rw [ev]) fun xs S' e' ex => ⟨by rw [ex]; exact (by decide : 1 ≤ 1000), fun p hp => (⟨p, xs, rfl, upd_same, fun z hz => by
      rw [ex] at hz
      rw [List.mem_singleton.mp hz]
      exact ⟨qlb, bl, rfl, hqlb.mono ((((e2.trans e3).trans e).trans e').trans (Ex.new hp)), hblk⟩, by rw [ex]; exact Nat.le_refl 1⟩ : AskL R 1 (.ref p) (upd S' p (.lst xs)))⟩) fun x S4 y' S5 e4 hx e5 hy => (w_catAsk (hx.mono _ _ _ e5) hy (by omega)).imp fun v S e ⟨p, xs, h1, h2, h3, h4⟩ => ⟨p, xs, h1, h2, h3, by omega⟩) fun v S e ⟨p, xs, ev, hp, hx, _⟩ => ⟨p, xs, ev, sq_of hp, hx⟩) fun ys S5 e5 hys => ?_
  refine ⟨fun i σ' m' K' => (∃ a7 a8 a9, σ' = [some (.ref b), some (.ref y.r), some (.int (R.n : Nat)), some (.bl many), some (.int R.howMany), some (.ref qb), some (.ref lp), a7, a8, a9, none]) ∧ (∃ o, m' = [(nbP K, o)] ∧ TabM K' o) ∧ Ex S5 K', ⟨⟨_, _, _, rfl⟩, ⟨_, rfl, ps, rfl, ht0.mono (((e1.trans e2).trans e3).trans e5)⟩, .refl _⟩, fun _ _ _ _ h => h.2.2, ?_, fun σ' m' K' ⟨⟨a7, a8, a9, es⟩, ⟨o, em, hto⟩, e6⟩ => ?_⟩
  · rintro j x σ' m' K4 hx ⟨⟨a7, a8, a9, es⟩, ⟨o, em, hto⟩, e6⟩
    subst es em
    obtain ⟨q, lk, ex, hq, hlk⟩ := (hys x (List.mem_of_getElem? hx)).mono _ _ _ e6
    subst ex
    have e04 : Ex S1 K4 := ((e2.trans e3).trans e5).trans e6
    have hrK := hr0.mono (e1.trans e04)
    refine g_name (gs_asg (w_c0 (w_cons (w_var rfl) (w_cons (w_var rfl) w_nil)) (v_look_numbers hrK ok hq hlk)) fun v S7 e7 ⟨d, ev, hd⟩ => ?_)
    subst ev
    have hlen := look_len ok hlk
    have hne := Rec.look_ne ok hlk hh
    have nd := Rec.look_nd (R := R) (l := lk)
    refine gs_ifF (w_orU (w_test (w_op (w_sumN (w_nums hd hlen rfl (fun _ => rfl) fun od e S' he hd' => w_dgetK rfl rfl hd' (ienc_val nd he))) (w_var rfl) w_neI)) (w_test (w_op (w_maxN hne (Rec.look_pos hlk) (w_nums hd hlen rfl (fun _ => rfl) fun od e S' he hd' => w_int1N (w_dgetK rfl rfl hd' (ienc_val nd he)))) (w_op (w_var rfl) w_c (w_ixT (v := .int bm) (st_of (e7 _ _ (e04 _ _ hqb))) rfl)) w_rI0))) (by
      have h1 := hbw lk hlk
      rw [Rec.look_all ok hlk, decide_eq_true rfl, Bool.not_true, Bool.false_or]
      exact decide_eq_false (by show ¬ R.worst lk < bm; omega)) ?_
    refine gs_asg (w_pickKey hg rfl rfl hd hne hlen) fun v S8 e8 ⟨s', ev, hs'⟩ => ?_
    subst ev
    have hs1 : 1 ≤ (R.look lk).get0 s' := by
      obtain ⟨n, h1, h2⟩ := qget_in hs'
      have := Rec.look_pos hlk _ h2
      rw [Ip_get0]
      unfold qget0
      rw [h1]
      exact this
    exact g_ifO (wo_orF ((w_test (w_op (w_dgetN rfl rfl (e8 _ _ hd) (ienc_at hs')) w_c w_rI0)).is (decide_eq_false (by omega))) (wo_behind (hrK.mono (e7.trans e8)) ok hfl (hq.mono (e7.trans e8)) hlk hs' (e8 _ _ hd) (hto.mono (e7.trans e8)) rfl rfl rfl rfl)) fun o' S9 e9 ht9 => g_turn ⟨⟨_, _, _, rfl⟩, ⟨o', rfl, ht9⟩, ((e6.trans e7).trans e8).trans e9⟩
  subst es em
  have e1K : Ex S1 K' := ((e2.trans e3).trans e5).trans e6
  refine g_ret (R := Is (V.bl (true && true))) (w_andVU ((w_op (w_worstOf (hr0.mono (e1.trans e1K)) ok hblk hh (w_consR (w_var rfl : W _ _ _ (Is (V.ref y.r))) fun v S e ev => w_consR (w_op (w_var rfl) w_c (w_ixT (v := .ref qlb) (st_of (e _ _ (e1K _ _ hqb))) rfl)) fun v2 S2 e2 ev2 => w_nilR fun S3 e3 => ⟨qlb, by rw [ev, ev2], (hqlb.mono e1K).mono ((e.trans e2).trans e3)⟩)) (w_op (w_var rfl) w_c (w_ixT (v := .int bm) (st_of (e1K _ _ hqb)) rfl)) w_eqI).is (by rw [hbm, decide_eq_true rfl])) ((w_op (w_m0 (w_var rfl) ((e1.trans e1K) _ _ hr1) rfl w_nil (v_how_many (hr0.mono (e1.trans e1K)) ok)) (w_var rfl) w_eqI).is (by rw [decide_eq_true rfl]))) fun v S H' e s hv => hQ v o S H' s ⟨hv, hto.mono e⟩)

theorem v_looks {b l r : Addr} {R : Rec} {o : HO} {many : Bool} (hg : g = some (b, l)) (h : RecAt K S r R) (ok : R.Ok) (hl : R.fs.length ≤ 9) (hh : 0 < R.howMany) (ht : TabM S o) : SpO g (sp_law_looks_right K) (nbP K) o [.ref b, .ref r, .int (R.n : Nat), .bl many] S fun v o S' => v = .bl true ∧ TabM S' o := by
  obtain ⟨ps, eo, ht⟩ := ht
  subst eo
  exact w_prO ((b, l), r, R, many, ps) (fun _ e => ⟨hg, h.mono e, ok, hl, hh, ht.mono e⟩) fun _ _ _ _ _ _ h => h
end
end Cm

/-! ## E31 -/
set_option maxHeartbeats 4000000
/-! The law: rules for its own frame. -/
namespace Cm
open PySem PySem.Spec PyProof.Rows L2 Evl
local macro_rules | `(tactic| walk_at "w") => `(tactic| first
  | exact w_c
  | ((refine w_var ?_); rfl)
  | exact w_nil
  | ((refine w_cons (x := ?x) (xs := ?xs) ?h1 ?h2); (case h1 => walk_at "w"); (case h2 => walk_at "w"))
  | ((refine w_op (x := ?x) (y := ?y) ?h1 ?h2 ?h3); (case h1 => walk_at "w"); (case h2 => walk_at "w"); (case h3 => walk_at "w"))
  | exact w_rI0
  | exact w_rU
  | ((refine w_un (x := ?x) ?h1 ?h2); (case h1 => walk_at "w"); (case h2 => walk_at "w"))
  | ((refine w_rEq ?_); rfl)
  | ((refine w_rNe ?_); rfl)
  | ((refine w_test (b := ?b) ?h1); (case h1 => walk_at "w"))
  | ((refine w_tB (b := ?b) ?h1); (case h1 => walk_at "w"))
  | ((refine w_not (a := ?a) ?h1); (case h1 => walk_at "w"))
  | ((refine w_orU (a := ?a) (b := ?b) ?h1 ?h2); (case h1 => walk_at "w"); (case h2 => walk_at "w"))
  | ((refine w_andU (a := ?a) (b := ?b) ?h1 ?h2); (case h1 => walk_at "w"); (case h2 => walk_at "w"))
  | ((refine w_notV (a := ?a) ?h1); (case h1 => walk_at "w"))
  | ((refine w_orVU (a := ?a) (b := ?b) ?h1 ?h2); (case h1 => walk_at "w"); (case h2 => walk_at "w"))
  | ((refine w_andVU (a := ?a) (b := ?b) ?h1 ?h2); (case h1 => walk_at "w"); (case h2 => walk_at "w"))
  | ((refine w_chain1 (x := ?x) (y := ?y) (z := ?z) (p := ?p) (q := ?q) ?h1 ?h2 ?h3 ?h4 ?h5); (case h1 => walk_at "w"); (case h2 => walk_at "w"); (case h3 => walk_at "w"); (case h4 => walk_at "w"); (case h5 => walk_at "w"))
  | exact w_isN
  | exact w_max2
  | exact w_min2
  | exact w_int1
  | exact w_abs
  | (refine w_rI ?_; decide)
  | assumption)

section
variable {P : Program} {w : World} {K : PySem.W.Frag} {mg : Str → Option Value} {base : Heap} {g : Bg} {S : Hp}
theorem Rec.fits_ok {R : Rec} (ok : R.Ok) {tr : List Nat} (hw : tr ∈ trips R.top R.n) (h : R.fs.all (R.M.told tr) = true) : R.fits tr = true := by
  have hl := (trips_mem.mp hw).1
  rw [← Rec.okT_all ok hw] at h
  obtain ⟨h0, h1⟩ := Bool.and_eq_true_iff.mp h
  have h1 := Rec.okF_iff.mp h1
  have key : ∀ t, t ≤ R.n → R.M.pl (tr.take t) ∈ R.placesOn tr t := by
    intro t
    induction t with
    | zero =>
      intro _
      show (0, 0) ∈ R.begins
      unfold Rec.begins
      rw [if_pos h0]
      exact List.mem_cons_self
    | succ t ih =>
      intro ht
      have hlt : t < tr.length := by omega
      refine List.mem_flatMap.mpr ⟨_, ih (by omega), ?_⟩
      have hs := h1 t hlt
      rw [Nat.zero_add] at hs
      have hgd : tr.getD t 0 = tr[t] := by rw [List.getD_eq_getElem?_getD, List.getElem?_eq_getElem hlt]; rfl
      rw [hgd, Rec.pl_next hlt]
      exact List.mem_map.mpr ⟨tr[t], List.mem_filter.mpr ⟨hs, decide_eq_true rfl⟩, rfl⟩
  exact decide_eq_true (List.length_pos_of_mem (key R.n (Nat.le_refl _)))
/-- what is drawn for the law -/
structure Drawn (M : Mtr) (n top : Nat) : Prop where
  m : M.Ok
  n1 : 1 ≤ n ∧ n ≤ 24
  t1 : 1 ≤ top ∧ top ≤ 3
  o : n ≤ 5 ∨ top = 1
theorem Drawn.ok {M : Mtr} {n top : Nat} (h : Drawn M n top) {fs : List Fact} (hl : fs.length ≤ 10) (hf : ∀ f ∈ fs, f.Ok n) : Rec.Ok ⟨M, n, top, fs⟩ := by
  obtain ⟨h1, h2, h3, h4⟩ := h
  have t9 : 1 ≤ top ∧ top ≤ 9 := by omega
  rcases h4 with z | z
  · refine ⟨h1, h2, t9, ?_, ?_, hl, hf⟩
    · exact Nat.le_trans (Nat.pow_le_pow_left (show top + 1 ≤ 4 by omega) n) (Nat.le_trans (Nat.pow_le_pow_right (by decide) z) (by decide))
    · exact Nat.le_trans (Nat.mul_le_mul (Nat.succ_le_succ (Nat.mul_le_mul z h3.2)) (Nat.succ_le_succ (Nat.mul_le_mul_left 60 z))) (by decide)
  · subst z
    refine ⟨h1, h2, t9, ?_, ?_, hl, hf⟩
    · show (1 + 1) ^ n ≤ 16777216
      exact Nat.le_trans (Nat.pow_le_pow_right (by decide) h2.2) (by decide)
    · exact Nat.le_trans (Nat.mul_le_mul (Nat.succ_le_succ (Nat.mul_le_mul_right 1 h2.2)) (Nat.succ_le_succ (Nat.mul_le_mul_left 60 h2.2))) (by decide)
theorem v_meter {b l : Addr} (hg : g = some (b, l)) : SpW g (sp_law_meter K) [.ref b, .int 12] S (fun v S' => ∃ q M, v = .ref q ∧ PlainAt S' q M ∧ M.Ok) := w_pr (b, l) (fun _ _ => hg) fun _ _ _ _ _ h => h
theorem v_base_trip {b l : Addr} {n t : Nat} (hg : g = some (b, l)) (hn : n ≤ 100) (ht : t ≤ 9) : SpW g (sp_law_base_trip K) [.ref b, .int n, .int t] S (fun v _ => ∃ tr : List Nat, v = .str (dgS tr) ∧ tr.length = n ∧ ∀ d ∈ tr, d ≤ t) := w_pr ((b, l), n, t) (fun _ _ => ⟨hg, hn, ht⟩) fun _ _ _ _ _ h => h
theorem v_clash_right {x : RB} {R : Rec} {wy : Int} (h : RecB K S x R) (ok : R.Ok) (hl : R.fs.length ≤ 9) (hw : 0 ≤ wy) (hin : Fact.passed R.n wy ∈ R.fs) : SpO g (sp_law_clash_right K) x.r (x.o K) [.ref x.r, .int (R.n : Nat), .int wy] S fun v _ _ => v = .bl true := w_prO (x, R, wy) (fun _ e => ⟨h.mono e, ok, hl, hw, hin⟩) fun _ _ _ _ _ _ h => h
theorem w_RecordR {σ : L2.St} {tr : TA} {M : Mtr} {n top : Nat} (h : W g (tr σ) S (fun vs S' => ∃ p, vs = [.ref p, .int n, .int top] ∧ MtrAt K S' p M)) (hn : n ≤ 40) (ht : top ≤ 9) :
    W g (tMake (CR K) (sp_Record_init K) [] C8.E0 tr σ) S (fun v S' => ∃ q ob, v = .ref q ∧ S q = none ∧ S' q = some ob ∧ NotT ob ∧ MadeR K ⟨M, n, top, []⟩ q ob S') :=
  w_make0 h fun vs S1 e ⟨p, ev, hm⟩ x dx hx hk ne => by
    subst ev
    exact w_prO (⟨x, dx, p, n, top, M⟩ : RArg) (fun K1 e1 => ⟨hm.mono e1, hn, ht⟩) fun K1 v o' S' e1 e2 ⟨h1, q, t, h2, h3⟩ => ⟨h1, fun hn => ⟨x, o', rfl, hk, upd_same, (fun ys z => by rw [h2] at z; cases z), ⟨x, dx, p, q, top, t⟩, rfl, h2, rfl, h3.mono (Ex.made hn)⟩⟩
theorem w_iR1R {σ : L2.St} {tr : TA} {m : Nat} {Ra : List V → Hp → Prop} (h : W g (tr σ) S Ra) (hr : ∀ vs S', Ex S S' → Ra vs S' → ∃ n : Int, vs = [.int n] ∧ 0 ≤ n ∧ n ≤ m) (hm : m ≤ 1000) : W g (iRng1 tr σ) S (fun J S' => ∃ ys, Wk S' J ys ∧ ys.length ≤ m) :=
  h.bind (h := fun vs H Q => iRng1 (fun _ H Q => Q vs H) σ H Q) fun vs S1 e hv => by
    obtain ⟨n, ev, h0, hn⟩ := hr vs S1 e hv
    subst ev
    exact (w_iR1 (tr := fun _ H Q => Q [.int n] H) (n := n) (fun K2 H e a Q q => q _ K2 H a rfl) (by omega)).imp fun J S' e ⟨ys, h1, h2⟩ => ⟨ys, h1, by rw [h2, rgL_len]; omega⟩
section
variable {c : Ct} {m : List (Addr × HO)} {K0 : Hp} {σ : L2.St} {D : Ends} {t z : TS} {ta tb te : TE} {tt : TT} {r : Addr} {o : HO} {b : Bool} {R : HO → Hp → Prop}
theorem wo_notT (h : WO c (te σ) r o m K0 fun v o' S => v = .bl true ∧ R o' S) : WOa c (tNot (tB te) σ) r o m K0 fun b o' S => b = false ∧ R o' S :=
  fun K1 H e s Q q => h K1 H e s _ fun v o' S H' s' e' ⟨ev, hR⟩ => ⟨true, ev, q false o' S H' s' e' ⟨rfl, hR⟩⟩
theorem wo_andV {RO : V → HO → Hp → Prop} (h1 : ∀ K1, Ex K0 K1 → Ex K1 (ov ((r, o) :: m) K1) → W c.g (ta σ) (ov ((r, o) :: m) K1) (Is (.bl true))) (h2 : WO c (tb σ) r o m K0 RO) : WO c (tAndV ta tb σ) r o m K0 RO :=
  fun K1 H e s Q q => h1 K1 e s.ovK _ H (.refl _) s.hereM _ fun v S H' d hv => ⟨true, hv, iteT (h2 K1 H' e (s.toM d) Q q)⟩
/-- both ways behind an if come together -/
theorem gs_ifJm {Rr : L2.St → Hp → Prop} (h : W c.g (tt σ) K0 (Is b)) (k : ∀ σ' S, Ex K0 S → Rr σ' S → G c (z D) σ' m S) (h2 : b = false → Rr σ K0)
    (h1 : b = true → (∀ σ' S, Ex K0 S → Rr σ' S → G c (z D) σ' m S) → G c (t { D with nx := z D }) σ m K0) : G c (tSeq (tIfS tt t tNext) z D) σ m K0 := gs_ifN h (fun e => h1 e k) fun e => k σ K0 (.refl _) (h2 e)
/-- from now on the bag may change -/
theorem g_bag {P : L2.St → Hp → Prop} {p bb l : Addr} {ps : Array Value} {ns : List Int} (hb : K0 bb = some (bagO l 0 0 17 0)) (hl : K0 l = some (.lst (ns.map V.int))) (hne : l ≠ bb) (k : ∀ H2, G ⟨some (bb, l), cut1 K0 bb, H2⟩ P σ [(p, .tbl ps)] (cut1 K0 bb)) : G c P σ [(p, .tbl ps)] K0 := fun H s => by
  obtain ⟨m1, m2, m3⟩ := s.mu (p, .tbl ps) List.mem_cons_self
  have hp : ∀ {a : Addr} {o : HO}, K0 a = some o → a ≠ p := fun {a o} h z => by rw [z, m2] at h; cases h
  have hHb := s.a.kh _ _ hb
  have hHl := s.a.kh _ _ hl
  refine k (cut1 H p) H ⟨⟨fun a o h => ?_, .refl _, cut_le.trans s.a.kh, fun a o _ h => (cut_some h).2, fun a h _ => .inl h, fun b' l' e => ?_⟩, fun q hq => ?_, fun q hq => s.nt q hq, s.nd⟩
  · obtain ⟨n, h2⟩ := cut_some h
    show cut1 H p a = some o
    rw [cut_ne (hp h2)]
    exact s.a.kh _ _ h2
  · cases e
    refine ⟨?_, ?_, ⟨ns, 0, 0, 17, 0, hHb, hne, hHl, Int.le_refl _, Int.le_refl _⟩, cut_at⟩
    · show cut1 H p bb ≠ none
      rw [cut_ne (hp hb), hHb]; exact Option.some_ne_none _
    · show cut1 H p l ≠ none
      rw [cut_ne (hp hl), hHl]; exact Option.some_ne_none _
  · rw [List.mem_singleton.mp hq]
    refine ⟨m1, ?_, cut_at⟩
    show cut1 K0 bb p = none
    by_cases z : p = bb
    · rw [z]; exact cut_at
    · rw [cut_ne z]; exact m2
end
theorem TabM.cut {o : HO} {r dx C : Addr} {fs : List (Str × V)} (h : TabM S o) (hr : S r = some (.ins C dx fs)) : TabM (cut1 S r) o := by
  obtain ⟨ps, h1, h2, h3⟩ := h
  refine ⟨ps, h1, h2, fun pos cv hc => ?_⟩
  obtain ⟨cc, e1, e2⟩ := h3 pos cv hc
  refine ⟨cc, e1, ?_⟩
  rw [cut_ne (fun z => by rw [z, hr] at e2; unfold LamX.CodeO at e2; cases e2)]
  exact e2
theorem cut_head {q : V} {qs : List V} : cutV (q :: qs) none (some 1) = [q] := by
  unfold cutV
  rw [HT.sIx_none]
  have : HT.sIx (q :: qs).length (q :: qs).length (some 1) = 1 := by
    rw [show (some (1 : Int)) = some ((1 : Nat) : Int) from rfl, HT.sIx_nat]
    rw [List.length_cons]
    omega
  rw [this]
  rfl
/-- the meter with its first table alone -/
def Mtr.one (M : Mtr) : Mtr := { M with tables := M.tables.take 1, turns := [] }
theorem Mtr.one_ok {M : Mtr} (ok : M.Ok) : M.one.Ok := ⟨ok.f1, ok.d1, ok.g1, ok.e1, by
  have := ok.tl
  show 1 ≤ (M.tables.take 1).length ∧ (M.tables.take 1).length ≤ 3
  rw [List.length_take]
  omega, fun ws h => ok.ts ws (List.mem_of_mem_take h), by
  have := ok.tl
  show 0 + 1 = (M.tables.take 1).length
  rw [List.length_take]
  omega, fun x h => (nomatch h), List.Pairwise.nil⟩
end
end Cm

/-! ## E32 -/
set_option maxHeartbeats 4000000
/-! The law. -/
namespace Cm
open PySem PySem.Spec PyProof.Rows L2 Evl
local macro_rules | `(tactic| walk_at "w") => `(tactic| first
  | exact w_c
  | ((refine w_var ?_); rfl)
  | exact w_nil
  | ((refine w_cons (x := ?x) (xs := ?xs) ?h1 ?h2); (case h1 => walk_at "w"); (case h2 => walk_at "w"))
  | ((refine w_op (x := ?x) (y := ?y) ?h1 ?h2 ?h3); (case h1 => walk_at "w"); (case h2 => walk_at "w"); (case h3 => walk_at "w"))
  | exact w_rI0
  | exact w_rU
  | ((refine w_un (x := ?x) ?h1 ?h2); (case h1 => walk_at "w"); (case h2 => walk_at "w"))
  | ((refine w_rEq ?_); rfl)
  | ((refine w_rNe ?_); rfl)
  | ((refine w_test (b := ?b) ?h1); (case h1 => walk_at "w"))
  | ((refine w_tB (b := ?b) ?h1); (case h1 => walk_at "w"))
  | ((refine w_not (a := ?a) ?h1); (case h1 => walk_at "w"))
  | ((refine w_orU (a := ?a) (b := ?b) ?h1 ?h2); (case h1 => walk_at "w"); (case h2 => walk_at "w"))
  | ((refine w_andU (a := ?a) (b := ?b) ?h1 ?h2); (case h1 => walk_at "w"); (case h2 => walk_at "w"))
  | ((refine w_notV (a := ?a) ?h1); (case h1 => walk_at "w"))
  | ((refine w_orVU (a := ?a) (b := ?b) ?h1 ?h2); (case h1 => walk_at "w"); (case h2 => walk_at "w"))
  | ((refine w_andVU (a := ?a) (b := ?b) ?h1 ?h2); (case h1 => walk_at "w"); (case h2 => walk_at "w"))
  | ((refine w_chain1 (x := ?x) (y := ?y) (z := ?z) (p := ?p) (q := ?q) ?h1 ?h2 ?h3 ?h4 ?h5); (case h1 => walk_at "w"); (case h2 => walk_at "w"); (case h3 => walk_at "w"); (case h4 => walk_at "w"); (case h5 => walk_at "w"))
  | exact w_isN
  | exact w_max2
  | exact w_min2
  | exact w_int1
  | exact w_abs
  | (refine w_rI ?_; decide)
  | assumption)

section
variable {P : Program} {w : World} {K : PySem.W.Frag} {mg : Str → Option Value} {base : Heap} {g : Bg} {S : Hp}
theorem sql_cut {K : PySem.W.Frag} {H : Hp} {a p : Addr} {xs : List V} {ps : Array Value} (h : SqL K H a xs) (hp : H p = some (.tbl ps)) : SqL K (cut1 H p) a xs := h.imp (fun h => by
  have ne : a ≠ p := fun z => by
    rw [z] at h
    rcases h with h | ⟨o, h⟩ <;> rw [hp] at h <;> cases h
  rcases h with h | ⟨o, h⟩
  · exact .inl (by rw [cut_ne ne]; exact h)
  · exact .inr ⟨o, by rw [cut_ne ne]; exact h⟩) id
theorem RecB.cut {x : RB} {R : Rec} (h1 : S x.r = some (x.o K)) (h : RecB K S x R) : RecB K (cut1 S x.r) x R := by
  obtain ⟨y, er, hy, hB⟩ := RecAt.cut (RecB.at h1 h)
  rw [h1] at hy
  have hy := Option.some.inj hy
  obtain ⟨xr, xdx, xp, xq, xt, xf⟩ := x
  obtain ⟨yr, ydx, yp, yq, yt, yf⟩ := y
  have er : yr = xr := er
  have hy : HO.ins (CR K) xdx (recF xp xq xt xf) = HO.ins (CR K) ydx (recF yp yq yt yf) := hy
  injection hy with _ h2 h3
  injection h3 with h4 h5
  injection h5 with h6 h7
  injection h7 with h8 h9
  injection h9 with h10 _
  injection h4 with _ h4
  injection h4 with h4
  injection h6 with _ h6
  injection h6 with h6
  injection h8 with _ h8
  injection h8 with h8
  injection h10 with _ h10
  injection h10 with h10
  subst er h2 h4 h6 h8 h10
  exact hB
def sp_law (K : PySem.W.Frag) : Sp := fun vs H Q _ => ∃ (a : Addr) (ns : List Int), vs = [.ref a] ∧ SqL K H a (ns.map V.int) ∧ H (nbP K) = some (.tbl #[]) ∧ ∀ H', Q (.bl true) H'
theorem b_law (T : Txt K mg) (TB : LamX.TabB base mg (nbC K) (nbP K)) : Bs P w K mg base N_law d_law 14 (sp_law K) := id  (fun cdv A outer s H Q E hr => by
  have hu := hu_of hr
  have nd := sc_law.nd
  refine ⟨_, (pss_cons (ps_set (i := 1) nd rfl (by first | exact .inl rfl | exact .inr rfl) (C8.pe_c (c_law_bag (K := K) T) hr (by decide) rfl (pa_cons (pv 0) pa_nil)))
      (pss_cons (ps_set (i := 2) nd rfl (by first | exact .inl rfl | exact .inr rfl) (C8.pe_c (c_law_meter (K := K) T) hr (by decide) rfl (pa_cons (pv 1) (pa_cons pe_int pa_nil))))
      (pss_cons (ps_set (i := 3) nd rfl (by first | exact .inl rfl | exact .inr rfl) (pe_op op_add pe_int (C8.pe_c (c_law_draw (K := K) T) hr (by decide) rfl (pa_cons (pv 1) (pa_cons pe_int pa_nil)))))
      (pss_cons (ps_set (i := 4) nd rfl (by first | exact .inl rfl | exact .inr rfl) (pe_cmpR op_eq (C8.pe_c (c_law_draw (K := K) T) hr (by decide) rfl (pa_cons (pv 1) (pa_cons pe_int pa_nil))) pe_int (nomark _)))
      (pss_cons (ps_if (pt_val (pv 4)) (pss_cons (ps_set (i := 3) nd rfl (by first | exact .inl rfl | exact .inr rfl) pe_int)
      (pss_one (ps_set (i := 2) nd rfl (by first | exact .inl rfl | exact .inr rfl) (pe_tup (pa_cons (pe_ix (ixT (K := K) rfl) (pv 2) pe_int (fun _ _ => rfl)) (pa_cons (pe_ix (ixT (K := K) rfl) (pv 2) pe_int (fun _ _ => rfl)) (pa_cons (pe_slice (slL (K := K) rfl) (pe_ix (ixT (K := K) rfl) (pv 2) pe_int (fun _ _ => rfl)) po_none (po_some pe_int)) (pa_cons (pe_lst pa_nil) (pa_cons (pe_ix (ixT (K := K) rfl) (pv 2) pe_int (fun _ _ => rfl)) (pa_cons (pe_ix (ixT (K := K) rfl) (pv 2) pe_int (fun _ _ => rfl)) pa_nil)))))))))) pss_nil)
      (pss_cons (ps_set (i := 5) nd rfl (by first | exact .inl rfl | exact .inr rfl) (C8.pe_c (c_law_base_trip (K := K) T) hr (by decide) rfl (pa_cons (pv 1) (pa_cons (pe_ix (ixL (K := K) rfl) (pe_lst (pa_cons (pe_op op_add pe_int (C8.pe_c (c_law_draw (K := K) T) hr (by decide) rfl (pa_cons (pv 1) (pa_cons pe_int pa_nil)))) (pa_cons (pe_op op_add pe_int (C8.pe_c (c_law_draw (K := K) T) hr (by decide) rfl (pa_cons (pv 1) (pa_cons pe_int pa_nil)))) pa_nil))) (pe_callTy call_int1 rfl (T.free 59 rfl) bt_int (pa_cons (pv 4) pa_nil)) (fun _ _ => rfl)) (pa_cons (pv 3) pa_nil)))))
      (pss_cons (ps_set (i := 6) nd rfl (by first | exact .inl rfl | exact .inr rfl) (pe_callB call_len_str rfl (T.free 51 rfl) bt_len (pa_cons (pv 5) pa_nil)))
      (pss_cons (ps_set (i := 7) nd rfl (by first | exact .inl rfl | exact .inr rfl) (C8.pe_mk (k_Record (K := K) T) hr (by decide) rfl (pa_cons (C8.pe_c (c_law_made (K := K) T) hr (by decide) rfl (pa_cons (pv 2) pa_nil)) (pa_cons (pv 6) (pa_cons (pv 3) pa_nil)))))
      (pss_cons (ps_set (i := 8) nd rfl (by first | exact .inl rfl | exact .inr rfl) pe_int)
      (pss_cons (ps_for PassesOwn.never rfl (pi_range1 rfl (T.free 54 rfl) (pa_cons (pv 6) pa_nil)) (pg_name (i := 9) nd rfl (by first | exact .inl rfl | exact .inr rfl))
      (pss_one (ps_set (i := 8) nd rfl (by first | exact .inl rfl | exact .inr rfl) (pe_op op_mul (pv 8) (pe_op op_add (pv 3) pe_int)))))
      (pss_cons (ps_for PassesOwn.never rfl (pi_range1 rfl (T.free 54 rfl) (pa_cons (pe_op op_add pe_int (C8.pe_c (c_law_draw (K := K) T) hr (by decide) rfl (pa_cons (pv 1) (pa_cons (pe_ix (ixL (K := K) rfl) (pe_lst (pa_cons pe_int (pa_cons pe_int pa_nil))) (pe_callTy call_int1 rfl (T.free 59 rfl) bt_int (pa_cons (pv 4) pa_nil)) (fun _ _ => rfl)) pa_nil)))) pa_nil)) (pg_name (i := 10) nd rfl (by first | exact .inl rfl | exact .inr rfl))
      (pss_cons (ps_if (PW.pt (pw_or (pt_cmpR op_gt (C8.pe_mt0 (m_Record_how_many (K := K) T) hr (by decide) (pv 7)) (pv 8) (nomark _)) (pw_or (pt_not (pt_val (C8.pe_mt (m_Record_fits (K := K) T) hr (by decide) (pv 7) (pa_cons (pv 5) pa_nil)))) (pw_or1 (pt_not (pt_val (C8.pe_c (c_law_looks_right (K := K) T TB) hr (by decide) rfl (pa_cons (pv 1) (pa_cons (pv 7) (pa_cons (pv 6) (pa_cons (pv 4) pa_nil))))))))))) (pss_one (ps_ret pe_bl)) pss_nil)
      (pss_cons (ps_set (i := 8) nd rfl (by first | exact .inl rfl | exact .inr rfl) (C8.pe_mt0 (m_Record_how_many (K := K) T) hr (by decide) (pv 7)))
      (pss_one (ps_expr (C8.pe_c (c_law_tell (K := K) T) hr (by decide) rfl (pa_cons (pv 7) (pa_cons (C8.pe_c (c_law_true_fact (K := K) T) hr (by decide) rfl (pa_cons (pv 1) (pa_cons (pv 2) (pa_cons (pv 5) pa_nil)))) pa_nil))))))))
      (pss_cons (ps_if (PW.pt (pw_or (pt_cmpR op_gt (C8.pe_mt0 (m_Record_how_many (K := K) T) hr (by decide) (pv 7)) (pv 8) (nomark _)) (pw_or1 (pt_not (pt_val (C8.pe_c (c_law_kept_right (K := K) T) hr (by decide) rfl (pa_cons (pv 7) pa_nil))))))) (pss_one (ps_ret pe_bl)) pss_nil)
      (pss_cons (ps_set (i := 11) nd rfl (by first | exact .inl rfl | exact .inr rfl) (pe_callB (cbSum (K := K) rfl rfl) rfl (T.free 57 rfl) bt_sum (pa_cons (pe_lc (own := [("_law_digit", 12)]) (g := gName 12) (tt := tYes) rfl nd (pi_str (pv 5)) (blkOk_by (own := [("_law_digit", 12)]) (N := N_law) (sc := d_law.scope) (by decide +kernel)) (fun _ _ _ _ _ => (pg_name (i := 12) nd rfl (by first | exact .inl rfl | exact .inr rfl))) (fun _ _ _ _ _ => pts_nil) (fun _ _ _ _ _ => (pe_callTy call_int_str rfl (T.free 59 rfl) bt_int (pa_cons (pv 12) pa_nil)))) pa_nil)))
      (pss_cons (ps_expr (C8.pe_c (c_law_tell (K := K) T) hr (by decide) rfl (pa_cons (pv 7) (pa_cons (pe_tup (pa_cons pe_str (pa_cons (pv 6) (pa_cons (pv 11) pa_nil)))) pa_nil))))
      (pss_one (ps_ret (pe_and (C8.pe_mt (m_Record_fits (K := K) T) hr (by decide) (pv 7) (pa_cons (pv 5) pa_nil)) (pe_one (C8.pe_c (c_law_clash_right (K := K) T) hr (by decide) rfl (pa_cons (pv 7) (pa_cons (pv 6) (pa_cons (pv 11) pa_nil)))))))))))))))))))))), fun vs hsp => ?_⟩
  obtain ⟨a, ns, rfl, hs, hP, hQ⟩ := hsp
  have sA := (show St8 ⟨none, H, H⟩ [] H H from ⟨.refl (.refl _) (fun _ _ z => by cases z), fun _ z => absurd z List.not_mem_nil, fun _ z => absurd z List.not_mem_nil, List.nodup_nil⟩).steal hP (fun _ z => by cases z) fun _ _ z => by cases z
  refine (?_ : G ⟨none, cut1 H (nbP K), cut1 H (nbP K)⟩ _ (start N_law [.ref a]) [(nbP K, .tbl #[])] (cut1 H (nbP K))) H sA
  have hsK := sql_cut hs hP
  generalize cut1 H (nbP K) = K0 at hsK ⊢
  have ht0 : TabM K0 (.tbl #[]) := ⟨_, rfl, TabK.nil⟩
  refine gs_asg (w_c0 (w_cons (w_var rfl) w_nil) (show SpW none (sp_law_bag K) [.ref a] K0 (fun v S' => ∃ b l, v = .ref b ∧ S' b = some (bagO l 0 0 17 0) ∧ S' l = some (.lst (ns.map V.int)) ∧ l ≠ b) from w_pr (a, ns) (fun _ e => ex_l e hsK) fun K1 v S' e e2 ⟨b, l, h1, h2, h3, h4, h5, h6⟩ => ⟨b, l, h1, h5, h6, h4⟩)) fun v S1 e1 ⟨b, l, ev, hb, hbl, hne⟩ => ?_
  subst ev
  have ht1 : TabM S1 (.tbl #[]) := ht0.mono e1
  refine g_bag hb hbl hne fun H2 => ?_
  have ht2 : TabM (cut1 S1 b) (.tbl #[]) := ⟨_, rfl, TabK.nil⟩
  generalize cut1 S1 b = K1 at ht2 ⊢
  have hg : (⟨some (b, l), K1, H2⟩ : Ct).g = some (b, l) := rfl
  refine gs_asg (w_c0 (w_cons (w_var rfl) (w_cons w_c w_nil)) (v_meter hg)) fun v S2 e2 ⟨p, M0, ev, hM0, ok0⟩ => ?_
  subst ev
  refine gs_asg (w_plusD (w_c0 (w_cons (w_var rfl) (w_cons w_c w_nil)) (v_draw (sz := 3) hg (by decide)))) fun v S3 e3 ⟨d3, ev, hd3⟩ => ?_
  subst ev
  refine gs_asg (R := fun v _ => ∃ many : Bool, v = .bl many) (w_opR2 (w_c0 (w_cons (w_var rfl) (w_cons w_c w_nil)) (v_draw (sz := 4) hg (by decide))) (fun S e => w_c) fun y S e ⟨d, ey, _⟩ => by subst ey; exact w_eqI.imp fun v S' e' ev => ⟨_, ev⟩) fun v S4 e4 ⟨many, ev⟩ => ?_
  subst ev
  have hM4 := hM0.mono (e3.trans e4)
  have e14 := (e2.trans e3).trans e4
  refine gs_ifJm (Rr := fun σ S => ∃ (p : Addr) (M : Mtr) (top : Nat), σ = [some (.ref a), some (.ref b), some (.ref p), some (.int (top : Nat)), some (.bl many), none, none, none, none, none, none, none, none] ∧ PlainAt S p M ∧ M.Ok ∧ 1 ≤ top ∧ top ≤ 3 ∧ (many = true → top = 1)) (b := many) (w_tB (w_var rfl)) (fun σ' S5 e5 ⟨p, M, top, es, hM, okM, ht1', ht3, hmt⟩ => ?_) (fun hb => ⟨p, M0, 1 + d3, by
    rw [Int.natCast_add]
    rfl, hM4, ok0, by omega, by omega, fun z => by rw [hb] at z; cases z⟩) fun hmany k => ?_
  rotate_left
  · obtain ⟨pt, pu, qs, h1, h2, h3, h4⟩ := hM4
    have hq1 : ∃ q1 qs', qs = q1 :: qs' := by
      have := ok0.tl
      have := h3.1
      match qs, this with
      | q1 :: qs', _ => exact ⟨q1, qs', rfl⟩
      | [], h => rw [List.length_nil] at h; omega
    obtain ⟨q1, qs', eq⟩ := hq1
    subst eq
    have ix : ∀ {σ : L2.St} {S : Hp} {v : V} (j : Int) (e : Ex S4 S) (h0 : σ[2]? = some (some (V.ref p))) (hj : atI [V.int M0.first, .int M0.drop, .ref pt, .ref pu, .int M0.flag, .int M0.each] j = some v), W (some (b, l)) (tOp (rIxT K) (tVar 2) (tC (.int j)) σ) S (Is v) := fun j e h0 hj => w_op (w_var h0) w_c (w_ixT (st_of (e _ _ h1)) hj)
    refine gs_asgI (v := .int 1) w_c ?_
    refine g_asg (R := fun v S => ∃ p', v = .ref p' ∧ PlainAt S p' M0.one) (w_tupR (Ra := fun xs S => ∃ pt' pu', xs = [.int M0.first, .int M0.drop, .ref pt', .ref pu', .int M0.flag, .int M0.each] ∧ S pt' = some (.lst [.ref q1]) ∧ S pu' = some (.lst [])) (w_consR (ix 0 (.refl _) rfl rfl) fun v S5 e5 ev => w_consR (ix 1 e5 rfl rfl) fun v2 S6 e6 ev2 => w_consR (Ra := fun v S => ∃ p', v = .ref p' ∧ S p' = some (.lst [.ref q1])) (w_sl (ix 2 (e5.trans e6) rfl rfl) w_po0 (w_po1 w_c) ((w_slL (sq_of ((e5.trans e6) _ _ h2))).imp fun v S e ⟨p', ev, _, hp'⟩ => ⟨p', ev, by rw [hp', List.map_cons, cut_head]⟩)) fun v3 S7 e7 ⟨pt', ev3, hpt'⟩ => w_consR (w_lstO (xs := []) w_nil) fun v4 S8 e8 ⟨pu', ev4, _, hpu'⟩ => (w_cons (ix 4 ((e5.trans e6).trans (e7.trans e8)) rfl rfl) (w_cons (ix 5 ((e5.trans e6).trans (e7.trans e8)) rfl rfl) w_nil)).imp fun ys S9 e9 hy => ⟨pt', pu', by cases hy; rw [ev, ev2, ev3, ev4], e9 _ _ (e8 _ _ hpt'), e9 _ _ hpu'⟩) fun xs S5 e5 ⟨pt', pu', ex, g1, g2⟩ => ⟨by rw [ex]; exact (by decide : 6 ≤ 1000), fun p' hp' => ⟨p', rfl, pt', pu', [q1], by rw [upd_same, ex]; rfl, (Ex.new hp') _ _ g1, ⟨?_, fun i q r hq hr => ?_⟩, (Ex.new hp') _ _ g2⟩⟩) fun v S5 e5 ⟨p', ev, hp'⟩ => ?_
    · have := ok0.tl
      show 1 = (M0.tables.take 1).length
      rw [List.length_take]
      omega
    · match i, hq with
      | 0, hq =>
        cases hq
        have hr : M0.tables[0]? = some r := by
          have h9 : (M0.tables.take 1)[0]? = some r := hr
          rwa [List.getElem?_take_of_lt (by decide)] at h9
        exact (Ex.new hp') _ _ (e5 _ _ (h3.2 0 q1 r rfl hr))
    · subst ev
      exact k _ _ e5 ⟨p', M0.one, 1, rfl, hp', Mtr.one_ok ok0, by decide, by decide, fun _ => rfl⟩
  subst es
  have ht5 := ht2.mono (e14.trans e5)
  have e15 := e14.trans e5
  refine gs_asg (R := fun v _ => ∃ tr : List Nat, v = .str (dgS tr) ∧ Drawn M tr.length top ∧ ∀ d ∈ tr, d ≤ top) (w_cR (Ra := fun vs _ => ∃ n : Nat, vs = [.ref b, .int (n : Nat), .int (top : Nat)] ∧ Drawn M n top) (w_consR (w_var rfl : W _ _ _ (Is (V.ref b))) fun v S6 e6 ev => w_consR (Ra := fun v _ => ∃ n : Nat, v = .int (n : Nat) ∧ Drawn M n top) (w_opRL (Ra := fun v S => ∃ (q : Addr) (d1 d2 : Nat), v = .ref q ∧ S q = some (.lst [.int (1 + d1), .int (14 + d2)]) ∧ (d1 : Int) < 5 ∧ (d2 : Int) < 11) (w_lstR (Ra := fun xs _ => ∃ d1 d2 : Nat, xs = [.int (1 + d1), .int (14 + d2)] ∧ (d1 : Int) < 5 ∧ (d2 : Int) < 11) (w_consR (w_plusD (w_c0 (w_cons (w_var rfl) (w_cons w_c w_nil)) (v_draw (sz := 5) hg (by decide)))) fun v S e ⟨d1, ev, hd1⟩ => w_consR (w_plusD (w_c0 (w_cons (w_var rfl) (w_cons w_c w_nil)) (v_draw (sz := 11) hg (by decide)))) fun v2 S2 e2 ⟨d2, ev2, hd2⟩ => w_nilR fun S3 e3 => ⟨d1, d2, by rw [ev, ev2], hd1, hd2⟩) fun xs S e ⟨d1, d2, ex, hd1, hd2⟩ => ⟨by rw [ex]; exact (by decide : 2 ≤ 1000), fun q hq => ⟨q, d1, d2, rfl, by rw [upd_same, ex], hd1, hd2⟩⟩) (fun x S e _ => w_cb (w_cons (w_var rfl : W _ _ _ (Is (V.bl many))) w_nil) w_intB) fun x S y S' e5 ⟨q, d1, d2, ex, hq, hd1, hd2⟩ e6 ey => ?_) fun v2 S7 e7 ⟨n, ev2, hD⟩ => (w_cons (w_var rfl : W _ _ _ (Is (V.int (top : Nat)))) w_nil).imp fun ys S8 e8 hy => ⟨n, by cases hy; rw [ev, ev2], hD⟩) fun vs S6 e6 ⟨n, ev, hD⟩ => ?_) fun v S6 e6 ⟨tr, ev, hD, hdig⟩ => ?_
  · subst ex
    rw [show y = V.int (if many = true then 1 else 0) from ey]
    cases many with
    | true =>
      have := hmt rfl
      exact (w_ixL (v := .int (14 + d2)) (i := 1) (sq_of (e6 _ _ hq)) rfl).imp fun v S e ev => ⟨14 + d2, by rw [ev, Int.natCast_add]; rfl, okM, by omega, by omega, .inr this⟩
    | false => exact (w_ixL (v := .int (1 + d1)) (i := 0) (sq_of (e6 _ _ hq)) rfl).imp fun v S e ev => ⟨1 + d1, by rw [ev, Int.natCast_add]; rfl, okM, by omega, by omega, .inl (by omega)⟩
  · subst ev
    have h1 := hD.n1
    exact fun E => W.imp (v_base_trip (n := n) (t := top) hg (by omega) (by omega) E) fun v S e ⟨tr, ev, hl, hd⟩ => ⟨tr, ev, by rw [hl]; exact hD, hd⟩
  subst ev
  have hn1 := hD.n1
  have htr : tr ∈ trips top tr.length := trips_mem.mpr ⟨rfl, hdig⟩
  have hd9 : ∀ d ∈ tr, d ≤ 9 := fun d hd => Nat.le_trans (hdig d hd) (by omega)
  have hM6 := hM.mono e6
  refine gs_asgI (v := .int (tr.length : Nat)) (w_cb (w_cons (w_var rfl) w_nil) ((w_lenS (by rw [dgS_len]; omega)).is (by rw [dgS_len]))) ?_
  refine gs_asgNE (R := MadeR K ⟨M, tr.length, top, []⟩) (w_RecordR (M := M) (n := tr.length) (top := top) (w_consR (w_c0 (w_cons (w_var rfl) w_nil) (v_made hM6 okM)) fun v S e ⟨q, ev, hq⟩ => (w_cons (w_var rfl : W _ _ _ (Is (V.int (tr.length : Nat)))) (w_cons (w_var rfl : W _ _ _ (Is (V.int (top : Nat)))) w_nil)).imp fun ys S2 e2 hy => ⟨q, by cases hy; rw [ev], hq.mono e2⟩) (by omega) (by omega)) fun rq ob S7 e7 hrq hs7 ⟨rb, er, eo, hrb⟩ => ?_
  subst er eo
  have e78 : Ex S6 (cut1 S7 rb.r) := Ex.cut e7 hrq
  generalize cut1 S7 rb.r = K8 at hrb e78 ⊢
  have hr6 := hrq
  refine gs_asgI (v := .int (((top + 1) ^ 0 : Nat) : Int)) (w_c.is (by rw [Nat.pow_zero]; rfl)) ?_
  refine gs_for (Rs := fun ys _ => ys = (List.range tr.length).map fun i => V.int (i : Nat)) (w_iN (w_cons (w_var rfl) w_nil) rfl (by omega)) fun ys S9 e9 ey => ?_
  subst ey
  refine ⟨fun i σ' m' K' => (∃ a9, σ' = [some (.ref a), some (.ref b), some (.ref p), some (.int (top : Nat)), some (.bl many), some (.str (dgS tr)), some (.int (tr.length : Nat)), some (.ref rb.r), some (.int (((top + 1) ^ i : Nat) : Int)), a9, none, none, none]) ∧ m' = [(rb.r, rb.o K), (nbP K, .tbl #[])] ∧ Ex S9 K', ⟨⟨_, rfl⟩, rfl, .refl _⟩, fun _ _ _ _ h => h.2.2, ?_, fun σ' m' K' ⟨⟨a9, es⟩, em, eK⟩ => ?_⟩
  · rintro i x σ' m' K' hx ⟨⟨a9, es⟩, em, eK⟩
    subst es em
    exact g_name (g_asgI (v := .int (((top + 1) ^ (i + 1) : Nat) : Int)) ((w_op (w_var rfl) (w_op (w_var rfl) w_c w_rI0) (w_rI (.inr ⟨by omega, by omega⟩))).is (by rw [Nat.pow_succ, Int.natCast_mul]; rfl)) (g_turn ⟨⟨_, rfl⟩, rfl, eK⟩))
  subst es em
  rw [List.length_map, List.length_range]
  have e6K : Ex S6 K' := (e78.trans e9).trans eK
  refine gs_for (Rs := fun ys _ => ys.length ≤ 5) (w_iR1R (m := 5) (Ra := fun vs _ => ∃ d : Nat, vs = [.int (1 + d)] ∧ (d : Int) < 5) (w_consR (Ra := fun v _ => ∃ d : Nat, v = .int (1 + d) ∧ (d : Int) < 5) (w_opRR w_c (w_cR (R := fun v _ => ∃ d : Nat, v = .int d ∧ (d : Int) < 5) (Ra := fun vs _ => ∃ n : Int, vs = [.ref b, .int n] ∧ 1 ≤ n ∧ n ≤ 5) (w_consR (w_var rfl : W _ _ _ (Is (V.ref b))) fun v S e ev => w_consR (Ra := IntIn 1 5) (w_opN1 (o := .lst [.int 5, .int 2]) (w_lstO (w_cons w_c (w_cons w_c w_nil))) (y := .int (if many = true then 1 else 0)) (fun S e => w_cb (w_cons (w_var rfl : W _ _ _ (Is (V.bl many))) w_nil) w_intB) fun q S e hq => by
      cases many with
      | true => exact (w_ixL (v := .int 2) (i := 1) (sq_of hq) rfl).imp fun v S e ev => ⟨2, ev, by decide, by decide⟩
      | false => exact (w_ixL (v := .int 5) (i := 0) (sq_of hq) rfl).imp fun v S e ev => ⟨5, ev, by decide, by decide⟩) fun v2 S2 e2 ⟨n, ev2, h⟩ => w_nilR fun S3 e3 => ⟨n, by rw [ev, ev2], h⟩) fun vs S e ⟨n, ev, h⟩ => by subst ev; exact fun E => W.imp (v_draw (sz := n) hg (by omega) E) fun v S e ⟨d, ev, hd⟩ => ⟨d, ev, by omega⟩) fun y S' e ⟨d, ey, hd⟩ => by subst ey; exact w_rI0.imp fun v S'' e' ev => ⟨d, ev, hd⟩) fun v S e ⟨d, ev, hd⟩ => w_nilR fun S2 e2 => ⟨d, by rw [ev], hd⟩) (fun vs S' e ⟨d, ev, hd⟩ => ⟨1 + d, ev, by omega, by omega⟩) (by decide)) fun ys S10 e10 hyl => ?_
  refine ⟨fun i σ' m' K' => ∃ (x : RB) (fs : List Fact) (z : Int) (o : HO), x.r = rb.r ∧ (∃ a9 a10, σ' = [some (.ref a), some (.ref b), some (.ref p), some (.int (top : Nat)), some (.bl many), some (.str (dgS tr)), some (.int (tr.length : Nat)), some (.ref rb.r), some (.int z), a9, a10, none, none]) ∧ m' = [(x.r, x.o K), (nbP K, o)] ∧ RecB K K' x ⟨M, tr.length, top, fs⟩ ∧ fs.length ≤ i ∧ (∀ f ∈ fs, f.Ok tr.length ∧ M.told tr f = true) ∧ Rec.howMany ⟨M, tr.length, top, fs⟩ ≤ z ∧ TabM K' o ∧ Ex S10 K', ⟨rb, [], _, _, rfl, ⟨_, _, rfl⟩, rfl, hrb.mono ((e9.trans eK).trans e10), Nat.le_refl _, (fun f hf => nomatch hf), ?_, (ht5.mono (e6.trans e6K)).mono e10, .refl _⟩, fun _ _ _ _ ⟨_, _, _, _, _, _, _, _, _, _, _, _, h⟩ => h, ?_, ?_⟩
  · have h1 := Rec.howMany_tot (hD.ok (fs := []) (by decide) fun f hf => nomatch hf)
    rw [h1, Mtr.tot_nil]
    exact Int.le_refl _
  · rintro i zz σ' m' K5 hzz ⟨x, fs, z, o, exr, ⟨a9, a10, es⟩, em, hB, hfl, hfs, hz, hto, e11⟩
    subst es em
    have hi5 : i < 5 := Nat.lt_of_lt_of_le (List.getElem?_eq_some_iff.mp hzz).1 hyl
    have e6K5 : Ex S6 K5 := (e6K.trans e10).trans e11
    have okR : Rec.Ok ⟨M, tr.length, top, fs⟩ := hD.ok (by omega) fun f hf => (hfs f hf).1
    have hgood : fs.all (M.told tr) = true := List.all_eq_true.mpr fun f hf => (hfs f hf).2
    have hh : 0 < Rec.howMany ⟨M, tr.length, top, fs⟩ := by
      rw [Rec.howMany_tot okR]
      exact Mtr.tot_good htr hgood
    have hfits : Rec.fits ⟨M, tr.length, top, fs⟩ tr = true := Rec.fits_ok okR htr hgood
    refine g_name ?_
    refine g_keepH fun k5 h5 => ?_
    have hx5 : upd K5 x.r (x.o K) x.r = some (x.o K) := upd_same
    have hB5 := hB.mono (Ex.new (o := x.o K) k5)
    have e55 : Ex K5 (upd K5 x.r (x.o K)) := Ex.new k5
    have k5' : K5 rb.r = none := by rw [← exr]; exact k5
    generalize upd K5 x.r (x.o K) = K6 at hx5 hB5 e55 ⊢
    have hr5 : RecAt K K6 x.r ⟨M, tr.length, top, fs⟩ := RecB.at hx5 hB5
    rw [exr] at hx5 hr5
    refine gs_ifO (R := fun o' S => TabM S o') (wo_orF ((w_test (w_op (w_m0 (w_var rfl) hx5 rfl w_nil (v_how_many hr5 okR)) (w_var rfl) w_rI0)).is (decide_eq_false (by omega))) (wo_orF ((w_not (w_tB (w_m0 (w_var rfl) hx5 rfl (w_cons (w_var rfl) w_nil) (v_fits hr5 okR rfl hd9)))).is (by rw [hfits]; rfl)) (wo_notT (wo_c0 (w_cons (w_var rfl) (w_cons (w_var rfl) (w_cons (w_var rfl) (w_cons (w_var rfl) w_nil)))) fun vs S e hv => hv ▸ v_looks (many := many) hg (hr5.mono e) okR (by show fs.length ≤ 9; omega) hh ((hto.mono e55).mono e))))) fun o' S12 e12 hto2 => ?_
    refine gs_asgI (w_m0 (w_var rfl) (e12 _ _ hx5) rfl w_nil (v_how_many (hr5.mono e12) okR)) ?_
    have k0n : K1 rb.r = none := ((e15.trans e6).trans e6K5).free k5'
    refine g_take (e12 _ _ hx5) k0n (fun _ z => by cases z) ?_
    have hcut := RecB.cut (x := x) (by rw [exr]; exact e12 _ _ hx5) (hB5.mono e12)
    rw [exr] at hcut
    have e6c : Ex S6 (cut1 S12 rb.r) := Ex.cut ((e6K5.trans e55).trans e12) hr6
    have e5c : Ex S10 (cut1 S12 rb.r) := Ex.cut ((e11.trans e55).trans e12) (e11.free k5')
    have hto3 := hto2.cut (e12 _ _ hx5)
    generalize cut1 S12 rb.r = K7 at hcut e6c e5c hto3 ⊢
    have hfl10 : fs.length ≤ 5 := by omega
    refine g_dropO (RO := fun v o S => ∃ f, Fact.Ok tr.length f ∧ M.told tr f = true ∧ Told K x ⟨M, tr.length, top, fs⟩ f v o S) (wo_c0 (Ra := fun vs S => ∃ q f, vs = [.ref rb.r, .ref q] ∧ S q = some (.tup (Fact.vs f)) ∧ f.Ok tr.length ∧ M.told tr f = true) (w_consR (w_var rfl : W _ _ _ (Is (V.ref rb.r))) fun v S e ev => w_consR (w_c0 (w_cons (w_var rfl) (w_cons (w_var rfl) (w_cons (w_var rfl) w_nil))) (v_true_fact hg ((hM6.mono e6c).mono e) okM hd9 hn1)) fun v2 S2 e2 ⟨q, f, ev2, hq, hf, ht⟩ => w_nilR fun S3 e3 => ⟨q, f, by rw [ev, ev2], e3 _ _ hq, hf, ht⟩) fun vs S e ⟨q, f, ev, hq, hf, ht⟩ => ?_) fun v o3 S13 e13 ⟨f, hf, htold, ev, t', eo, hB'⟩ => ?_
    · subst ev
      have := (v_law_tell (K := K) (g := some (b, l)) (hcut.mono e) hq hf (by show fs.length ≤ 100; omega)).imp fun v o S' h => (⟨f, hf, ht, h⟩ : ∃ f, Fact.Ok tr.length f ∧ M.told tr f = true ∧ Told K x ⟨M, tr.length, top, fs⟩ f v o S')
      rw [exr] at this
      exact this
    · subst eo
      refine g_turn ⟨{ x with t := t' }, fs ++ [f], _, o', exr, ⟨_, _, rfl⟩, by rw [← exr], hB', by rw [List.length_append, List.length_singleton]; omega, fun f' hf' => ?_, ?_, hto3.mono e13, e5c.trans e13⟩
      · rcases List.mem_append.mp hf' with q | q
        · exact hfs f' q
        · rw [List.mem_singleton.mp q]; exact ⟨hf, htold⟩
      · have ok2 : Rec.Ok ⟨M, tr.length, top, fs ++ [f]⟩ := hD.ok (by rw [List.length_append, List.length_singleton]; omega) fun f' hf' => by
          rcases List.mem_append.mp hf' with q | q
          · exact (hfs f' q).1
          · rw [List.mem_singleton.mp q]; exact hf
        rw [Rec.howMany_tot ok2, Rec.howMany_tot okR]
        exact Mtr.tot_mono fun f' hf' => List.mem_append_left _ hf'
  · rintro σ' m' K5 ⟨x, fs, z, o, exr, ⟨a9, a10, es⟩, em, hB, hfl, hfs, hz, hto, e11⟩
    subst es em
    obtain ⟨xr, xdx, xp, xq, xt, xf⟩ := x
    have exr : xr = rb.r := exr
    subst exr
    have hfl5 : fs.length ≤ 5 := Nat.le_trans hfl hyl
    have e6K5 : Ex S6 K5 := (e6K.trans e10).trans e11
    have okR : Rec.Ok ⟨M, tr.length, top, fs⟩ := hD.ok (by omega) fun f hf => (hfs f hf).1
    refine g_keepH fun k5 h5 => ?_
    have hx5 : upd K5 rb.r (RB.o K ⟨rb.r, xdx, xp, xq, xt, xf⟩) rb.r = some (RB.o K ⟨rb.r, xdx, xp, xq, xt, xf⟩) := upd_same
    have hB5 := hB.mono (Ex.new (o := RB.o K ⟨rb.r, xdx, xp, xq, xt, xf⟩) k5)
    have e55 : Ex K5 (upd K5 rb.r (RB.o K ⟨rb.r, xdx, xp, xq, xt, xf⟩)) := Ex.new k5
    have k0n : K1 rb.r = none := ((e15.trans e6).trans e6K5).free k5
    have e6K6 := e6K5.trans e55
    change G _ _ _ _ (upd K5 rb.r (RB.o K ⟨rb.r, xdx, xp, xq, xt, xf⟩))
    generalize upd K5 rb.r (RB.o K ⟨rb.r, xdx, xp, xq, xt, xf⟩) = K6 at hx5 hB5 e55 e6K6 ⊢
    have hr5 : RecAt K K6 rb.r ⟨M, tr.length, top, fs⟩ := RecB.at (x := ⟨rb.r, xdx, xp, xq, xt, xf⟩) hx5 hB5
    refine gs_ifF (w_orU (w_test (w_op (w_m0 (w_var rfl) hx5 rfl w_nil (v_how_many hr5 okR)) (w_var rfl) w_rI0)) (w_not (w_tB (w_c0 (w_cons (w_var rfl) w_nil) (v_kept_right hr5 okR))))) (by rw [decide_eq_false (by omega)]; rfl) ?_
    refine gs_asgI (v := .int (tr.map fun d => ((d : Nat) : Int)).sum) (w_sumLc (ys := tr) (h := fun d => V.str (dg1 d)) (f := fun d => ((d : Nat) : Int)) (w_iDg (w_var rfl)) (by omega) fun i d S hi e => ⟨_, tg_name, rfl, w_cb (w_cons (w_var rfl) w_nil) (w_intS (int_dg d (hd9 d (List.mem_of_getElem? hi))) (show 1 ≤ 640 by decide))⟩) ?_
    have hwp := way_pos tr
    have hpass : M.told tr (.passed tr.length (tr.map fun d => ((d : Nat) : Int)).sum) = true := decide_eq_true (by rw [List.take_length, pl_way])
    generalize (tr.map fun d => ((d : Nat) : Int)).sum = wy at hwp hpass
    have hf : (Fact.passed tr.length wy).Ok tr.length := ⟨Nat.le_refl _, hwp⟩
    refine g_take hx5 k0n (fun _ z => by cases z) ?_
    have hcut := RecB.cut (x := ⟨rb.r, xdx, xp, xq, xt, xf⟩) hx5 hB5
    change RecB K (cut1 K6 rb.r) _ _ at hcut
    generalize cut1 K6 rb.r = K7 at hcut ⊢
    refine gs_dropO (RO := Told K ⟨rb.r, xdx, xp, xq, xt, xf⟩ ⟨M, tr.length, top, fs⟩ (.passed tr.length wy)) (wo_c0 (Ra := fun vs S => ∃ q, vs = [.ref rb.r, .ref q] ∧ S q = some (.tup (Fact.passed tr.length wy).vs)) (w_consR (w_var rfl : W _ _ _ (Is (V.ref rb.r))) fun v S e ev => w_consR (w_tupO (xs := (Fact.passed tr.length wy).vs) (w_cons w_c (w_cons (w_var rfl) (w_cons (w_var rfl) w_nil))) (show 3 ≤ 1000 by decide)) fun v2 S2 e2 ⟨q, ev2, _, hq⟩ => w_nilR fun S3 e3 => ⟨q, by rw [ev, ev2], e3 _ _ hq⟩) fun vs S e ⟨q, ev, hq⟩ => ?_) fun v o3 S13 e13 ⟨ev, t', eo, hB'⟩ => ?_
    · subst ev
      exact v_law_tell (hcut.mono e) hq hf (by show fs.length ≤ 100; omega)
    subst eo
    have okF : Rec.Ok ⟨M, tr.length, top, fs ++ [.passed tr.length wy]⟩ := hD.ok (by rw [List.length_append, List.length_singleton]; omega) fun f' hf' => by
      rcases List.mem_append.mp hf' with q | q
      · exact (hfs f' q).1
      · rw [List.mem_singleton.mp q]; exact hf
    have hfits := Rec.fits_ok okF htr (List.all_eq_true.mpr fun f' hf' => by
      rcases List.mem_append.mp (show f' ∈ fs ++ [.passed tr.length wy] from hf') with q | q
      · exact (hfs f' q).2
      · rw [List.mem_singleton.mp q]; exact hpass)
    have hB2 : RecB K S13 ⟨rb.r, xdx, xp, xq, xt, t'⟩ ⟨M, tr.length, top, fs ++ [.passed tr.length wy]⟩ := hB'
    refine g_retO (r := rb.r) (o := RB.o K ⟨rb.r, xdx, xp, xq, xt, t'⟩) (RO := fun v _ _ => v = .bl true) (wo_andV (fun K9 e9 e10 => (w_m0 (w_var rfl) ov_cons rfl (w_cons (w_var rfl) w_nil) (v_fits (RecB.at (x := ⟨rb.r, xdx, xp, xq, xt, t'⟩) ov_cons (hB2.mono (e9.trans e10))) okF rfl hd9)).is (by rw [hfits])) (wo_c0 (w_cons (w_var rfl) (w_cons (w_var rfl) (w_cons (w_var rfl) w_nil))) fun vs S e hv => hv ▸ v_clash_right (x := ⟨rb.r, xdx, xp, xq, xt, t'⟩) (hB2.mono e) okF (by show (fs ++ [Fact.passed tr.length wy]).length ≤ 9; rw [List.length_append, List.length_singleton]; omega) hwp (by show _ ∈ fs ++ [Fact.passed tr.length wy]; simp))) fun v o' S H' e hv s => ?_
    rw [hv]
    exact hQ H')

end
end Cm

/-! ## X2 -/
set_option maxHeartbeats 4000000
/-! The end. -/
namespace Cm
open PySem PySem.Spec PyProof.Rows L2 Evl
theorem txt_of {h : Heap} {K : PySem.W.Frag} {mg : Str → Option Value} (X : K.In h) (G : h.Ns mainGlobals mg) (c : CmHd.SaysC h K) : Txt K mg :=
  ⟨c.fa, fun d hd => He5.DefA.funD (c.fn d hd).1 (c.fn d hd).2, c.ex, ⟨h, X, G⟩⟩
theorem law_at {w : World} {h : Heap} {K : PySem.W.Frag} {mg : Str → Option Value} {f : Addr} (X : K.In h) (G : h.Ns mainGlobals mg) (hfa : mg ("law" : Str) = some (.ref f)) (c : CmHd.SaysC h K) :
    LamX.LawAtS PySem.Challenge.rw_cabmeters_k88_whole_facts_and_looks w K C8.CX0 15 63 "_law_script" mg f h := by
  have T := txt_of X G c
  obtain ⟨fd, F⟩ := T.fnd 43 (d := d_law) rfl
  have e := hfa.symm.trans (T.glo 43 (x := "law") rfl)
  cases e
  have hb := FunD.bindsA (ps := ["_law_script"]) F bn_law
  have hin : nbD ∈ tf := List.mem_singleton.mpr rfl
  refine ⟨fd, [(nbC K, nbP K)], sp_law K, fun p hp => ?_, fun p hp => ?_, fun p hp => ?_, fun s u => hb s [u] rfl, fun H a ns hl _ hT hS => ⟨a, ns, rfl, hS, hT _ List.mem_cons_self, fun _ => rfl⟩, fun base KB GB TB => fn_bs F sc_law (fun vs H Q E ⟨a, ns, e, _⟩ => by rw [e]; rfl) (b_law T (TB _ List.mem_cons_self))⟩
  · rw [List.mem_singleton.mp hp]; exact c.empty _ hin
  · rw [List.mem_singleton.mp hp]; exact c.out _ hin
  · rw [List.mem_singleton.mp hp]; exact PySem.W.codeHd_of_K X (c.hd _ hin)
end Cm
open PySem PySem.W PySem.Calls PyProof.Rows
theorem PySem.Challenge.cw_cabmeters_k88_whole_facts_and_looks_holds : PySem.Challenge.rw_cabmeters_k88_whole_facts_and_looks.Holds := by
  w_on; o_law
  refine HandSHeadRun.head_any (r := OpenLaw.row PySem.Challenge.rw_cabmeters_k88_whole_facts_and_looks) (q := CmHd.qv) (H := CmHd.hk) (ob := CmHd.ob) (M := 20000) (loose := CmHd.names) (d := HandSHeadRun.topDef (OpenLaw.row PySem.Challenge.rw_cabmeters_k88_whole_facts_and_looks).prog 89) (kwd := []) CmHd.ob_eq
    (by kernel_rfl) (fun s => by kernel_rfl) CmHd.run (by kernel_rfl) (by kernel_rfl) (by kernel_rfl) (by rfl) (by first | assumption | decide +kernel) (by decide +kernel) ⟨rfl, rfl, rfl, rfl, rfl, by decide +kernel⟩ ?hw ?hc
  case hw => w_witness2
  case hc =>
    refine LamX.walk_ofTsE (l := PySem.Challenge.rw_cabmeters_k88_whole_facts_and_looks) (n := 63) (k := 15) (x := "_law_script") (CX := fun _ => C8.CX0) rfl (by decide) (by kernel_rfl) ⟨rfl, by decide, by decide⟩ ?F (fun _ _ _ _ _ z => z)
    intro w mg fa h Y G hmg0
    obtain ⟨K, KX, c⟩ := Y
    have hmg : mg ("law" : PySem.Str) = some (.ref fa) := by
      have e : (HandSHeadRun.topDef (OpenLaw.row PySem.Challenge.rw_cabmeters_k88_whole_facts_and_looks).prog 89).name = ("law" : PySem.Str) := by kernel_rfl
      rw [← e]
      exact hmg0
    exact ⟨K, KX, Cm.law_at KX G hmg c⟩
