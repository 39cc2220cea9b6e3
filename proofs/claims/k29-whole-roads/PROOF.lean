import PyProof.Rows.All
import Wide.All
import OpenK.AllK
import Wide.FinOn
import Wide.Once
import KE.KStateDown
import HandS.ForMost
import HandS.Exc
import HandS.Defaults
import HandS.HeadHook3
import HandS.Head2
import HandS.HeadEnd
import HandS.Wide
import HandS.WideBits
import HandS.Flow
import HandS.Style
import HandS.TupAny
import HandS.Deep
import HandS.IsInst
import HandS.ExcInit
import HandS.ExcField
import HandS.ExcIs
import HandS.TryOnly
import HandS.WordsExc
import HandS.CallLocal
import HandS.CallSlots
import HandS.StrMore
import HandS.RaiseMore
import HandS.Evl
import KE.GoesEnumKw
import KE.GoesMore
import HandS.Small
import HandS.Zip
import HandS.Replace
import PySem.Challenge.RW_toolroad_k29_whole_roads_by_their_rows
set_option Elab.async false
set_option linter.all false
set_option maxRecDepth 100000
set_option maxHeartbeats 0
namespace Kd
open PySem PySem.Spec PyProof.Rows L2
/-! the text by places -/
def top (i : Nat) : Stmt := PySem.Challenge.pw_toolroad_k29_whole_roads_by_their_rows.main.body.getD i (.Pass ⟨0, 0, 0, 0⟩)
abbrev s_NoText_init : Stmt := inClass (top 3) 0
abbrev s_Uneven_init : Stmt := inClass (top 4) 0
abbrev s_NoFrame_init : Stmt := inClass (top 5) 0
abbrev s_TooDeep_init : Stmt := inClass (top 6) 0
abbrev s_TooMany_init : Stmt := inClass (top 7) 0
abbrev s_NoPiece_init : Stmt := inClass (top 10) 0
abbrev s_shared : Stmt := top 13
abbrev s_ratio : Stmt := top 14
abbrev s_plus : Stmt := top 15
abbrev s_opposite : Stmt := top 16
abbrev s_minus : Stmt := top 17
abbrev s_times : Stmt := top 18
abbrev s_side_of : Stmt := top 19
abbrev s_root : Stmt := top 20
abbrev s_added : Stmt := top 23
abbrev s_lessened : Stmt := top 24
abbrev s_scaled : Stmt := top 25
abbrev s_dot : Stmt := top 26
abbrev s_heading_of : Stmt := top 27
abbrev s_turned : Stmt := top 28
abbrev s_distance : Stmt := top 29
abbrev s_by_one : Stmt := top 32
abbrev s_direction_by_one : Stmt := top 33
abbrev s_back_by_one : Stmt := top 34
abbrev s_led_place : Stmt := top 35
abbrev s_led_direction : Stmt := top 36
abbrev s_led_from : Stmt := top 37
abbrev s_is_about : Stmt := top 38
abbrev s_whole_in : Stmt := top 50
abbrev s_number_in : Stmt := top 51
abbrev s_coordinate_in : Stmt := top 52
abbrev s_length_in : Stmt := top 53
abbrev s_turn_in : Stmt := top 54
abbrev s_pace_in : Stmt := top 55
abbrev s_times_in : Stmt := top 56
abbrev s_name_in : Stmt := top 57
abbrev s_read_row : Stmt := top 59
abbrev s_is_fitting : Stmt := top 60
abbrev s_rows_of : Stmt := top 61
abbrev s_read_program : Stmt := top 62
abbrev s_spans_of : Stmt := top 63
abbrev s_is_far : Stmt := top 65
abbrev s_Road_init : Stmt := inClass (top 70) 0
abbrev s_Road_entries : Stmt := inClass (top 70) 1
abbrev s_Road_len : Stmt := inClass (top 70) 2
abbrev s_Road_eq : Stmt := inClass (top 70) 3
abbrev s_Road_repr : Stmt := inClass (top 70) 4
abbrev s_Runner_init : Stmt := inClass (top 71) 0
abbrev s_Runner_row_at : Stmt := inClass (top 71) 1
abbrev s_Runner_all_frames : Stmt := inClass (top 71) 2
abbrev s_Runner_is_at_end : Stmt := inClass (top 71) 3
abbrev s_Runner_enter : Stmt := inClass (top 71) 4
abbrev s_Runner_leave : Stmt := inClass (top 71) 5
abbrev s_Runner_settle : Stmt := inClass (top 71) 6
abbrev s_Runner_do_row : Stmt := inClass (top 71) 7
abbrev s_Runner_go_on : Stmt := inClass (top 71) 8
abbrev s_Runner_make : Stmt := inClass (top 71) 9
abbrev s_Runner_spot : Stmt := inClass (top 71) 10
abbrev s_do_hop : Stmt := top 72
abbrev s_do_cut : Stmt := top 73
abbrev s_do_run : Stmt := top 74
abbrev s_do_arc : Stmt := top 75
abbrev s_do_mode : Stmt := top 76
abbrev s_do_pace : Stmt := top 77
abbrev s_do_side : Stmt := top 78
abbrev s_do_frame : Stmt := top 79
abbrev s_do_back : Stmt := top 80
abbrev s_do_call : Stmt := top 81
abbrev s_road_by : Stmt := top 83
abbrev s_road_of : Stmt := top 84
abbrev s__law_bag : Stmt := top 86
abbrev s__law_take : Stmt := top 87
abbrev s__law_shared : Stmt := top 88
abbrev s__law_low : Stmt := top 89
abbrev s__law_plus : Stmt := top 90
abbrev s__law_times : Stmt := top 91
abbrev s__law_minus : Stmt := top 92
abbrev s__law_added : Stmt := top 93
abbrev s__law_lessened : Stmt := top 94
abbrev s__law_turned : Stmt := top 95
abbrev s__law_scaled : Stmt := top 96
abbrev s__law_heading : Stmt := top 97
abbrev s__law_both : Stmt := top 98
abbrev s__law_word : Stmt := top 99
abbrev s__law_text : Stmt := top 100
abbrev s__law_frame : Stmt := top 101
abbrev s__law_by : Stmt := top 102
abbrev s__law_led : Stmt := top 103
abbrev s__law_back : Stmt := top 104
abbrev s__law_about : Stmt := top 105
abbrev s__law_refused : Stmt := top 106
abbrev s__law_row : Stmt := top 107
abbrev s__law_calm : Stmt := top 108
abbrev s__law_names : Stmt := top 109
abbrev s__law_program : Stmt := top 110
abbrev s__law_is_outside : Stmt := top 111
abbrev s__law_span : Stmt := top 112
abbrev s__law_is_far : Stmt := top 113
abbrev s__law_spot : Stmt := top 114
abbrev s__law_made : Stmt := top 115
abbrev s__law_keep : Stmt := top 116
abbrev s__law_next : Stmt := top 117
abbrev s__law_gone : Stmt := top 118
abbrev s_law : Stmt := top 119
def d_NoText_init : He.DefD := ⟨("NoText", some "__init__"), "__init__", "NoText.__init__", defArgs s_NoText_init, defBody s_NoText_init, defScope s_NoText_init, [], []⟩
def d_Uneven_init : He.DefD := ⟨("Uneven", some "__init__"), "__init__", "Uneven.__init__", defArgs s_Uneven_init, defBody s_Uneven_init, defScope s_Uneven_init, [], []⟩
def d_NoFrame_init : He.DefD := ⟨("NoFrame", some "__init__"), "__init__", "NoFrame.__init__", defArgs s_NoFrame_init, defBody s_NoFrame_init, defScope s_NoFrame_init, [], []⟩
def d_TooDeep_init : He.DefD := ⟨("TooDeep", some "__init__"), "__init__", "TooDeep.__init__", defArgs s_TooDeep_init, defBody s_TooDeep_init, defScope s_TooDeep_init, [], []⟩
def d_TooMany_init : He.DefD := ⟨("TooMany", some "__init__"), "__init__", "TooMany.__init__", defArgs s_TooMany_init, defBody s_TooMany_init, defScope s_TooMany_init, [], []⟩
def d_NoPiece_init : He.DefD := ⟨("NoPiece", some "__init__"), "__init__", "NoPiece.__init__", defArgs s_NoPiece_init, defBody s_NoPiece_init, defScope s_NoPiece_init, [], []⟩
def d_shared : He.DefD := ⟨("shared", none), "shared", "shared", defArgs s_shared, defBody s_shared, defScope s_shared, [], []⟩
def d_ratio : He.DefD := ⟨("ratio", none), "ratio", "ratio", defArgs s_ratio, defBody s_ratio, defScope s_ratio, [.int 1], []⟩
def d_plus : He.DefD := ⟨("plus", none), "plus", "plus", defArgs s_plus, defBody s_plus, defScope s_plus, [], []⟩
def d_opposite : He.DefD := ⟨("opposite", none), "opposite", "opposite", defArgs s_opposite, defBody s_opposite, defScope s_opposite, [], []⟩
def d_minus : He.DefD := ⟨("minus", none), "minus", "minus", defArgs s_minus, defBody s_minus, defScope s_minus, [], []⟩
def d_times : He.DefD := ⟨("times", none), "times", "times", defArgs s_times, defBody s_times, defScope s_times, [], []⟩
def d_side_of : He.DefD := ⟨("side_of", none), "side_of", "side_of", defArgs s_side_of, defBody s_side_of, defScope s_side_of, [], []⟩
def d_root : He.DefD := ⟨("root", none), "root", "root", defArgs s_root, defBody s_root, defScope s_root, [], []⟩
def d_added : He.DefD := ⟨("added", none), "added", "added", defArgs s_added, defBody s_added, defScope s_added, [], []⟩
def d_lessened : He.DefD := ⟨("lessened", none), "lessened", "lessened", defArgs s_lessened, defBody s_lessened, defScope s_lessened, [], []⟩
def d_scaled : He.DefD := ⟨("scaled", none), "scaled", "scaled", defArgs s_scaled, defBody s_scaled, defScope s_scaled, [], []⟩
def d_dot : He.DefD := ⟨("dot", none), "dot", "dot", defArgs s_dot, defBody s_dot, defScope s_dot, [], []⟩
def d_heading_of : He.DefD := ⟨("heading_of", none), "heading_of", "heading_of", defArgs s_heading_of, defBody s_heading_of, defScope s_heading_of, [], []⟩
def d_turned : He.DefD := ⟨("turned", none), "turned", "turned", defArgs s_turned, defBody s_turned, defScope s_turned, [], []⟩
def d_distance : He.DefD := ⟨("distance", none), "distance", "distance", defArgs s_distance, defBody s_distance, defScope s_distance, [], []⟩
def d_by_one : He.DefD := ⟨("by_one", none), "by_one", "by_one", defArgs s_by_one, defBody s_by_one, defScope s_by_one, [], []⟩
def d_direction_by_one : He.DefD := ⟨("direction_by_one", none), "direction_by_one", "direction_by_one", defArgs s_direction_by_one, defBody s_direction_by_one, defScope s_direction_by_one, [], []⟩
def d_back_by_one : He.DefD := ⟨("back_by_one", none), "back_by_one", "back_by_one", defArgs s_back_by_one, defBody s_back_by_one, defScope s_back_by_one, [], []⟩
def d_led_place : He.DefD := ⟨("led_place", none), "led_place", "led_place", defArgs s_led_place, defBody s_led_place, defScope s_led_place, [], []⟩
def d_led_direction : He.DefD := ⟨("led_direction", none), "led_direction", "led_direction", defArgs s_led_direction, defBody s_led_direction, defScope s_led_direction, [], []⟩
def d_led_from : He.DefD := ⟨("led_from", none), "led_from", "led_from", defArgs s_led_from, defBody s_led_from, defScope s_led_from, [], []⟩
def d_is_about : He.DefD := ⟨("is_about", none), "is_about", "is_about", defArgs s_is_about, defBody s_is_about, defScope s_is_about, [], []⟩
def d_whole_in : He.DefD := ⟨("whole_in", none), "whole_in", "whole_in", defArgs s_whole_in, defBody s_whole_in, defScope s_whole_in, [], []⟩
def d_number_in : He.DefD := ⟨("number_in", none), "number_in", "number_in", defArgs s_number_in, defBody s_number_in, defScope s_number_in, [], []⟩
def d_coordinate_in : He.DefD := ⟨("coordinate_in", none), "coordinate_in", "coordinate_in", defArgs s_coordinate_in, defBody s_coordinate_in, defScope s_coordinate_in, [], []⟩
def d_length_in : He.DefD := ⟨("length_in", none), "length_in", "length_in", defArgs s_length_in, defBody s_length_in, defScope s_length_in, [], []⟩
def d_turn_in : He.DefD := ⟨("turn_in", none), "turn_in", "turn_in", defArgs s_turn_in, defBody s_turn_in, defScope s_turn_in, [], []⟩
def d_pace_in : He.DefD := ⟨("pace_in", none), "pace_in", "pace_in", defArgs s_pace_in, defBody s_pace_in, defScope s_pace_in, [], []⟩
def d_times_in : He.DefD := ⟨("times_in", none), "times_in", "times_in", defArgs s_times_in, defBody s_times_in, defScope s_times_in, [], []⟩
def d_name_in : He.DefD := ⟨("name_in", none), "name_in", "name_in", defArgs s_name_in, defBody s_name_in, defScope s_name_in, [], []⟩
def d_read_row : He.DefD := ⟨("read_row", none), "read_row", "read_row", defArgs s_read_row, defBody s_read_row, defScope s_read_row, [], []⟩
def d_is_fitting : He.DefD := ⟨("is_fitting", none), "is_fitting", "is_fitting", defArgs s_is_fitting, defBody s_is_fitting, defScope s_is_fitting, [], []⟩
def d_rows_of : He.DefD := ⟨("rows_of", none), "rows_of", "rows_of", defArgs s_rows_of, defBody s_rows_of, defScope s_rows_of, [], []⟩
def d_read_program : He.DefD := ⟨("read_program", none), "read_program", "read_program", defArgs s_read_program, defBody s_read_program, defScope s_read_program, [], []⟩
def d_spans_of : He.DefD := ⟨("spans_of", none), "spans_of", "spans_of", defArgs s_spans_of, defBody s_spans_of, defScope s_spans_of, [], []⟩
def d_is_far : He.DefD := ⟨("is_far", none), "is_far", "is_far", defArgs s_is_far, defBody s_is_far, defScope s_is_far, [], []⟩
def d_Road_init : He.DefD := ⟨("Road", some "__init__"), "__init__", "Road.__init__", defArgs s_Road_init, defBody s_Road_init, defScope s_Road_init, [], []⟩
def d_Road_entries : He.DefD := ⟨("Road", some "entries"), "entries", "Road.entries", defArgs s_Road_entries, defBody s_Road_entries, defScope s_Road_entries, [], []⟩
def d_Road_len : He.DefD := ⟨("Road", some "__len__"), "__len__", "Road.__len__", defArgs s_Road_len, defBody s_Road_len, defScope s_Road_len, [], []⟩
def d_Road_eq : He.DefD := ⟨("Road", some "__eq__"), "__eq__", "Road.__eq__", defArgs s_Road_eq, defBody s_Road_eq, defScope s_Road_eq, [], []⟩
def d_Road_repr : He.DefD := ⟨("Road", some "__repr__"), "__repr__", "Road.__repr__", defArgs s_Road_repr, defBody s_Road_repr, defScope s_Road_repr, [], []⟩
def d_Runner_init : He.DefD := ⟨("Runner", some "__init__"), "__init__", "Runner.__init__", defArgs s_Runner_init, defBody s_Runner_init, defScope s_Runner_init, [], []⟩
def d_Runner_row_at : He.DefD := ⟨("Runner", some "row_at"), "row_at", "Runner.row_at", defArgs s_Runner_row_at, defBody s_Runner_row_at, defScope s_Runner_row_at, [], []⟩
def d_Runner_all_frames : He.DefD := ⟨("Runner", some "all_frames"), "all_frames", "Runner.all_frames", defArgs s_Runner_all_frames, defBody s_Runner_all_frames, defScope s_Runner_all_frames, [], []⟩
def d_Runner_is_at_end : He.DefD := ⟨("Runner", some "is_at_end"), "is_at_end", "Runner.is_at_end", defArgs s_Runner_is_at_end, defBody s_Runner_is_at_end, defScope s_Runner_is_at_end, [], []⟩
def d_Runner_enter : He.DefD := ⟨("Runner", some "enter"), "enter", "Runner.enter", defArgs s_Runner_enter, defBody s_Runner_enter, defScope s_Runner_enter, [], []⟩
def d_Runner_leave : He.DefD := ⟨("Runner", some "leave"), "leave", "Runner.leave", defArgs s_Runner_leave, defBody s_Runner_leave, defScope s_Runner_leave, [], []⟩
def d_Runner_settle : He.DefD := ⟨("Runner", some "settle"), "settle", "Runner.settle", defArgs s_Runner_settle, defBody s_Runner_settle, defScope s_Runner_settle, [], []⟩
def d_Runner_do_row : He.DefD := ⟨("Runner", some "do_row"), "do_row", "Runner.do_row", defArgs s_Runner_do_row, defBody s_Runner_do_row, defScope s_Runner_do_row, [], []⟩
def d_Runner_go_on : He.DefD := ⟨("Runner", some "go_on"), "go_on", "Runner.go_on", defArgs s_Runner_go_on, defBody s_Runner_go_on, defScope s_Runner_go_on, [], []⟩
def d_Runner_make : He.DefD := ⟨("Runner", some "make"), "make", "Runner.make", defArgs s_Runner_make, defBody s_Runner_make, defScope s_Runner_make, [], []⟩
def d_Runner_spot : He.DefD := ⟨("Runner", some "spot"), "spot", "Runner.spot", defArgs s_Runner_spot, defBody s_Runner_spot, defScope s_Runner_spot, [], []⟩
def d_do_hop : He.DefD := ⟨("do_hop", none), "do_hop", "do_hop", defArgs s_do_hop, defBody s_do_hop, defScope s_do_hop, [], []⟩
def d_do_cut : He.DefD := ⟨("do_cut", none), "do_cut", "do_cut", defArgs s_do_cut, defBody s_do_cut, defScope s_do_cut, [], []⟩
def d_do_run : He.DefD := ⟨("do_run", none), "do_run", "do_run", defArgs s_do_run, defBody s_do_run, defScope s_do_run, [], []⟩
def d_do_arc : He.DefD := ⟨("do_arc", none), "do_arc", "do_arc", defArgs s_do_arc, defBody s_do_arc, defScope s_do_arc, [], []⟩
def d_do_mode : He.DefD := ⟨("do_mode", none), "do_mode", "do_mode", defArgs s_do_mode, defBody s_do_mode, defScope s_do_mode, [], []⟩
def d_do_pace : He.DefD := ⟨("do_pace", none), "do_pace", "do_pace", defArgs s_do_pace, defBody s_do_pace, defScope s_do_pace, [], []⟩
def d_do_side : He.DefD := ⟨("do_side", none), "do_side", "do_side", defArgs s_do_side, defBody s_do_side, defScope s_do_side, [], []⟩
def d_do_frame : He.DefD := ⟨("do_frame", none), "do_frame", "do_frame", defArgs s_do_frame, defBody s_do_frame, defScope s_do_frame, [], []⟩
def d_do_back : He.DefD := ⟨("do_back", none), "do_back", "do_back", defArgs s_do_back, defBody s_do_back, defScope s_do_back, [], []⟩
def d_do_call : He.DefD := ⟨("do_call", none), "do_call", "do_call", defArgs s_do_call, defBody s_do_call, defScope s_do_call, [], []⟩
def d_road_by : He.DefD := ⟨("road_by", none), "road_by", "road_by", defArgs s_road_by, defBody s_road_by, defScope s_road_by, [], []⟩
def d_road_of : He.DefD := ⟨("road_of", none), "road_of", "road_of", defArgs s_road_of, defBody s_road_of, defScope s_road_of, [], []⟩
def d__law_bag : He.DefD := ⟨("_law_bag", none), "_law_bag", "_law_bag", defArgs s__law_bag, defBody s__law_bag, defScope s__law_bag, [], []⟩
def d__law_take : He.DefD := ⟨("_law_take", none), "_law_take", "_law_take", defArgs s__law_take, defBody s__law_take, defScope s__law_take, [], []⟩
def d__law_shared : He.DefD := ⟨("_law_shared", none), "_law_shared", "_law_shared", defArgs s__law_shared, defBody s__law_shared, defScope s__law_shared, [], []⟩
def d__law_low : He.DefD := ⟨("_law_low", none), "_law_low", "_law_low", defArgs s__law_low, defBody s__law_low, defScope s__law_low, [], []⟩
def d__law_plus : He.DefD := ⟨("_law_plus", none), "_law_plus", "_law_plus", defArgs s__law_plus, defBody s__law_plus, defScope s__law_plus, [], []⟩
def d__law_times : He.DefD := ⟨("_law_times", none), "_law_times", "_law_times", defArgs s__law_times, defBody s__law_times, defScope s__law_times, [], []⟩
def d__law_minus : He.DefD := ⟨("_law_minus", none), "_law_minus", "_law_minus", defArgs s__law_minus, defBody s__law_minus, defScope s__law_minus, [], []⟩
def d__law_added : He.DefD := ⟨("_law_added", none), "_law_added", "_law_added", defArgs s__law_added, defBody s__law_added, defScope s__law_added, [], []⟩
def d__law_lessened : He.DefD := ⟨("_law_lessened", none), "_law_lessened", "_law_lessened", defArgs s__law_lessened, defBody s__law_lessened, defScope s__law_lessened, [], []⟩
def d__law_turned : He.DefD := ⟨("_law_turned", none), "_law_turned", "_law_turned", defArgs s__law_turned, defBody s__law_turned, defScope s__law_turned, [], []⟩
def d__law_scaled : He.DefD := ⟨("_law_scaled", none), "_law_scaled", "_law_scaled", defArgs s__law_scaled, defBody s__law_scaled, defScope s__law_scaled, [], []⟩
def d__law_heading : He.DefD := ⟨("_law_heading", none), "_law_heading", "_law_heading", defArgs s__law_heading, defBody s__law_heading, defScope s__law_heading, [], []⟩
def d__law_both : He.DefD := ⟨("_law_both", none), "_law_both", "_law_both", defArgs s__law_both, defBody s__law_both, defScope s__law_both, [], []⟩
def d__law_word : He.DefD := ⟨("_law_word", none), "_law_word", "_law_word", defArgs s__law_word, defBody s__law_word, defScope s__law_word, [], []⟩
def d__law_text : He.DefD := ⟨("_law_text", none), "_law_text", "_law_text", defArgs s__law_text, defBody s__law_text, defScope s__law_text, [], []⟩
def d__law_frame : He.DefD := ⟨("_law_frame", none), "_law_frame", "_law_frame", defArgs s__law_frame, defBody s__law_frame, defScope s__law_frame, [], []⟩
def d__law_by : He.DefD := ⟨("_law_by", none), "_law_by", "_law_by", defArgs s__law_by, defBody s__law_by, defScope s__law_by, [], []⟩
def d__law_led : He.DefD := ⟨("_law_led", none), "_law_led", "_law_led", defArgs s__law_led, defBody s__law_led, defScope s__law_led, [], []⟩
def d__law_back : He.DefD := ⟨("_law_back", none), "_law_back", "_law_back", defArgs s__law_back, defBody s__law_back, defScope s__law_back, [], []⟩
def d__law_about : He.DefD := ⟨("_law_about", none), "_law_about", "_law_about", defArgs s__law_about, defBody s__law_about, defScope s__law_about, [], []⟩
def d__law_refused : He.DefD := ⟨("_law_refused", none), "_law_refused", "_law_refused", defArgs s__law_refused, defBody s__law_refused, defScope s__law_refused, [], []⟩
def d__law_row : He.DefD := ⟨("_law_row", none), "_law_row", "_law_row", defArgs s__law_row, defBody s__law_row, defScope s__law_row, [], []⟩
def d__law_calm : He.DefD := ⟨("_law_calm", none), "_law_calm", "_law_calm", defArgs s__law_calm, defBody s__law_calm, defScope s__law_calm, [], []⟩
def d__law_names : He.DefD := ⟨("_law_names", none), "_law_names", "_law_names", defArgs s__law_names, defBody s__law_names, defScope s__law_names, [], []⟩
def d__law_program : He.DefD := ⟨("_law_program", none), "_law_program", "_law_program", defArgs s__law_program, defBody s__law_program, defScope s__law_program, [], []⟩
def d__law_is_outside : He.DefD := ⟨("_law_is_outside", none), "_law_is_outside", "_law_is_outside", defArgs s__law_is_outside, defBody s__law_is_outside, defScope s__law_is_outside, [], []⟩
def d__law_span : He.DefD := ⟨("_law_span", none), "_law_span", "_law_span", defArgs s__law_span, defBody s__law_span, defScope s__law_span, [], []⟩
def d__law_is_far : He.DefD := ⟨("_law_is_far", none), "_law_is_far", "_law_is_far", defArgs s__law_is_far, defBody s__law_is_far, defScope s__law_is_far, [], []⟩
def d__law_spot : He.DefD := ⟨("_law_spot", none), "_law_spot", "_law_spot", defArgs s__law_spot, defBody s__law_spot, defScope s__law_spot, [], []⟩
def d__law_made : He.DefD := ⟨("_law_made", none), "_law_made", "_law_made", defArgs s__law_made, defBody s__law_made, defScope s__law_made, [], []⟩
def d__law_keep : He.DefD := ⟨("_law_keep", none), "_law_keep", "_law_keep", defArgs s__law_keep, defBody s__law_keep, defScope s__law_keep, [], []⟩
def d__law_next : He.DefD := ⟨("_law_next", none), "_law_next", "_law_next", defArgs s__law_next, defBody s__law_next, defScope s__law_next, [], []⟩
def d__law_gone : He.DefD := ⟨("_law_gone", none), "_law_gone", "_law_gone", defArgs s__law_gone, defBody s__law_gone, defScope s__law_gone, [], []⟩
def d_law : He.DefD := ⟨("law", none), "law", "law", defArgs s_law, defBody s_law, defScope s_law, [], []⟩
def fn0 : List He.DefD := [d_NoText_init, d_Uneven_init, d_NoFrame_init, d_TooDeep_init, d_TooMany_init, d_NoPiece_init, d_shared, d_ratio, d_plus, d_opposite, d_minus, d_times, d_side_of, d_root, d_added, d_lessened, d_scaled, d_dot, d_heading_of, d_turned]
def fn1 : List He.DefD := [d_distance, d_by_one, d_direction_by_one, d_back_by_one, d_led_place, d_led_direction, d_led_from, d_is_about, d_whole_in, d_number_in, d_coordinate_in, d_length_in, d_turn_in, d_pace_in, d_times_in, d_name_in, d_read_row, d_is_fitting, d_rows_of, d_read_program]
def fn2 : List He.DefD := [d_spans_of, d_is_far, d_Road_init, d_Road_entries, d_Road_len, d_Road_eq, d_Road_repr, d_Runner_init, d_Runner_row_at, d_Runner_all_frames, d_Runner_is_at_end, d_Runner_enter, d_Runner_leave, d_Runner_settle, d_Runner_do_row, d_Runner_go_on, d_Runner_make, d_Runner_spot, d_do_hop, d_do_cut]
def fn3 : List He.DefD := [d_do_run, d_do_arc, d_do_mode, d_do_pace, d_do_side, d_do_frame, d_do_back, d_do_call, d_road_by, d_road_of, d__law_bag, d__law_take, d__law_shared, d__law_low, d__law_plus, d__law_times, d__law_minus, d__law_added, d__law_lessened, d__law_turned]
def fn4 : List He.DefD := [d__law_scaled, d__law_heading, d__law_both, d__law_word, d__law_text, d__law_frame, d__law_by, d__law_led, d__law_back, d__law_about, d__law_refused, d__law_row, d__law_calm, d__law_names, d__law_program, d__law_is_outside, d__law_span, d__law_is_far, d__law_spot, d__law_made]
def fn5 : List He.DefD := [d__law_keep, d__law_next, d__law_gone, d_law]
def fn : List He.DefD := fn0 ++ fn1 ++ fn2 ++ fn3 ++ fn4 ++ fn5
def fa0 : List He.Fa := [.glo "shared", .glo "ratio", .glo "plus", .glo "opposite", .glo "minus", .glo "times", .glo "side_of", .glo "root", .glo "added", .glo "lessened", .glo "scaled", .glo "dot", .glo "heading_of", .glo "turned", .glo "distance", .glo "by_one", .glo "direction_by_one", .glo "back_by_one", .glo "led_place", .glo "led_direction", .glo "led_from", .glo "is_about", .glo "whole_in", .glo "number_in", .glo "coordinate_in", .glo "length_in", .glo "turn_in", .glo "pace_in", .glo "times_in", .glo "name_in"]
def fa1 : List He.Fa := [.glo "read_row", .glo "is_fitting", .glo "rows_of", .glo "read_program", .glo "spans_of", .glo "is_far", .glo "do_hop", .glo "do_cut", .glo "do_run", .glo "do_arc", .glo "do_mode", .glo "do_pace", .glo "do_side", .glo "do_frame", .glo "do_back", .glo "do_call", .glo "road_by", .glo "road_of", .glo "_law_bag", .glo "_law_take", .glo "_law_shared", .glo "_law_low", .glo "_law_plus", .glo "_law_times", .glo "_law_minus", .glo "_law_added", .glo "_law_lessened", .glo "_law_turned", .glo "_law_scaled", .glo "_law_heading"]
def fa2 : List He.Fa := [.glo "_law_both", .glo "_law_word", .glo "_law_text", .glo "_law_frame", .glo "_law_by", .glo "_law_led", .glo "_law_back", .glo "_law_about", .glo "_law_refused", .glo "_law_row", .glo "_law_calm", .glo "_law_names", .glo "_law_program", .glo "_law_is_outside", .glo "_law_span", .glo "_law_is_far", .glo "_law_spot", .glo "_law_made", .glo "_law_keep", .glo "_law_next", .glo "_law_gone", .glo "law", .glo "MillError", .glo "NoHeading", .glo "NoText", .glo "Uneven", .glo "NoFrame", .glo "TooDeep", .glo "TooMany", .glo "NoState"]
def fa3 : List He.Fa := [.glo "OverNought", .glo "NoPiece", .glo "Road", .glo "Runner", .glo "NOUGHT", .glo "CORNER", .glo "SHAPES", .glo "STEP_WORDS", .glo "READERS", .glo "DEEDS", .int "MOST_FRAMES" 8, .int "MOST_ROWS" 80, .int "MOST_FIGURES" 4, .int "MOST_SIGNS" 8, .int "MOST_TOP" 9999, .int "MOST_BOTTOM" 999, .int "MOST_TURN" 99, .int "MOST_PACE" 9, .int "MOST_TIMES" 99, .int "MOST_DONE" 2000, .int "MOST_STEPS" 100, .int "MOST_CALLS" 8, .free "abs", .free "isinstance", .free "int", .free "any", .free "all", .free "len", .free "range", .free "enumerate"]
def fa4 : List He.Fa := [.free "zip", .free "tuple", .free "list", .free "str", .free "min", .free "max", .free "sum", .free "ValueError", .free "LookupError", .cls "Road", .mkr "Road", .noat "Road" "held", .meth "Road" "entries", .meth "Road" "__len__", .meth "Road" "__eq__", .meth "Road" "__repr__", .cls "Runner", .mkr "Runner", .noat "Runner" "rows", .noat "Runner" "spans", .noat "Runner" "trail", .noat "Runner" "place", .noat "Runner" "mode", .noat "Runner" "pace", .noat "Runner" "side", .noat "Runner" "frames", .noat "Runner" "many", .noat "Runner" "made", .meth "Runner" "row_at", .meth "Runner" "all_frames"]
def fa5 : List He.Fa := [.meth "Runner" "is_at_end", .meth "Runner" "enter", .meth "Runner" "leave", .meth "Runner" "settle", .meth "Runner" "do_row", .meth "Runner" "go_on", .meth "Runner" "make", .meth "Runner" "spot", .exm "Uneven" "MillError" true, .exm "Uneven" "Uneven" true, .exm "NoFrame" "MillError" true, .exm "NoFrame" "NoFrame" true, .exm "TooDeep" "MillError" true, .exm "TooDeep" "TooDeep" true, .exm "TooMany" "MillError" true, .exm "TooMany" "TooMany" true]
def fa : List He.Fa := fa0 ++ fa1 ++ fa2 ++ fa3 ++ fa4 ++ fa5
def kv_SHAPES : List (Str × He.Dv) := [("hop", .str "xx"), ("cut", .str "xx"), ("run", .str "ppl"), ("left", .str "xxpp"), ("right", .str "xxpp"), ("by", .str ""), ("from", .str ""), ("pace", .str "g"), ("side", .str "r"), ("shift", .str "rr"), ("turn", .str "pp"), ("flip", .str ""), ("back", .str ""), ("piece", .str "n"), ("end", .str ""), ("call", .str "nt")]
def kv_READERS : List (Str × He.Dv) := [("x", .glo "coordinate_in"), ("r", .glo "number_in"), ("l", .glo "length_in"), ("p", .glo "turn_in"), ("g", .glo "pace_in"), ("t", .glo "times_in"), ("n", .glo "name_in")]
def kv_DEEDS : List (Str × He.Dv) := [("hop", .glo "do_hop"), ("cut", .glo "do_cut"), ("run", .glo "do_run"), ("left", .glo "do_arc"), ("right", .glo "do_arc"), ("from", .glo "do_mode"), ("by", .glo "do_mode"), ("pace", .glo "do_pace"), ("side", .glo "do_side"), ("shift", .glo "do_frame"), ("turn", .glo "do_frame"), ("flip", .glo "do_frame"), ("back", .glo "do_back"), ("call", .glo "do_call")]
def ts : List He.Tab := [((fun K => He.ga K "SHAPES"), ["hop", "cut", "run", "left", "right", "by", "from", "pace", "side", "shift", "turn", "flip", "back", "piece", "end", "call"]), ((fun K => He.ga K "READERS"), ["x", "r", "l", "p", "g", "t", "n"]), ((fun K => He.ga K "DEEDS"), ["hop", "cut", "run", "left", "right", "from", "by", "pace", "side", "shift", "turn", "flip", "back", "call"])]
def kv_STEP : List He.Dv := [.str "hop", .str "cut", .str "run", .str "left", .str "right"]
def lo0 : List Str := ["MillError", "NoHeading", "NoText", "Uneven", "NoFrame", "TooDeep", "TooMany", "NoState", "OverNought", "NoPiece", "NOUGHT", "shared", "ratio", "plus", "opposite", "minus", "times", "side_of", "root", "CORNER", "added", "lessened", "scaled", "dot", "heading_of", "turned", "distance", "MOST_FRAMES", "by_one", "direction_by_one"]
def lo1 : List Str := ["back_by_one", "led_place", "led_direction", "led_from", "is_about", "MOST_ROWS", "MOST_FIGURES", "MOST_SIGNS", "MOST_TOP", "MOST_BOTTOM", "MOST_TURN", "MOST_PACE", "MOST_TIMES", "SHAPES", "STEP_WORDS", "whole_in", "number_in", "coordinate_in", "length_in", "turn_in", "pace_in", "times_in", "name_in", "READERS", "read_row", "is_fitting", "rows_of", "read_program", "spans_of", "is_far"]
def lo2 : List Str := ["MOST_DONE", "MOST_STEPS", "MOST_CALLS", "Road", "Runner", "do_hop", "do_cut", "do_run", "do_arc", "do_mode", "do_pace", "do_side", "do_frame", "do_back", "do_call", "DEEDS", "road_by", "road_of", "_law_bag", "_law_take", "_law_shared", "_law_low", "_law_plus", "_law_times", "_law_minus", "_law_added", "_law_lessened", "_law_turned", "_law_scaled", "_law_heading"]
def lo3 : List Str := ["_law_both", "_law_word", "_law_text", "_law_frame", "_law_by", "_law_led", "_law_back", "_law_about", "_law_refused", "_law_row", "_law_calm", "_law_names", "_law_program", "_law_is_outside", "_law_span", "_law_is_far", "_law_spot", "_law_made", "_law_keep", "_law_next", "_law_gone"]
def loose : List Str := lo0 ++ lo1 ++ lo2 ++ lo3
/-! what else is told of the written part -/
/-- an own exception class over ValueError, through MillError -/
def excB (K : PySem.W.Frag) (C : Addr) : Bool := match K.lookup C with
  | some ⟨.type "type", _, .cls cd, sl⟩ => (match cd.mro, sl.toList with
    | .ref D :: bm, [_, _, _, _, some (.builtin n), _] => decide (D = C) && (n == "ValueError.__new__" && (!cd.hasDel && (cd.hasDict && PySem.HandSPX.refsVE bm)))
    | _, _ => false)
  | _ => false
def excMore (K : PySem.W.Frag) (x f : Str) : Bool :=
  excB K (He.ga K x) && (He.eqO (PySem.W.findIn K (.ref (He.ga K x)) "__setattr__") (some (some (.builtin "object.__setattr__")))
  && (He.eqO (PySem.W.findIn K (.ref (He.ga K x)) "__getattribute__") (some (some (.builtin "BaseException.__getattribute__")))
  && (He.eqO (PySem.W.findIn K (.ref (He.ga K x)) "__getattr__") (some none)
  && (He.eqO (PySem.W.findIn K (.ref (He.ga K x)) f) (some none)
  && (He.eqO (PySem.W.findIn K (.ref (He.ga K x)) "__init__") (some (some (.ref (He.ma K (He.ga K x) "__init__"))))
  && (decide (PySem.W.typeIn K (.ref (He.ma K (He.ga K x) "__init__")) = some (.type "function"))
  && (PySem.W.keepIn K (.ref (He.ga K x))
  && (decide (PySem.W.subIn K (.ref (He.ga K x)) (.type "BaseException") = some true)
  && (decide (PySem.W.typeIn K (.ref (He.ga K x)) = some (.type "type"))
  && (PySem.W.hasDictIn K (He.ga K x)
  && (He.eqO (PySem.W.findIn K (.ref (He.ga K x)) "__class__") (some (some (.builtin "object.__class__")))
  && decide (PySem.W.mroIn K (He.ga K x) (.type "object") = some true))))))))))))
def isaB (K : PySem.W.Frag) (x y : Str) (b : Bool) : Bool := decide (PySem.W.kitOne K (.ref (He.ga K x)) (.ref (He.ga K y)) = some b)
def isaT (K : PySem.W.Frag) (x : Str) (T : String) (b : Bool) : Bool := decide (PySem.W.kitOne K (.ref (He.ga K x)) (.type T) = some b)
def excs : List Str := ["Uneven", "NoFrame", "TooDeep", "TooMany"]
def isaAll (K : PySem.W.Frag) : Bool := excs.all fun x => (excs.all fun y => isaB K x y (decide (x = y))) && (isaT K x "ValueError" true && (isaT K x "LookupError" false && (isaB K x "NoText" false && isaB K x "NoState" false)))
def bmOf (K : PySem.W.Frag) : Addr := He.ga K "__builtins__"
/-- the system's own places stand in the written part -/
def sysB (K : PySem.W.Frag) : Bool := (K.lookup cStatics).isSome && ((K.lookup sysModules).isSome && (He.eqO (PySem.W.nsIn K mainGlobals "__builtins__") (some (some (.ref (bmOf K)))) && (K.lookup (bmOf K)).isSome))
def ex (K : PySem.W.Frag) : Bool :=
  He.tupB K "NOUGHT" [.int 0, .int 1] && (He.tupB K "CORNER" [.glo "NOUGHT", .glo "NOUGHT"] && (He.tupB K "STEP_WORDS" kv_STEP
  && (He.valsB K (He.ga K "SHAPES") kv_SHAPES && (He.valsB K (He.ga K "READERS") kv_READERS && (He.valsB K (He.ga K "DEEDS") kv_DEEDS
  && (excMore K "Uneven" "row" && (excMore K "NoFrame" "row" && (excMore K "TooDeep" "row" && (excMore K "TooMany" "most"
  && (isaAll K && sysB K))))))))))

/-! the hook: what the module's names reach, as far as it is looked at, and the system's own places -/
def rf : Value → List Addr
  | .ref a => [a]
  | _ => []
/-- what is gone on to from an object: a dict's values, a tuple's items, a def's code and defaults, a class's names and bases -/
def onO : Obj → List Addr
  | ⟨_, _, .seq its _, _⟩ => its.toList.flatMap rf
  | ⟨_, _, .dict es _, _⟩ => es.toList.flatMap fun e => rf e.val
  | ⟨_, _, .func fd, _⟩ => rf fd.code ++ rf fd.defaults
  | ⟨_, _, .cls cd, _⟩ => [cd.ns]
  | _ => []
def onG (g : Addr → Option Obj) (as : List Addr) : List Addr := as.flatMap fun a => match g a with
  | some o => onO o
  | none => []
def withL {α : Type} : List Addr → (List Addr → α) → α
  | [], k => k []
  | a :: r, k => HandSHeadRun.frNat a fun a => withL r fun r => k (a :: r)
theorem withL_eq {α : Type} : ∀ (l : List Addr) (k : List Addr → α), withL l k = k l
  | [], _ => rfl
  | a :: r, k => by
    show (HandSHeadRun.frNat a fun a => withL r fun r => k (a :: r)) = _
    rw [HandSHeadRun.frNat_eq, withL_eq r]
def placesOf (g : Addr → Option Obj) : List Addr :=
  withL (onG g [mainGlobals]) fun l1 => withL (onG g l1) fun l2 => withL (onG g l2) fun l3 => mainGlobals :: (l1 ++ (l2 ++ (l3 ++ (onG g l3 ++ [cStatics, sysModules]))))
def KOf (g : Addr → Option Obj) : PySem.W.Frag := withL (placesOf g) fun l => He.frG g l
theorem KOf_in {h : Heap} : (KOf h.get?).In h := by
  unfold KOf
  rw [withL_eq]
  exact He.frG_in
abbrev Seen : Type := He.AlT × Bool
def seenOf (g : Addr → Option Obj) : Seen := (He.obsT fa fn ts (KOf g), ex (KOf g))
def Told (w : World) (K : PySem.W.Frag) : Prop := He.SaysT fa fn ts w K ∧ ex K = true
def hk : PySem.W.Hook where
  α := Seen
  val := fun w => (He.valT fn ts w, true)
  obs := fun s => seenOf s.heap.get?
  says := fun w h => ∃ K : PySem.W.Frag, K.In h ∧ Told w K
  of := fun _ s e => ⟨KOf s.heap.get?, KOf_in, congrArg (fun z : Seen => z.1) e, congrArg (fun z : Seen => z.2) e⟩
  keeps := fun _ _ _ ⟨K, i, t⟩ k => ⟨K, PySem.W.Frag.In.keeps i k, t⟩
def ob (s : PySem.W.SharedT) : Seen := seenOf (HandSHeadRun.getT s)
theorem ob_eq (s : PySem.W.SharedT) : ob s = hk.obs s.abs := by
  have e : HandSHeadRun.getT s = s.abs.heap.get? := funext fun a => HandSHeadRun.getT_eq s a
  show seenOf (HandSHeadRun.getT s) = seenOf s.abs.heap.get?
  rw [e]
abbrev R : PySem.W.OpenRow := PySem.W.OpenLaw.row PySem.Challenge.rw_toolroad_k29_whole_roads_by_their_rows
end Kd

set_option Elab.async false
set_option linter.all false
set_option maxRecDepth 100000
set_option maxHeartbeats 0
namespace Kd
open PySem PySem.Spec PyProof.Rows L2
theorem run_f (w : World) : HandSHeadRun.RunEq R (PySem.W.view R.prog [119]) hk ob 6600 loose (w.withFollow "special-get-raises" false) := by
  intro os
  kernel_rfl
theorem run_t (w : World) : HandSHeadRun.RunEq R (PySem.W.view R.prog [119]) hk ob 6600 loose (w.withFollow "special-get-raises" true) := by
  intro os
  kernel_rfl
theorem run (w : World) : HandSHeadRun.RunEq R (PySem.W.view R.prog [119]) hk ob 6600 loose w :=
  PySem.W.byRow2 "special-get-raises" (P := fun w => HandSHeadRun.RunEq R (PySem.W.view R.prog [119]) hk ob 6600 loose w) run_f run_t w
end Kd

set_option Elab.async false
set_option linter.all false
set_option maxRecDepth 100000
set_option maxHeartbeats 4000000
namespace Kx
open PySem PySem.Spec PyProof.Rows L2 Evl
/-! ### data without lists -/
mutual
inductive Dt (K : PySem.W.Frag) (H : Hp) : V → PyData → Prop
  | non : Dt K H .non .none
  | bl (b : Bool) : Dt K H (.bl b) (.bool b)
  | int (i : Int) : Dt K H (.int i) (.int i)
  | str (x : Str) : Dt K H (.str x) (.str x)
  | tup {a : Addr} {xs : List V} {ds : List PyData} : SqT K H a xs → DtL K H xs ds → Dt K H (.ref a) (.tuple ds)
inductive DtL (K : PySem.W.Frag) (H : Hp) : List V → List PyData → Prop
  | nil : DtL K H [] []
  | cons {v : V} {vs : List V} {d : PyData} {ds : List PyData} : Dt K H v d → DtL K H vs ds → DtL K H (v :: vs) (d :: ds)
end
/-- the tuples that stood stand -/
def TK (H H' : Hp) : Prop := ∀ a xs, Rd H a (.tup xs) → Rd H' a (.tup xs)
theorem TK.refl (H : Hp) : TK H H := fun _ _ h => h
theorem TK.trans {H H1 H2 : Hp} (a : TK H H1) (b : TK H1 H2) : TK H H2 := fun c xs h => b c xs (a c xs h)
theorem TK.ex {H H' : Hp} (e : Ex H H') : TK H H' := fun _ _ h => ex_rd e h
/-- an object that is no tuple is written -/
theorem TK.upd {H : Hp} {a : Addr} {o u : HO} (h : H a = some u) (hm : Mut (some u)) : TK H (upd H a o) := fun b xs r => by
  have n : b ≠ a := by
    rintro rfl
    rcases r with r | ⟨o', r⟩
    · rw [h] at r
      cases r
      exact hm
    · rw [h] at r
      cases r
      exact hm
  rcases r with r | ⟨o', r⟩
  · exact .inl (by rw [upd_ne n]; exact r)
  · exact .inr ⟨o', by rw [upd_ne n]; exact r⟩
theorem SqT.tk {K : PySem.W.Frag} {H H' : Hp} {a : Addr} {xs : List V} (k : TK H H') (h : SqT K H a xs) : SqT K H' a xs := by
  rcases h with h | h
  · exact .inl (k _ _ h)
  · exact .inr h
mutual
theorem Dt.tk {K : PySem.W.Frag} {H H' : Hp} (k : TK H H') : ∀ {v : V} {d : PyData}, Dt K H v d → Dt K H' v d
  | _, _, .non => .non
  | _, _, .bl b => .bl b
  | _, _, .int i => .int i
  | _, _, .str x => .str x
  | _, _, .tup h l => .tup (SqT.tk k h) (DtL.tk k l)
theorem DtL.tk {K : PySem.W.Frag} {H H' : Hp} (k : TK H H') : ∀ {vs : List V} {ds : List PyData}, DtL K H vs ds → DtL K H' vs ds
  | _, _, .nil => .nil
  | _, _, .cons h l => .cons (Dt.tk k h) (DtL.tk k l)
end
section
variable {K : PySem.W.Frag} {H H' : Hp} {v : V} {vs : List V} {d : PyData} {ds : List PyData}
theorem Dt.ex (e : Ex H H') (h : Dt K H v d) : Dt K H' v d := Dt.tk (.ex e) h
theorem DtL.ex (e : Ex H H') (h : DtL K H vs ds) : DtL K H' vs ds := DtL.tk (.ex e) h
theorem Dt.int_eq {i : Int} (h : Dt K H v (.int i)) : v = .int i := by cases h; rfl
theorem Dt.str_eq {x : Str} (h : Dt K H v (.str x)) : v = .str x := by cases h; rfl
theorem Dt.bool_eq {b : Bool} (h : Dt K H v (.bool b)) : v = .bl b := by cases h; rfl
theorem Dt.none_eq (h : Dt K H v .none) : v = .non := by cases h; rfl
theorem Dt.tup_eq (h : Dt K H v (.tuple ds)) : ∃ a xs, v = .ref a ∧ SqT K H a xs ∧ DtL K H xs ds := by
  cases h with
  | tup h l => exact ⟨_, _, rfl, h, l⟩
theorem DtL.len (h : DtL K H vs ds) : vs.length = ds.length := by
  induction vs generalizing ds with
  | nil => cases h; rfl
  | cons v vs ih =>
    cases h with
    | cons a b => simp [ih b]
theorem DtL.get {i : Nat} (h : DtL K H vs ds) (e : ds[i]? = some d) : ∃ v, vs[i]? = some v ∧ Dt K H v d := by
  induction vs generalizing ds i with
  | nil => cases h; simp at e
  | cons v vs ih =>
    cases h with
    | cons a b =>
      cases i with
      | zero => simp at e; subst e; exact ⟨v, rfl, a⟩
      | succ i => exact ih b (by simpa using e)
theorem DtL.get' {i : Nat} (h : DtL K H vs ds) (e : vs[i]? = some v) : ∃ d, ds[i]? = some d ∧ Dt K H v d := by
  induction vs generalizing ds i with
  | nil => simp at e
  | cons w vs ih =>
    cases h with
    | cons a b =>
      cases i with
      | zero => simp at e; subst e; exact ⟨_, rfl, a⟩
      | succ i =>
        obtain ⟨d', h1, h2⟩ := ih b (i := i) (by simpa using e)
        exact ⟨d', by simpa using h1, h2⟩
theorem DtL.at (h : DtL K H vs ds) {i : Int} (e : atI ds i = some d) : ∃ v, atI vs i = some v ∧ Dt K H v d := by
  unfold atI at e ⊢
  rw [h.len]
  cases q : ixN ds.length i with
  | none => rw [q] at e; cases e
  | some j =>
    rw [q] at e
    exact h.get e
theorem DtL.append {ws : List V} {es : List PyData} (h : DtL K H vs ds) (g : DtL K H ws es) : DtL K H (vs ++ ws) (ds ++ es) := by
  induction vs generalizing ds with
  | nil => cases h; exact g
  | cons v vs ih =>
    cases h with
    | cons a b => exact .cons a (ih b)
theorem DtL.take (n : Nat) (h : DtL K H vs ds) : DtL K H (vs.take n) (ds.take n) := by
  induction vs generalizing ds n with
  | nil => cases h; simp; exact .nil
  | cons v vs ih =>
    cases h with
    | cons a b =>
      cases n with
      | zero => exact .nil
      | succ n => exact .cons a (ih n b)
theorem DtL.drop (n : Nat) (h : DtL K H vs ds) : DtL K H (vs.drop n) (ds.drop n) := by
  induction vs generalizing ds n with
  | nil => cases h; simp; exact .nil
  | cons v vs ih =>
    cases h with
    | cons a b =>
      cases n with
      | zero => exact .cons a b
      | succ n => exact ih n b
theorem DtL.reverse (h : DtL K H vs ds) : DtL K H vs.reverse ds.reverse := by
  induction vs generalizing ds with
  | nil => cases h; exact .nil
  | cons v vs ih =>
    cases h with
    | cons a b =>
      rw [List.reverse_cons, List.reverse_cons]
      exact (ih b).append (.cons a .nil)
mutual
theorem Dt.dp : ∀ {v : V} {d : PyData}, Dt K H v d → Dp K H v d
  | _, _, .non => .non
  | _, _, .bl b => .bl b
  | _, _, .int i => .int i
  | _, _, .str x => .str x
  | _, _, .tup h l => .tup h (DtL.dp l)
theorem DtL.dp : ∀ {vs : List V} {ds : List PyData}, DtL K H vs ds → DpAll K H vs ds
  | _, _, .nil => .nil
  | _, _, .cons h l => .cons (Dt.dp h) (DtL.dp l)
end
end

/-! ### what an expression's reading comes to, as data -/
def EvD (K : PySem.W.Frag) (te : TE) (σ : L2.St) (H : Hp) (d : PyData) : Prop := ∀ H1, Ex H H1 → ∀ Q : VK, (∀ v H2, Ex H1 H2 → Dt K H2 v d → Q v H2) → te σ H1 Q
def EvDs (K : PySem.W.Frag) (ta : TA) (σ : L2.St) (H : Hp) (ds : List PyData) : Prop := ∀ H1, Ex H H1 → ∀ Q : List V → Hp → Prop, (∀ vs H2, Ex H1 H2 → DtL K H2 vs ds → Q vs H2) → ta σ H1 Q
section
variable {K : PySem.W.Frag} {σ : L2.St} {H H' : Hp} {ta tb tc te : TE} {t u : TT} {x y z v : V} {r : R2} {d e : PyData} {ds es : List PyData} {tA tr : TA}
theorem EvD.mono (a : Ex H H') (h : EvD K te σ H d) : EvD K te σ H' d := fun H1 b Q q => h H1 (a.trans b) Q q
theorem EvD.is (h : EvD K te σ H d) (e' : d = e) : EvD K te σ H e := e' ▸ h
theorem d_of (h : Ev te σ H v) (hd : Dt K H v d) : EvD K te σ H d := fun H1 b Q q => h H1 b Q fun H2 c => q v H2 c (hd.ex (b.trans c))
theorem d_var {i : Nat} (hd : Dt K H v d) (h : σ[i]? = some (some v)) : EvD K (tVar i) σ H d := d_of (ev_var h) hd
theorem d_vint {i : Nat} {n : Int} (h : σ[i]? = some (some (.int n))) : EvD K (tVar i) σ H (.int n) := d_var (.int n) h
theorem d_vbool {i : Nat} {b : Bool} (h : σ[i]? = some (some (.bl b))) : EvD K (tVar i) σ H (.bool b) := d_var (.bl b) h
theorem d_vstr {i : Nat} {s : Str} (h : σ[i]? = some (some (.str s))) : EvD K (tVar i) σ H (.str s) := d_var (.str s) h
theorem d_vnon {i : Nat} (h : σ[i]? = some (some .non)) : EvD K (tVar i) σ H .none := d_var .non h
theorem d_int {n : Int} : EvD K (tC (.int n)) σ H (.int n) := d_of ev_c (.int n)
theorem d_bl {b : Bool} : EvD K (tC (.bl b)) σ H (.bool b) := d_of ev_c (.bl b)
theorem d_str {s : Str} : EvD K (tC (.str s)) σ H (.str s) := d_of ev_c (.str s)
theorem d_non : EvD K (tC .non) σ H .none := d_of ev_c .non
theorem d_const (hd : Dt K H v d) : EvD K (tC v) σ H d := d_of ev_c hd
theorem EvD.int {n : Int} (h : EvD K te σ H (.int n)) : Ev te σ H (.int n) := fun H1 b Q q => h H1 b Q fun v H2 c hd => by rw [hd.int_eq]; exact q H2 c
theorem EvD.bool {n : Bool} (h : EvD K te σ H (.bool n)) : Ev te σ H (.bl n) := fun H1 b Q q => h H1 b Q fun v H2 c hd => by rw [hd.bool_eq]; exact q H2 c
theorem EvD.str {n : Str} (h : EvD K te σ H (.str n)) : Ev te σ H (.str n) := fun H1 b Q q => h H1 b Q fun v H2 c hd => by rw [hd.str_eq]; exact q H2 c
theorem EvD.none (h : EvD K te σ H .none) : Ev te σ H .non := fun H1 b Q q => h H1 b Q fun v H2 c hd => by rw [hd.none_eq]; exact q H2 c
/-- ints -/
theorem d_ii {f : Int → Int → Int} {i j : Int} (ha : EvD K ta σ H (.int i)) (hb : EvD K tb σ H (.int j)) : EvD K (tOp (rI0 fun i j => .int (f i j)) ta tb) σ H (.int (f i j)) :=
  d_of (ev_op ha.int hb.int (rv_I0 (g := fun i j => .int (f i j)))) (.int _)
theorem d_ib {f : Int → Int → Bool} {i j : Int} (ha : EvD K ta σ H (.int i)) (hb : EvD K tb σ H (.int j)) : EvD K (tOp (rI0 fun i j => .bl (f i j)) ta tb) σ H (.bool (f i j)) :=
  d_of (ev_op ha.int hb.int (rv_I0 (g := fun i j => .bl (f i j)))) (.bl _)
theorem d_iC {C : Int → Int → Prop} {f : Int → Int → Int} {i j : Int} (ha : EvD K ta σ H (.int i)) (hb : EvD K tb σ H (.int j)) (hc : C i j) : EvD K (tOp (rI C fun i j => .int (f i j)) ta tb) σ H (.int (f i j)) :=
  d_of (ev_op ha.int hb.int (rv_I (g := fun i j => .int (f i j)) hc)) (.int _)
theorem d_neg {i : Int} (ha : EvD K ta σ H (.int i)) : EvD K (tUn (rU fun i => .int (-i)) ta) σ H (.int (-i)) := d_of (ev_un ha.int ru_neg) (.int _)
/-- scalars compared -/
theorem d_eqS {a b : Str} (ha : EvD K ta σ H (.str a)) (hb : EvD K tb σ H (.str b)) : EvD K (tOp rEq ta tb) σ H (.bool (decide (a = b))) := by
  have h := ev_op ha.str hb.str (rv_eq (x := .str a) (y := .str b) (H := H) rfl)
  have e : decide (V.str a = V.str b) = decide (a = b) := by simp
  rw [e] at h
  exact d_of h (.bl _)
theorem d_neS {a b : Str} (ha : EvD K ta σ H (.str a)) (hb : EvD K tb σ H (.str b)) : EvD K (tOp rNe ta tb) σ H (.bool (!decide (a = b))) := by
  have h := ev_op ha.str hb.str (rv_ne (x := .str a) (y := .str b) (H := H) rfl)
  have e : decide (V.str a = V.str b) = decide (a = b) := by simp
  rw [e] at h
  exact d_of h (.bl _)
theorem d_eqI {a b : Int} (ha : EvD K ta σ H (.int a)) (hb : EvD K tb σ H (.int b)) : EvD K (tOp rEq ta tb) σ H (.bool (decide (a = b))) := by
  have h := ev_op ha.int hb.int (rv_eq (x := .int a) (y := .int b) (H := H) rfl)
  have e : decide (V.int a = V.int b) = decide (a = b) := by simp
  rw [e] at h
  exact d_of h (.bl _)
theorem d_neI {a b : Int} (ha : EvD K ta σ H (.int a)) (hb : EvD K tb σ H (.int b)) : EvD K (tOp rNe ta tb) σ H (.bool (!decide (a = b))) := by
  have h := ev_op ha.int hb.int (rv_ne (x := .int a) (y := .int b) (H := H) rfl)
  have e : decide (V.int a = V.int b) = decide (a = b) := by simp
  rw [e] at h
  exact d_of h (.bl _)
theorem d_neB {a b : Bool} (ha : EvD K ta σ H (.bool a)) (hb : EvD K tb σ H (.bool b)) : EvD K (tOp rNe ta tb) σ H (.bool (!decide (a = b))) := by
  have h := ev_op ha.bool hb.bool (rv_ne (x := .bl a) (y := .bl b) (H := H) rfl)
  have e : decide (V.bl a = V.bl b) = decide (a = b) := by simp
  rw [e] at h
  exact d_of h (.bl _)
/-- an item of a tuple -/
theorem d_ix {i : Int} (ha : EvD K ta σ H (.tuple ds)) (hb : EvD K tb σ H (.int i)) (he : atI ds i = some d) : EvD K (tOp (rIxT K) ta tb) σ H d := fun H1 a Q q =>
  ha H1 a _ fun v H2 b hv => hb H2 (a.trans b) _ fun w H3 c hw => by
    obtain ⟨p, xs, rfl, hs, hl⟩ := (hv.ex c).tup_eq
    rw [hw.int_eq]
    obtain ⟨x, ex, hx⟩ := hl.at he
    exact ⟨p, xs, i, x, rfl, rfl, hs, ex, q x H3 (b.trans c) hx⟩
/-- arguments, displays -/
theorem ds_nil : EvDs K tNil σ H [] := fun H1 _ Q q => q [] H1 (Ex.refl _) .nil
theorem ds_cons (ha : EvD K ta σ H d) (hr : EvDs K tr σ H ds) : EvDs K (tCons ta tr) σ H (d :: ds) := fun H1 a Q q =>
  ha H1 a _ fun v H2 b hv => hr H2 (a.trans b) _ fun vs H3 c hl => q (v :: vs) H3 (b.trans c) (.cons (hv.ex c) hl)
theorem EvDs.mono (a : Ex H H') (h : EvDs K tA σ H ds) : EvDs K tA σ H' ds := fun H1 b Q q => h H1 (a.trans b) Q q
theorem d_tup (ha : EvDs K tA σ H ds) (hl : ds.length ≤ 100000) : EvD K (tTup tA) σ H (.tuple ds) := fun H1 a Q q =>
  ha H1 a _ fun vs H2 b hv => ⟨by rw [hv.len]; exact sz_of hl, fun p hp => q (.ref p) _ (b.trans (Ex.new hp)) (.tup (SqT.of upd_same) (hv.ex (Ex.new hp)))⟩
theorem d_tup2 {d1 d2 : PyData} (ha : EvDs K tA σ H [d1, d2]) : EvD K (tTup tA) σ H (.tuple [d1, d2]) := d_tup ha (by show 2 ≤ 100000; decide)
/-- a call that changes nothing that stood -/
def spP (K : PySem.W.Frag) (f : List PyData → PyData → Prop) : Sp := fun vs H Q _ => ∃ ds r, DtL K H vs ds ∧ f ds r ∧ ∀ v H', Ex H H' → Dt K H' v r → Q v H'
theorem d_call {f : List PyData → PyData → Prop} {E : XK} (ha : EvDs K tA σ H ds) (hf : f ds d) : EvD K (tCall (spP K f) [] E tA) σ H d := fun H1 a Q q =>
  ha H1 a _ fun vs H2 b hv => ⟨ds, d, by rw [List.append_nil]; exact hv, hf, fun v H3 c hd => q v H3 (b.trans c) hd⟩
/-- tests -/
theorem t_test {b : Bool} (h : EvD K te σ H (.bool b)) : EvT (tTest te) σ H b := et_test h.bool
theorem t_B {b : Bool} (h : EvD K te σ H (.bool b)) : EvT (tB te) σ H b := et_B h.bool
theorem d_if {b : Bool} (h : EvT t σ H b) (h1 : b = true → EvD K ta σ H d) (h2 : b = false → EvD K tb σ H d) : EvD K (tIf t ta tb) σ H d := fun H1 a Q q =>
  h H1 a _ fun H2 c => by
    cases b with
    | true =>
      show ta σ H2 Q
      exact h1 rfl H2 (a.trans c) Q fun v H3 c3 hd => q v H3 (c.trans c3) hd
    | false =>
      show tb σ H2 Q
      exact h2 rfl H2 (a.trans c) Q fun v H3 c3 hd => q v H3 (c.trans c3) hd
theorem d_andV {a b : Bool} (h1 : EvD K ta σ H (.bool a)) (h2 : a = true → EvD K tb σ H (.bool b)) : EvD K (tAndV ta tb) σ H (.bool (a && b)) := d_of (ev_andV h1.bool fun q => (h2 q).bool) (.bl _)
theorem d_orV {a b : Bool} (h1 : EvD K ta σ H (.bool a)) (h2 : a = false → EvD K tb σ H (.bool b)) : EvD K (tOrV ta tb) σ H (.bool (a || b)) := d_of (ev_orV h1.bool fun q => (h2 q).bool) (.bl _)
theorem d_notV {a : Bool} (h1 : EvD K ta σ H (.bool a)) : EvD K (tNotV ta) σ H (.bool (!a)) := d_of (ev_notV h1.bool) (.bl _)
/-! statements -/
variable {D : Ends} {tu tw tz : TS} {g : TG}
theorem s_retD (h : EvD K te σ H d) (k : ∀ v H1, Ex H H1 → Dt K H1 v d → D.rt v H1) : tRet te D σ H := h H (Ex.refl H) _ fun v H1 e hd => k v H1 e hd
theorem s_asgD {i : Nat} (h : EvD K te σ H d) (k : ∀ v H1, Ex H H1 → Dt K H1 v d → D.nx (σ.set i (some v)) H1) : tAsg te (gName i) D σ H := h H (Ex.refl H) _ fun v H1 e hd => k v H1 e hd
theorem q_asgD {i : Nat} (h : EvD K te σ H d) (k : ∀ v H1, Ex H H1 → Dt K H1 v d → tz D (σ.set i (some v)) H1) : tSeq (tAsg te (gName i)) tz D σ H := s_asgD (D := { D with nx := tz D }) h k
theorem s_parD {i j : Nat} {a b : PyData} (h : EvDs K tA σ H [a, b]) (k : ∀ v w H1, Ex H H1 → Dt K H1 v a → Dt K H1 w b → D.nx ((σ.set i (some v)).set j (some w)) H1) : tPar i j tA D σ H := h H (Ex.refl H) _ fun vs H1 e hd => by
  cases hd with
  | cons h1 h2 =>
    cases h2 with
    | cons h2 h3 =>
      cases h3
      exact ⟨_, _, rfl, k _ _ H1 e h1 h2⟩
theorem q_parD {i j : Nat} {a b : PyData} (h : EvDs K tA σ H [a, b]) (k : ∀ v w H1, Ex H H1 → Dt K H1 v a → Dt K H1 w b → tz D ((σ.set i (some v)).set j (some w)) H1) : tSeq (tPar i j tA) tz D σ H := s_parD (D := { D with nx := tz D }) h k
/-- the rest of the block where a test is known -/
theorem q_iff {b : Bool} (h : EvT t σ H b) (h1 : b = true → ∀ H1, Ex H H1 → tu { D with nx := tz D } σ H1) (h2 : b = false → ∀ H1, Ex H H1 → tw { D with nx := tz D } σ H1) : tSeq (tIfS t tu tw) tz D σ H := q_if h h1 h2
end

/-! ### a def that keeps its promise -/
structure Ok (P : Program) (w : World) (K : PySem.W.Frag) (mg : Str → Option Value) (base : Heap) (CX : CXT) (k : Nat) (f : Addr) (ps : List Str) (sp : Sp) : Prop where
  ex : ∃ fd, FnOk P w K mg base CX k f fd ps sp ∧ Binds K fd ps []
  kp : PySem.W.keepIn K (.ref f) = true
section
variable {P : Program} {w : World} {K : PySem.W.Frag} {mg : Str → Option Value} {base : Heap} {CX : CXT} {x qual : Str} {st : Stmt} {f : Addr} {N ps : List Str} {k j : Nat} {sp : Sp}
theorem Ok.mono (O : Ok P w K mg base CX j f ps sp) (h : j ≤ k) : Ok P w K mg base CX k f ps sp := let ⟨⟨fd, F, b⟩, kp⟩ := O; ⟨⟨fd, F.mono h, b⟩, kp⟩
theorem ok_of (F : ∃ fd, FunD K x qual (defArgs st) (defBody st) (defScope st) [] [] f fd) (S : FnScope N ps (defScope st)) (len : ∀ vs H Q E, sp vs H Q E → vs.length = ps.length)
    (bnd : ∀ (kV doc pm : Value) (an : Option Addr) (cdv ct : Value) (us : List Value), us.length = ps.length → bindArgs (PySem.W.fnOf x qual (defArgs st) (defBody st) (defScope st) .none kV doc pm an cdv ct) ⟨us, []⟩ = pure (ps.zip us))
    (hbody : ∀ (cdv : Value) (A : Around) (outer : List Env) (s : Shared) (H : Hp) (vs : List V) (Q : VK) (E : XK), Room k (A.deeper (envOfC qual (defScope st) s.heap.objs.size f cdv)) → sp vs H Q E →
      ∃ t, PSs (cxOf CX P w K mg base N qual (defScope st) f cdv A outer s H E) (defBody st) t ∧ t { nx := fun _ H' => Q .non H', rt := Q } (start N vs) H) : Ok P w K mg base CX (k + 1) f ps sp := by
  obtain ⟨fd, F⟩ := F
  exact ⟨⟨fd, F.ok S len hbody, F.bindsN bnd⟩, F.kp⟩
/-- .. of a call that changes nothing, for a def that raises nothing -/
theorem ok_pure {g : List PyData → PyData → Prop} (F : ∃ fd, FunD K x qual (defArgs st) (defBody st) (defScope st) [] [] f fd) (S : FnScope N ps (defScope st)) (len : ∀ ds r, g ds r → ds.length = ps.length)
    (bnd : ∀ (kV doc pm : Value) (an : Option Addr) (cdv ct : Value) (us : List Value), us.length = ps.length → bindArgs (PySem.W.fnOf x qual (defArgs st) (defBody st) (defScope st) .none kV doc pm an cdv ct) ⟨us, []⟩ = pure (ps.zip us))
    (hbody : ∀ (cdv : Value) (A : Around) (outer : List Env) (s : Shared) (H : Hp) (E : XK), Room k (A.deeper (envOfC qual (defScope st) s.heap.objs.size f cdv)) →
      ∃ t, PSs (cxOf CX0 P w K mg base N qual (defScope st) f cdv A outer s H E).nox (defBody st) t ∧
        ∀ (vs : List V) (ds : List PyData) (r : PyData) (D : Ends), DtL K H vs ds → g ds r → (∀ v H1, Ex H H1 → Dt K H1 v r → D.rt v H1) → (r = .none → ∀ σ H1, Ex H H1 → D.nx σ H1) → t D (start N vs) H) : Ok P w K mg base CX0 (k + 1) f ps (spP K g) := by
  refine ok_of F S (fun vs H Q E ⟨ds, r, h1, h2, _⟩ => h1.len.trans (len ds r h2)) bnd fun cdv A outer s H vs Q E hr ⟨ds, r, h1, h2, h3⟩ => ?_
  obtain ⟨t, ht, h⟩ := hbody cdv A outer s H E hr
  exact ⟨t, ht.nox, h vs ds r _ h1 h2 h3 fun e σ H1 x => h3 .non H1 x (by rw [e]; exact .non)⟩
end
section
variable {X : Cx} {CX : CXT} {k : Nat} {f : Addr} {ps : List Str} {sp : Sp} {E : XK} {x : Str} {p pos : Pos} {e : Expr} {es : List Expr} {t : TA}
theorem pe_fn (O : Ok X.prog X.w X.K X.mg X.base CX k f ps sp) (hr : Room k X.A) (hm : X.mg x = some (.ref f)) (hx : Passes CX X E) (ha : PA X (e :: es) t) (hg : Gl X x := by rfl)
    (hdb : (x == ("__debug__" : Str)) = false := by decide) (he : starEach (e :: es) X.env = (false, eval e X.env) :: starEach es X.env := by rfl) (hpl : (backTo pos (starEach es X.env)).any (·.1) = false := by rfl) :
    PE X (.Call (.Name x p) (e :: es) [] pos) (tCall sp [] E t) := let ⟨fd, F, b⟩ := O.ex; pe_call F hr hg hm O.kp b .nil hx ha hdb he hpl
end
end Kx

set_option Elab.async false
set_option linter.all false
set_option maxRecDepth 100000
set_option maxHeartbeats 4000000
namespace Kx
open PySem PySem.Spec PyProof.Rows L2
/-- what the written part tells -/
structure Tx (w : World) (K : PySem.W.Frag) (mg : Str → Option Value) : Prop where
  told : Kd.Told w K
  get : ∀ (x : Str) (r : Option Value), PySem.W.nsIn K mainGlobals x = some r → mg x = r
  seer : ∀ base : Heap, Mod K mg base → base.NoSeer
theorem seer_of {K : PySem.W.Frag} {h : Heap} {mg : Str → Option Value} (X : K.In h) (S : h.NoSeer) (b : Kd.sysB K = true) (base : Heap) (M : Mod K mg base) : base.NoSeer := by
  obtain ⟨b1, b⟩ := He.ba b
  obtain ⟨b2, b⟩ := He.ba b
  obtain ⟨b3, b4⟩ := He.ba b
  have move : ∀ a : Addr, (K.lookup a).isSome = true → ∀ o, h.get? a = some o → base.get? a = some o := fun a ha o ho => by
    obtain ⟨u, hu⟩ := Option.isSome_iff_exists.mp ha
    have e := X a u hu
    rw [ho] at e
    cases e
    exact M.kin a _ hu
  refine ⟨?_, ?_, M.blt, ?_⟩
  · obtain ⟨mc, n, q⟩ := S.statics
    exact ⟨mc, n.at (move _ b1), q⟩
  · obtain ⟨mm, n, q⟩ := S.mods
    exact ⟨mm, n.at (move _ b2), q⟩
  · obtain ⟨m2, bm, ob, n, e, g, c, d⟩ := S.main
    have e1 : m2 "__builtins__" = some (.ref (Kd.bmOf K)) := PySem.W.mg_of X n (He.eqO_ok b3)
    rw [e] at e1
    cases e1
    exact ⟨mg, Kd.bmOf K, ob, M.glob, PySem.W.mg_of M.kin M.glob (He.eqO_ok b3), move _ b4 _ g, c, d⟩
theorem tx_of {w : World} {K : PySem.W.Frag} {h : Heap} {mg : Str → Option Value} (X : K.In h) (G : h.Ns mainGlobals mg) (S : h.NoSeer) (c : Kd.Told w K) : Tx w K mg := by
  refine ⟨c, fun x r e => ?_, ?_⟩
  · cases r with
    | none => exact PySem.W.mg_none_of X G e
    | some v => exact PySem.W.mg_of X G e
  · have z := c.2
    unfold Kd.ex at z
    simp only [Bool.and_eq_true] at z
    exact seer_of X S (by simp only [z])
/-! ### the facts by number -/
section
variable {w : World} {K : PySem.W.Frag} {mg : Str → Option Value}
theorem Tx.fact (T : Tx w K mg) (i : Nat) {f : He.Fa} (h : Kd.fa[i]? = some f := by rfl) : f.ok K = true := He.SaysD.fact T.told.1.d i h
theorem Tx.glo (T : Tx w K mg) (i : Nat) {x : Str} (h : Kd.fa[i]? = some (.glo x) := by rfl) : mg x = some (.ref (He.ga K x)) := T.get _ _ (He.eqO_ok (T.fact i h))
theorem Tx.free (T : Tx w K mg) (i : Nat) {x : Str} (h : Kd.fa[i]? = some (.free x) := by rfl) : mg x = none := T.get _ _ (He.eqO_ok (T.fact i h))
theorem Tx.num (T : Tx w K mg) (i : Nat) {x : Str} {n : Int} (h : Kd.fa[i]? = some (.int x n) := by rfl) : ∃ t, mg x = some (.int n t) := by
  have c := T.fact i h
  unfold He.Fa.ok at c
  dsimp only at c
  split at c
  · rename_i e
    have q := of_decide_eq_true c
    subst q
    exact ⟨_, T.get _ _ e⟩
  · cases c
theorem Tx.def_ (T : Tx w K mg) (i : Nat) {d : He.DefD} (h : Kd.fn[i]? = some d := by rfl) : ∃ fd, FunD K d.name d.qual d.params d.body d.scope (d.dvs K) (d.kws K) (He.fAd K d.at_) fd := He.SaysD.def_ T.told.1.d i h
theorem Tx.more (T : Tx w K mg) : Kd.ex K = true := T.told.2
end
section
variable {w : World} {K : PySem.W.Frag} {mg : Str → Option Value}
theorem Tx.g_shared (T : Tx w K mg) : mg "shared" = some (.ref (He.ga K "shared")) := T.glo 0
theorem Tx.g_ratio (T : Tx w K mg) : mg "ratio" = some (.ref (He.ga K "ratio")) := T.glo 1
theorem Tx.g_plus (T : Tx w K mg) : mg "plus" = some (.ref (He.ga K "plus")) := T.glo 2
theorem Tx.g_opposite (T : Tx w K mg) : mg "opposite" = some (.ref (He.ga K "opposite")) := T.glo 3
theorem Tx.g_minus (T : Tx w K mg) : mg "minus" = some (.ref (He.ga K "minus")) := T.glo 4
theorem Tx.g_times (T : Tx w K mg) : mg "times" = some (.ref (He.ga K "times")) := T.glo 5
theorem Tx.g_side_of (T : Tx w K mg) : mg "side_of" = some (.ref (He.ga K "side_of")) := T.glo 6
theorem Tx.g_root (T : Tx w K mg) : mg "root" = some (.ref (He.ga K "root")) := T.glo 7
theorem Tx.g_added (T : Tx w K mg) : mg "added" = some (.ref (He.ga K "added")) := T.glo 8
theorem Tx.g_lessened (T : Tx w K mg) : mg "lessened" = some (.ref (He.ga K "lessened")) := T.glo 9
theorem Tx.g_scaled (T : Tx w K mg) : mg "scaled" = some (.ref (He.ga K "scaled")) := T.glo 10
theorem Tx.g_dot (T : Tx w K mg) : mg "dot" = some (.ref (He.ga K "dot")) := T.glo 11
theorem Tx.g_heading_of (T : Tx w K mg) : mg "heading_of" = some (.ref (He.ga K "heading_of")) := T.glo 12
theorem Tx.g_turned (T : Tx w K mg) : mg "turned" = some (.ref (He.ga K "turned")) := T.glo 13
theorem Tx.g_distance (T : Tx w K mg) : mg "distance" = some (.ref (He.ga K "distance")) := T.glo 14
theorem Tx.g_by_one (T : Tx w K mg) : mg "by_one" = some (.ref (He.ga K "by_one")) := T.glo 15
theorem Tx.g_direction_by_one (T : Tx w K mg) : mg "direction_by_one" = some (.ref (He.ga K "direction_by_one")) := T.glo 16
theorem Tx.g_back_by_one (T : Tx w K mg) : mg "back_by_one" = some (.ref (He.ga K "back_by_one")) := T.glo 17
theorem Tx.g_led_place (T : Tx w K mg) : mg "led_place" = some (.ref (He.ga K "led_place")) := T.glo 18
theorem Tx.g_led_direction (T : Tx w K mg) : mg "led_direction" = some (.ref (He.ga K "led_direction")) := T.glo 19
theorem Tx.g_led_from (T : Tx w K mg) : mg "led_from" = some (.ref (He.ga K "led_from")) := T.glo 20
theorem Tx.g_is_about (T : Tx w K mg) : mg "is_about" = some (.ref (He.ga K "is_about")) := T.glo 21
theorem Tx.g_whole_in (T : Tx w K mg) : mg "whole_in" = some (.ref (He.ga K "whole_in")) := T.glo 22
theorem Tx.g_number_in (T : Tx w K mg) : mg "number_in" = some (.ref (He.ga K "number_in")) := T.glo 23
theorem Tx.g_coordinate_in (T : Tx w K mg) : mg "coordinate_in" = some (.ref (He.ga K "coordinate_in")) := T.glo 24
theorem Tx.g_length_in (T : Tx w K mg) : mg "length_in" = some (.ref (He.ga K "length_in")) := T.glo 25
theorem Tx.g_turn_in (T : Tx w K mg) : mg "turn_in" = some (.ref (He.ga K "turn_in")) := T.glo 26
theorem Tx.g_pace_in (T : Tx w K mg) : mg "pace_in" = some (.ref (He.ga K "pace_in")) := T.glo 27
theorem Tx.g_times_in (T : Tx w K mg) : mg "times_in" = some (.ref (He.ga K "times_in")) := T.glo 28
theorem Tx.g_name_in (T : Tx w K mg) : mg "name_in" = some (.ref (He.ga K "name_in")) := T.glo 29
theorem Tx.g_read_row (T : Tx w K mg) : mg "read_row" = some (.ref (He.ga K "read_row")) := T.glo 30
theorem Tx.g_is_fitting (T : Tx w K mg) : mg "is_fitting" = some (.ref (He.ga K "is_fitting")) := T.glo 31
theorem Tx.g_rows_of (T : Tx w K mg) : mg "rows_of" = some (.ref (He.ga K "rows_of")) := T.glo 32
theorem Tx.g_read_program (T : Tx w K mg) : mg "read_program" = some (.ref (He.ga K "read_program")) := T.glo 33
theorem Tx.g_spans_of (T : Tx w K mg) : mg "spans_of" = some (.ref (He.ga K "spans_of")) := T.glo 34
theorem Tx.g_is_far (T : Tx w K mg) : mg "is_far" = some (.ref (He.ga K "is_far")) := T.glo 35
theorem Tx.g_do_hop (T : Tx w K mg) : mg "do_hop" = some (.ref (He.ga K "do_hop")) := T.glo 36
theorem Tx.g_do_cut (T : Tx w K mg) : mg "do_cut" = some (.ref (He.ga K "do_cut")) := T.glo 37
theorem Tx.g_do_run (T : Tx w K mg) : mg "do_run" = some (.ref (He.ga K "do_run")) := T.glo 38
theorem Tx.g_do_arc (T : Tx w K mg) : mg "do_arc" = some (.ref (He.ga K "do_arc")) := T.glo 39
theorem Tx.g_do_mode (T : Tx w K mg) : mg "do_mode" = some (.ref (He.ga K "do_mode")) := T.glo 40
theorem Tx.g_do_pace (T : Tx w K mg) : mg "do_pace" = some (.ref (He.ga K "do_pace")) := T.glo 41
theorem Tx.g_do_side (T : Tx w K mg) : mg "do_side" = some (.ref (He.ga K "do_side")) := T.glo 42
theorem Tx.g_do_frame (T : Tx w K mg) : mg "do_frame" = some (.ref (He.ga K "do_frame")) := T.glo 43
theorem Tx.g_do_back (T : Tx w K mg) : mg "do_back" = some (.ref (He.ga K "do_back")) := T.glo 44
theorem Tx.g_do_call (T : Tx w K mg) : mg "do_call" = some (.ref (He.ga K "do_call")) := T.glo 45
theorem Tx.g_road_by (T : Tx w K mg) : mg "road_by" = some (.ref (He.ga K "road_by")) := T.glo 46
theorem Tx.g_road_of (T : Tx w K mg) : mg "road_of" = some (.ref (He.ga K "road_of")) := T.glo 47
theorem Tx.g__law_bag (T : Tx w K mg) : mg "_law_bag" = some (.ref (He.ga K "_law_bag")) := T.glo 48
theorem Tx.g__law_take (T : Tx w K mg) : mg "_law_take" = some (.ref (He.ga K "_law_take")) := T.glo 49
theorem Tx.g__law_shared (T : Tx w K mg) : mg "_law_shared" = some (.ref (He.ga K "_law_shared")) := T.glo 50
theorem Tx.g__law_low (T : Tx w K mg) : mg "_law_low" = some (.ref (He.ga K "_law_low")) := T.glo 51
theorem Tx.g__law_plus (T : Tx w K mg) : mg "_law_plus" = some (.ref (He.ga K "_law_plus")) := T.glo 52
theorem Tx.g__law_times (T : Tx w K mg) : mg "_law_times" = some (.ref (He.ga K "_law_times")) := T.glo 53
theorem Tx.g__law_minus (T : Tx w K mg) : mg "_law_minus" = some (.ref (He.ga K "_law_minus")) := T.glo 54
theorem Tx.g__law_added (T : Tx w K mg) : mg "_law_added" = some (.ref (He.ga K "_law_added")) := T.glo 55
theorem Tx.g__law_lessened (T : Tx w K mg) : mg "_law_lessened" = some (.ref (He.ga K "_law_lessened")) := T.glo 56
theorem Tx.g__law_turned (T : Tx w K mg) : mg "_law_turned" = some (.ref (He.ga K "_law_turned")) := T.glo 57
theorem Tx.g__law_scaled (T : Tx w K mg) : mg "_law_scaled" = some (.ref (He.ga K "_law_scaled")) := T.glo 58
theorem Tx.g__law_heading (T : Tx w K mg) : mg "_law_heading" = some (.ref (He.ga K "_law_heading")) := T.glo 59
theorem Tx.g__law_both (T : Tx w K mg) : mg "_law_both" = some (.ref (He.ga K "_law_both")) := T.glo 60
theorem Tx.g__law_word (T : Tx w K mg) : mg "_law_word" = some (.ref (He.ga K "_law_word")) := T.glo 61
theorem Tx.g__law_text (T : Tx w K mg) : mg "_law_text" = some (.ref (He.ga K "_law_text")) := T.glo 62
theorem Tx.g__law_frame (T : Tx w K mg) : mg "_law_frame" = some (.ref (He.ga K "_law_frame")) := T.glo 63
theorem Tx.g__law_by (T : Tx w K mg) : mg "_law_by" = some (.ref (He.ga K "_law_by")) := T.glo 64
theorem Tx.g__law_led (T : Tx w K mg) : mg "_law_led" = some (.ref (He.ga K "_law_led")) := T.glo 65
theorem Tx.g__law_back (T : Tx w K mg) : mg "_law_back" = some (.ref (He.ga K "_law_back")) := T.glo 66
theorem Tx.g__law_about (T : Tx w K mg) : mg "_law_about" = some (.ref (He.ga K "_law_about")) := T.glo 67
theorem Tx.g__law_refused (T : Tx w K mg) : mg "_law_refused" = some (.ref (He.ga K "_law_refused")) := T.glo 68
theorem Tx.g__law_row (T : Tx w K mg) : mg "_law_row" = some (.ref (He.ga K "_law_row")) := T.glo 69
theorem Tx.g__law_calm (T : Tx w K mg) : mg "_law_calm" = some (.ref (He.ga K "_law_calm")) := T.glo 70
theorem Tx.g__law_names (T : Tx w K mg) : mg "_law_names" = some (.ref (He.ga K "_law_names")) := T.glo 71
theorem Tx.g__law_program (T : Tx w K mg) : mg "_law_program" = some (.ref (He.ga K "_law_program")) := T.glo 72
theorem Tx.g__law_is_outside (T : Tx w K mg) : mg "_law_is_outside" = some (.ref (He.ga K "_law_is_outside")) := T.glo 73
theorem Tx.g__law_span (T : Tx w K mg) : mg "_law_span" = some (.ref (He.ga K "_law_span")) := T.glo 74
theorem Tx.g__law_is_far (T : Tx w K mg) : mg "_law_is_far" = some (.ref (He.ga K "_law_is_far")) := T.glo 75
theorem Tx.g__law_spot (T : Tx w K mg) : mg "_law_spot" = some (.ref (He.ga K "_law_spot")) := T.glo 76
theorem Tx.g__law_made (T : Tx w K mg) : mg "_law_made" = some (.ref (He.ga K "_law_made")) := T.glo 77
theorem Tx.g__law_keep (T : Tx w K mg) : mg "_law_keep" = some (.ref (He.ga K "_law_keep")) := T.glo 78
theorem Tx.g__law_next (T : Tx w K mg) : mg "_law_next" = some (.ref (He.ga K "_law_next")) := T.glo 79
theorem Tx.g__law_gone (T : Tx w K mg) : mg "_law_gone" = some (.ref (He.ga K "_law_gone")) := T.glo 80
theorem Tx.g_law (T : Tx w K mg) : mg "law" = some (.ref (He.ga K "law")) := T.glo 81
theorem Tx.g_MillError (T : Tx w K mg) : mg "MillError" = some (.ref (He.ga K "MillError")) := T.glo 82
theorem Tx.g_NoHeading (T : Tx w K mg) : mg "NoHeading" = some (.ref (He.ga K "NoHeading")) := T.glo 83
theorem Tx.g_NoText (T : Tx w K mg) : mg "NoText" = some (.ref (He.ga K "NoText")) := T.glo 84
theorem Tx.g_Uneven (T : Tx w K mg) : mg "Uneven" = some (.ref (He.ga K "Uneven")) := T.glo 85
theorem Tx.g_NoFrame (T : Tx w K mg) : mg "NoFrame" = some (.ref (He.ga K "NoFrame")) := T.glo 86
theorem Tx.g_TooDeep (T : Tx w K mg) : mg "TooDeep" = some (.ref (He.ga K "TooDeep")) := T.glo 87
theorem Tx.g_TooMany (T : Tx w K mg) : mg "TooMany" = some (.ref (He.ga K "TooMany")) := T.glo 88
theorem Tx.g_NoState (T : Tx w K mg) : mg "NoState" = some (.ref (He.ga K "NoState")) := T.glo 89
theorem Tx.g_OverNought (T : Tx w K mg) : mg "OverNought" = some (.ref (He.ga K "OverNought")) := T.glo 90
theorem Tx.g_NoPiece (T : Tx w K mg) : mg "NoPiece" = some (.ref (He.ga K "NoPiece")) := T.glo 91
theorem Tx.g_Road (T : Tx w K mg) : mg "Road" = some (.ref (He.ga K "Road")) := T.glo 92
theorem Tx.g_Runner (T : Tx w K mg) : mg "Runner" = some (.ref (He.ga K "Runner")) := T.glo 93
theorem Tx.g_NOUGHT (T : Tx w K mg) : mg "NOUGHT" = some (.ref (He.ga K "NOUGHT")) := T.glo 94
theorem Tx.g_CORNER (T : Tx w K mg) : mg "CORNER" = some (.ref (He.ga K "CORNER")) := T.glo 95
theorem Tx.g_SHAPES (T : Tx w K mg) : mg "SHAPES" = some (.ref (He.ga K "SHAPES")) := T.glo 96
theorem Tx.g_STEP_WORDS (T : Tx w K mg) : mg "STEP_WORDS" = some (.ref (He.ga K "STEP_WORDS")) := T.glo 97
theorem Tx.g_READERS (T : Tx w K mg) : mg "READERS" = some (.ref (He.ga K "READERS")) := T.glo 98
theorem Tx.g_DEEDS (T : Tx w K mg) : mg "DEEDS" = some (.ref (He.ga K "DEEDS")) := T.glo 99
theorem Tx.n_MOST_FRAMES (T : Tx w K mg) : ∃ t, mg "MOST_FRAMES" = some (.int 8 t) := T.num 100
theorem Tx.n_MOST_ROWS (T : Tx w K mg) : ∃ t, mg "MOST_ROWS" = some (.int 80 t) := T.num 101
theorem Tx.n_MOST_FIGURES (T : Tx w K mg) : ∃ t, mg "MOST_FIGURES" = some (.int 4 t) := T.num 102
theorem Tx.n_MOST_SIGNS (T : Tx w K mg) : ∃ t, mg "MOST_SIGNS" = some (.int 8 t) := T.num 103
theorem Tx.n_MOST_TOP (T : Tx w K mg) : ∃ t, mg "MOST_TOP" = some (.int 9999 t) := T.num 104
theorem Tx.n_MOST_BOTTOM (T : Tx w K mg) : ∃ t, mg "MOST_BOTTOM" = some (.int 999 t) := T.num 105
theorem Tx.n_MOST_TURN (T : Tx w K mg) : ∃ t, mg "MOST_TURN" = some (.int 99 t) := T.num 106
theorem Tx.n_MOST_PACE (T : Tx w K mg) : ∃ t, mg "MOST_PACE" = some (.int 9 t) := T.num 107
theorem Tx.n_MOST_TIMES (T : Tx w K mg) : ∃ t, mg "MOST_TIMES" = some (.int 99 t) := T.num 108
theorem Tx.n_MOST_DONE (T : Tx w K mg) : ∃ t, mg "MOST_DONE" = some (.int 2000 t) := T.num 109
theorem Tx.n_MOST_STEPS (T : Tx w K mg) : ∃ t, mg "MOST_STEPS" = some (.int 100 t) := T.num 110
theorem Tx.n_MOST_CALLS (T : Tx w K mg) : ∃ t, mg "MOST_CALLS" = some (.int 8 t) := T.num 111
theorem Tx.b_abs (T : Tx w K mg) : mg "abs" = none := T.free 112
theorem Tx.b_isinstance (T : Tx w K mg) : mg "isinstance" = none := T.free 113
theorem Tx.b_int (T : Tx w K mg) : mg "int" = none := T.free 114
theorem Tx.b_any (T : Tx w K mg) : mg "any" = none := T.free 115
theorem Tx.b_all (T : Tx w K mg) : mg "all" = none := T.free 116
theorem Tx.b_len (T : Tx w K mg) : mg "len" = none := T.free 117
theorem Tx.b_range (T : Tx w K mg) : mg "range" = none := T.free 118
theorem Tx.b_enumerate (T : Tx w K mg) : mg "enumerate" = none := T.free 119
theorem Tx.b_zip (T : Tx w K mg) : mg "zip" = none := T.free 120
theorem Tx.b_tuple (T : Tx w K mg) : mg "tuple" = none := T.free 121
theorem Tx.b_list (T : Tx w K mg) : mg "list" = none := T.free 122
theorem Tx.b_str (T : Tx w K mg) : mg "str" = none := T.free 123
theorem Tx.b_min (T : Tx w K mg) : mg "min" = none := T.free 124
theorem Tx.b_max (T : Tx w K mg) : mg "max" = none := T.free 125
theorem Tx.b_sum (T : Tx w K mg) : mg "sum" = none := T.free 126
theorem Tx.b_ValueError (T : Tx w K mg) : mg "ValueError" = none := T.free 127
theorem Tx.b_LookupError (T : Tx w K mg) : mg "LookupError" = none := T.free 128
theorem Tx.c_Road (T : Tx w K mg) : Cls K (He.ga K "Road") := He.cls_ok (T.fact 129 (f := .cls "Road") rfl)
theorem Tx.k_Road (T : Tx w K mg) : Mk K (He.ga K "Road") (He.ma K (He.ga K "Road") "__init__") := He.mkr_ok (T.fact 130 (f := .mkr "Road") rfl)
theorem Tx.a_Road_held (T : Tx w K mg) : NoAttr K (He.ga K "Road") "held" := He.noat_ok (T.fact 131 (f := .noat "Road" "held") rfl)
theorem Tx.m_Road_entries (T : Tx w K mg) : Meth K (He.ga K "Road") "entries" (He.ma K (He.ga K "Road") "entries") := He.meth_ok (T.fact 132 (f := .meth "Road" "entries") rfl)
theorem Tx.m_Road_len (T : Tx w K mg) : Meth K (He.ga K "Road") "__len__" (He.ma K (He.ga K "Road") "__len__") := He.meth_ok (T.fact 133 (f := .meth "Road" "__len__") rfl)
theorem Tx.m_Road_eq (T : Tx w K mg) : Meth K (He.ga K "Road") "__eq__" (He.ma K (He.ga K "Road") "__eq__") := He.meth_ok (T.fact 134 (f := .meth "Road" "__eq__") rfl)
theorem Tx.m_Road_repr (T : Tx w K mg) : Meth K (He.ga K "Road") "__repr__" (He.ma K (He.ga K "Road") "__repr__") := He.meth_ok (T.fact 135 (f := .meth "Road" "__repr__") rfl)
theorem Tx.c_Runner (T : Tx w K mg) : Cls K (He.ga K "Runner") := He.cls_ok (T.fact 136 (f := .cls "Runner") rfl)
theorem Tx.k_Runner (T : Tx w K mg) : Mk K (He.ga K "Runner") (He.ma K (He.ga K "Runner") "__init__") := He.mkr_ok (T.fact 137 (f := .mkr "Runner") rfl)
theorem Tx.a_Runner_rows (T : Tx w K mg) : NoAttr K (He.ga K "Runner") "rows" := He.noat_ok (T.fact 138 (f := .noat "Runner" "rows") rfl)
theorem Tx.a_Runner_spans (T : Tx w K mg) : NoAttr K (He.ga K "Runner") "spans" := He.noat_ok (T.fact 139 (f := .noat "Runner" "spans") rfl)
theorem Tx.a_Runner_trail (T : Tx w K mg) : NoAttr K (He.ga K "Runner") "trail" := He.noat_ok (T.fact 140 (f := .noat "Runner" "trail") rfl)
theorem Tx.a_Runner_place (T : Tx w K mg) : NoAttr K (He.ga K "Runner") "place" := He.noat_ok (T.fact 141 (f := .noat "Runner" "place") rfl)
theorem Tx.a_Runner_mode (T : Tx w K mg) : NoAttr K (He.ga K "Runner") "mode" := He.noat_ok (T.fact 142 (f := .noat "Runner" "mode") rfl)
theorem Tx.a_Runner_pace (T : Tx w K mg) : NoAttr K (He.ga K "Runner") "pace" := He.noat_ok (T.fact 143 (f := .noat "Runner" "pace") rfl)
theorem Tx.a_Runner_side (T : Tx w K mg) : NoAttr K (He.ga K "Runner") "side" := He.noat_ok (T.fact 144 (f := .noat "Runner" "side") rfl)
theorem Tx.a_Runner_frames (T : Tx w K mg) : NoAttr K (He.ga K "Runner") "frames" := He.noat_ok (T.fact 145 (f := .noat "Runner" "frames") rfl)
theorem Tx.a_Runner_many (T : Tx w K mg) : NoAttr K (He.ga K "Runner") "many" := He.noat_ok (T.fact 146 (f := .noat "Runner" "many") rfl)
theorem Tx.a_Runner_made (T : Tx w K mg) : NoAttr K (He.ga K "Runner") "made" := He.noat_ok (T.fact 147 (f := .noat "Runner" "made") rfl)
theorem Tx.m_Runner_row_at (T : Tx w K mg) : Meth K (He.ga K "Runner") "row_at" (He.ma K (He.ga K "Runner") "row_at") := He.meth_ok (T.fact 148 (f := .meth "Runner" "row_at") rfl)
theorem Tx.m_Runner_all_frames (T : Tx w K mg) : Meth K (He.ga K "Runner") "all_frames" (He.ma K (He.ga K "Runner") "all_frames") := He.meth_ok (T.fact 149 (f := .meth "Runner" "all_frames") rfl)
theorem Tx.m_Runner_is_at_end (T : Tx w K mg) : Meth K (He.ga K "Runner") "is_at_end" (He.ma K (He.ga K "Runner") "is_at_end") := He.meth_ok (T.fact 150 (f := .meth "Runner" "is_at_end") rfl)
theorem Tx.m_Runner_enter (T : Tx w K mg) : Meth K (He.ga K "Runner") "enter" (He.ma K (He.ga K "Runner") "enter") := He.meth_ok (T.fact 151 (f := .meth "Runner" "enter") rfl)
theorem Tx.m_Runner_leave (T : Tx w K mg) : Meth K (He.ga K "Runner") "leave" (He.ma K (He.ga K "Runner") "leave") := He.meth_ok (T.fact 152 (f := .meth "Runner" "leave") rfl)
theorem Tx.m_Runner_settle (T : Tx w K mg) : Meth K (He.ga K "Runner") "settle" (He.ma K (He.ga K "Runner") "settle") := He.meth_ok (T.fact 153 (f := .meth "Runner" "settle") rfl)
theorem Tx.m_Runner_do_row (T : Tx w K mg) : Meth K (He.ga K "Runner") "do_row" (He.ma K (He.ga K "Runner") "do_row") := He.meth_ok (T.fact 154 (f := .meth "Runner" "do_row") rfl)
theorem Tx.m_Runner_go_on (T : Tx w K mg) : Meth K (He.ga K "Runner") "go_on" (He.ma K (He.ga K "Runner") "go_on") := He.meth_ok (T.fact 155 (f := .meth "Runner" "go_on") rfl)
theorem Tx.m_Runner_make (T : Tx w K mg) : Meth K (He.ga K "Runner") "make" (He.ma K (He.ga K "Runner") "make") := He.meth_ok (T.fact 156 (f := .meth "Runner" "make") rfl)
theorem Tx.m_Runner_spot (T : Tx w K mg) : Meth K (He.ga K "Runner") "spot" (He.ma K (He.ga K "Runner") "spot") := He.meth_ok (T.fact 157 (f := .meth "Runner" "spot") rfl)
theorem Tx.e_Uneven_MillError (T : Tx w K mg) : PySem.W.exmOne K (.ref (He.ga K "Uneven")) (.ref (He.ga K "MillError")) = some true := He.exm_ok (T.fact 158 (f := .exm "Uneven" "MillError" true) rfl)
theorem Tx.e_Uneven_Uneven (T : Tx w K mg) : PySem.W.exmOne K (.ref (He.ga K "Uneven")) (.ref (He.ga K "Uneven")) = some true := He.exm_ok (T.fact 159 (f := .exm "Uneven" "Uneven" true) rfl)
theorem Tx.e_NoFrame_MillError (T : Tx w K mg) : PySem.W.exmOne K (.ref (He.ga K "NoFrame")) (.ref (He.ga K "MillError")) = some true := He.exm_ok (T.fact 160 (f := .exm "NoFrame" "MillError" true) rfl)
theorem Tx.e_NoFrame_NoFrame (T : Tx w K mg) : PySem.W.exmOne K (.ref (He.ga K "NoFrame")) (.ref (He.ga K "NoFrame")) = some true := He.exm_ok (T.fact 161 (f := .exm "NoFrame" "NoFrame" true) rfl)
theorem Tx.e_TooDeep_MillError (T : Tx w K mg) : PySem.W.exmOne K (.ref (He.ga K "TooDeep")) (.ref (He.ga K "MillError")) = some true := He.exm_ok (T.fact 162 (f := .exm "TooDeep" "MillError" true) rfl)
theorem Tx.e_TooDeep_TooDeep (T : Tx w K mg) : PySem.W.exmOne K (.ref (He.ga K "TooDeep")) (.ref (He.ga K "TooDeep")) = some true := He.exm_ok (T.fact 163 (f := .exm "TooDeep" "TooDeep" true) rfl)
theorem Tx.e_TooMany_MillError (T : Tx w K mg) : PySem.W.exmOne K (.ref (He.ga K "TooMany")) (.ref (He.ga K "MillError")) = some true := He.exm_ok (T.fact 164 (f := .exm "TooMany" "MillError" true) rfl)
theorem Tx.e_TooMany_TooMany (T : Tx w K mg) : PySem.W.exmOne K (.ref (He.ga K "TooMany")) (.ref (He.ga K "TooMany")) = some true := He.exm_ok (T.fact 165 (f := .exm "TooMany" "TooMany" true) rfl)
theorem Tx.f_NoText_init (T : Tx w K mg) : ∃ fd, FunD K "__init__" "NoText.__init__" (defArgs Kd.s_NoText_init) (defBody Kd.s_NoText_init) (defScope Kd.s_NoText_init) [] [] (He.ma K (He.ga K "NoText") "__init__") fd := T.def_ 0 (d := Kd.d_NoText_init) rfl
theorem Tx.f_Uneven_init (T : Tx w K mg) : ∃ fd, FunD K "__init__" "Uneven.__init__" (defArgs Kd.s_Uneven_init) (defBody Kd.s_Uneven_init) (defScope Kd.s_Uneven_init) [] [] (He.ma K (He.ga K "Uneven") "__init__") fd := T.def_ 1 (d := Kd.d_Uneven_init) rfl
theorem Tx.f_NoFrame_init (T : Tx w K mg) : ∃ fd, FunD K "__init__" "NoFrame.__init__" (defArgs Kd.s_NoFrame_init) (defBody Kd.s_NoFrame_init) (defScope Kd.s_NoFrame_init) [] [] (He.ma K (He.ga K "NoFrame") "__init__") fd := T.def_ 2 (d := Kd.d_NoFrame_init) rfl
theorem Tx.f_TooDeep_init (T : Tx w K mg) : ∃ fd, FunD K "__init__" "TooDeep.__init__" (defArgs Kd.s_TooDeep_init) (defBody Kd.s_TooDeep_init) (defScope Kd.s_TooDeep_init) [] [] (He.ma K (He.ga K "TooDeep") "__init__") fd := T.def_ 3 (d := Kd.d_TooDeep_init) rfl
theorem Tx.f_TooMany_init (T : Tx w K mg) : ∃ fd, FunD K "__init__" "TooMany.__init__" (defArgs Kd.s_TooMany_init) (defBody Kd.s_TooMany_init) (defScope Kd.s_TooMany_init) [] [] (He.ma K (He.ga K "TooMany") "__init__") fd := T.def_ 4 (d := Kd.d_TooMany_init) rfl
theorem Tx.f_NoPiece_init (T : Tx w K mg) : ∃ fd, FunD K "__init__" "NoPiece.__init__" (defArgs Kd.s_NoPiece_init) (defBody Kd.s_NoPiece_init) (defScope Kd.s_NoPiece_init) [] [] (He.ma K (He.ga K "NoPiece") "__init__") fd := T.def_ 5 (d := Kd.d_NoPiece_init) rfl
theorem Tx.f_shared (T : Tx w K mg) : ∃ fd, FunD K "shared" "shared" (defArgs Kd.s_shared) (defBody Kd.s_shared) (defScope Kd.s_shared) [] [] (He.ga K "shared") fd := T.def_ 6 (d := Kd.d_shared) rfl
theorem Tx.f_ratio (T : Tx w K mg) : ∃ fd, FunD K "ratio" "ratio" (defArgs Kd.s_ratio) (defBody Kd.s_ratio) (defScope Kd.s_ratio) [V.int 1] [] (He.ga K "ratio") fd := T.def_ 7 (d := Kd.d_ratio) rfl
theorem Tx.f_plus (T : Tx w K mg) : ∃ fd, FunD K "plus" "plus" (defArgs Kd.s_plus) (defBody Kd.s_plus) (defScope Kd.s_plus) [] [] (He.ga K "plus") fd := T.def_ 8 (d := Kd.d_plus) rfl
theorem Tx.f_opposite (T : Tx w K mg) : ∃ fd, FunD K "opposite" "opposite" (defArgs Kd.s_opposite) (defBody Kd.s_opposite) (defScope Kd.s_opposite) [] [] (He.ga K "opposite") fd := T.def_ 9 (d := Kd.d_opposite) rfl
theorem Tx.f_minus (T : Tx w K mg) : ∃ fd, FunD K "minus" "minus" (defArgs Kd.s_minus) (defBody Kd.s_minus) (defScope Kd.s_minus) [] [] (He.ga K "minus") fd := T.def_ 10 (d := Kd.d_minus) rfl
theorem Tx.f_times (T : Tx w K mg) : ∃ fd, FunD K "times" "times" (defArgs Kd.s_times) (defBody Kd.s_times) (defScope Kd.s_times) [] [] (He.ga K "times") fd := T.def_ 11 (d := Kd.d_times) rfl
theorem Tx.f_side_of (T : Tx w K mg) : ∃ fd, FunD K "side_of" "side_of" (defArgs Kd.s_side_of) (defBody Kd.s_side_of) (defScope Kd.s_side_of) [] [] (He.ga K "side_of") fd := T.def_ 12 (d := Kd.d_side_of) rfl
theorem Tx.f_root (T : Tx w K mg) : ∃ fd, FunD K "root" "root" (defArgs Kd.s_root) (defBody Kd.s_root) (defScope Kd.s_root) [] [] (He.ga K "root") fd := T.def_ 13 (d := Kd.d_root) rfl
theorem Tx.f_added (T : Tx w K mg) : ∃ fd, FunD K "added" "added" (defArgs Kd.s_added) (defBody Kd.s_added) (defScope Kd.s_added) [] [] (He.ga K "added") fd := T.def_ 14 (d := Kd.d_added) rfl
theorem Tx.f_lessened (T : Tx w K mg) : ∃ fd, FunD K "lessened" "lessened" (defArgs Kd.s_lessened) (defBody Kd.s_lessened) (defScope Kd.s_lessened) [] [] (He.ga K "lessened") fd := T.def_ 15 (d := Kd.d_lessened) rfl
theorem Tx.f_scaled (T : Tx w K mg) : ∃ fd, FunD K "scaled" "scaled" (defArgs Kd.s_scaled) (defBody Kd.s_scaled) (defScope Kd.s_scaled) [] [] (He.ga K "scaled") fd := T.def_ 16 (d := Kd.d_scaled) rfl
theorem Tx.f_dot (T : Tx w K mg) : ∃ fd, FunD K "dot" "dot" (defArgs Kd.s_dot) (defBody Kd.s_dot) (defScope Kd.s_dot) [] [] (He.ga K "dot") fd := T.def_ 17 (d := Kd.d_dot) rfl
theorem Tx.f_heading_of (T : Tx w K mg) : ∃ fd, FunD K "heading_of" "heading_of" (defArgs Kd.s_heading_of) (defBody Kd.s_heading_of) (defScope Kd.s_heading_of) [] [] (He.ga K "heading_of") fd := T.def_ 18 (d := Kd.d_heading_of) rfl
theorem Tx.f_turned (T : Tx w K mg) : ∃ fd, FunD K "turned" "turned" (defArgs Kd.s_turned) (defBody Kd.s_turned) (defScope Kd.s_turned) [] [] (He.ga K "turned") fd := T.def_ 19 (d := Kd.d_turned) rfl
theorem Tx.f_distance (T : Tx w K mg) : ∃ fd, FunD K "distance" "distance" (defArgs Kd.s_distance) (defBody Kd.s_distance) (defScope Kd.s_distance) [] [] (He.ga K "distance") fd := T.def_ 20 (d := Kd.d_distance) rfl
theorem Tx.f_by_one (T : Tx w K mg) : ∃ fd, FunD K "by_one" "by_one" (defArgs Kd.s_by_one) (defBody Kd.s_by_one) (defScope Kd.s_by_one) [] [] (He.ga K "by_one") fd := T.def_ 21 (d := Kd.d_by_one) rfl
theorem Tx.f_direction_by_one (T : Tx w K mg) : ∃ fd, FunD K "direction_by_one" "direction_by_one" (defArgs Kd.s_direction_by_one) (defBody Kd.s_direction_by_one) (defScope Kd.s_direction_by_one) [] [] (He.ga K "direction_by_one") fd := T.def_ 22 (d := Kd.d_direction_by_one) rfl
theorem Tx.f_back_by_one (T : Tx w K mg) : ∃ fd, FunD K "back_by_one" "back_by_one" (defArgs Kd.s_back_by_one) (defBody Kd.s_back_by_one) (defScope Kd.s_back_by_one) [] [] (He.ga K "back_by_one") fd := T.def_ 23 (d := Kd.d_back_by_one) rfl
theorem Tx.f_led_place (T : Tx w K mg) : ∃ fd, FunD K "led_place" "led_place" (defArgs Kd.s_led_place) (defBody Kd.s_led_place) (defScope Kd.s_led_place) [] [] (He.ga K "led_place") fd := T.def_ 24 (d := Kd.d_led_place) rfl
theorem Tx.f_led_direction (T : Tx w K mg) : ∃ fd, FunD K "led_direction" "led_direction" (defArgs Kd.s_led_direction) (defBody Kd.s_led_direction) (defScope Kd.s_led_direction) [] [] (He.ga K "led_direction") fd := T.def_ 25 (d := Kd.d_led_direction) rfl
theorem Tx.f_led_from (T : Tx w K mg) : ∃ fd, FunD K "led_from" "led_from" (defArgs Kd.s_led_from) (defBody Kd.s_led_from) (defScope Kd.s_led_from) [] [] (He.ga K "led_from") fd := T.def_ 26 (d := Kd.d_led_from) rfl
theorem Tx.f_is_about (T : Tx w K mg) : ∃ fd, FunD K "is_about" "is_about" (defArgs Kd.s_is_about) (defBody Kd.s_is_about) (defScope Kd.s_is_about) [] [] (He.ga K "is_about") fd := T.def_ 27 (d := Kd.d_is_about) rfl
theorem Tx.f_whole_in (T : Tx w K mg) : ∃ fd, FunD K "whole_in" "whole_in" (defArgs Kd.s_whole_in) (defBody Kd.s_whole_in) (defScope Kd.s_whole_in) [] [] (He.ga K "whole_in") fd := T.def_ 28 (d := Kd.d_whole_in) rfl
theorem Tx.f_number_in (T : Tx w K mg) : ∃ fd, FunD K "number_in" "number_in" (defArgs Kd.s_number_in) (defBody Kd.s_number_in) (defScope Kd.s_number_in) [] [] (He.ga K "number_in") fd := T.def_ 29 (d := Kd.d_number_in) rfl
theorem Tx.f_coordinate_in (T : Tx w K mg) : ∃ fd, FunD K "coordinate_in" "coordinate_in" (defArgs Kd.s_coordinate_in) (defBody Kd.s_coordinate_in) (defScope Kd.s_coordinate_in) [] [] (He.ga K "coordinate_in") fd := T.def_ 30 (d := Kd.d_coordinate_in) rfl
theorem Tx.f_length_in (T : Tx w K mg) : ∃ fd, FunD K "length_in" "length_in" (defArgs Kd.s_length_in) (defBody Kd.s_length_in) (defScope Kd.s_length_in) [] [] (He.ga K "length_in") fd := T.def_ 31 (d := Kd.d_length_in) rfl
theorem Tx.f_turn_in (T : Tx w K mg) : ∃ fd, FunD K "turn_in" "turn_in" (defArgs Kd.s_turn_in) (defBody Kd.s_turn_in) (defScope Kd.s_turn_in) [] [] (He.ga K "turn_in") fd := T.def_ 32 (d := Kd.d_turn_in) rfl
theorem Tx.f_pace_in (T : Tx w K mg) : ∃ fd, FunD K "pace_in" "pace_in" (defArgs Kd.s_pace_in) (defBody Kd.s_pace_in) (defScope Kd.s_pace_in) [] [] (He.ga K "pace_in") fd := T.def_ 33 (d := Kd.d_pace_in) rfl
theorem Tx.f_times_in (T : Tx w K mg) : ∃ fd, FunD K "times_in" "times_in" (defArgs Kd.s_times_in) (defBody Kd.s_times_in) (defScope Kd.s_times_in) [] [] (He.ga K "times_in") fd := T.def_ 34 (d := Kd.d_times_in) rfl
theorem Tx.f_name_in (T : Tx w K mg) : ∃ fd, FunD K "name_in" "name_in" (defArgs Kd.s_name_in) (defBody Kd.s_name_in) (defScope Kd.s_name_in) [] [] (He.ga K "name_in") fd := T.def_ 35 (d := Kd.d_name_in) rfl
theorem Tx.f_read_row (T : Tx w K mg) : ∃ fd, FunD K "read_row" "read_row" (defArgs Kd.s_read_row) (defBody Kd.s_read_row) (defScope Kd.s_read_row) [] [] (He.ga K "read_row") fd := T.def_ 36 (d := Kd.d_read_row) rfl
theorem Tx.f_is_fitting (T : Tx w K mg) : ∃ fd, FunD K "is_fitting" "is_fitting" (defArgs Kd.s_is_fitting) (defBody Kd.s_is_fitting) (defScope Kd.s_is_fitting) [] [] (He.ga K "is_fitting") fd := T.def_ 37 (d := Kd.d_is_fitting) rfl
theorem Tx.f_rows_of (T : Tx w K mg) : ∃ fd, FunD K "rows_of" "rows_of" (defArgs Kd.s_rows_of) (defBody Kd.s_rows_of) (defScope Kd.s_rows_of) [] [] (He.ga K "rows_of") fd := T.def_ 38 (d := Kd.d_rows_of) rfl
theorem Tx.f_read_program (T : Tx w K mg) : ∃ fd, FunD K "read_program" "read_program" (defArgs Kd.s_read_program) (defBody Kd.s_read_program) (defScope Kd.s_read_program) [] [] (He.ga K "read_program") fd := T.def_ 39 (d := Kd.d_read_program) rfl
theorem Tx.f_spans_of (T : Tx w K mg) : ∃ fd, FunD K "spans_of" "spans_of" (defArgs Kd.s_spans_of) (defBody Kd.s_spans_of) (defScope Kd.s_spans_of) [] [] (He.ga K "spans_of") fd := T.def_ 40 (d := Kd.d_spans_of) rfl
theorem Tx.f_is_far (T : Tx w K mg) : ∃ fd, FunD K "is_far" "is_far" (defArgs Kd.s_is_far) (defBody Kd.s_is_far) (defScope Kd.s_is_far) [] [] (He.ga K "is_far") fd := T.def_ 41 (d := Kd.d_is_far) rfl
theorem Tx.f_Road_init (T : Tx w K mg) : ∃ fd, FunD K "__init__" "Road.__init__" (defArgs Kd.s_Road_init) (defBody Kd.s_Road_init) (defScope Kd.s_Road_init) [] [] (He.ma K (He.ga K "Road") "__init__") fd := T.def_ 42 (d := Kd.d_Road_init) rfl
theorem Tx.f_Road_entries (T : Tx w K mg) : ∃ fd, FunD K "entries" "Road.entries" (defArgs Kd.s_Road_entries) (defBody Kd.s_Road_entries) (defScope Kd.s_Road_entries) [] [] (He.ma K (He.ga K "Road") "entries") fd := T.def_ 43 (d := Kd.d_Road_entries) rfl
theorem Tx.f_Road_len (T : Tx w K mg) : ∃ fd, FunD K "__len__" "Road.__len__" (defArgs Kd.s_Road_len) (defBody Kd.s_Road_len) (defScope Kd.s_Road_len) [] [] (He.ma K (He.ga K "Road") "__len__") fd := T.def_ 44 (d := Kd.d_Road_len) rfl
theorem Tx.f_Road_eq (T : Tx w K mg) : ∃ fd, FunD K "__eq__" "Road.__eq__" (defArgs Kd.s_Road_eq) (defBody Kd.s_Road_eq) (defScope Kd.s_Road_eq) [] [] (He.ma K (He.ga K "Road") "__eq__") fd := T.def_ 45 (d := Kd.d_Road_eq) rfl
theorem Tx.f_Road_repr (T : Tx w K mg) : ∃ fd, FunD K "__repr__" "Road.__repr__" (defArgs Kd.s_Road_repr) (defBody Kd.s_Road_repr) (defScope Kd.s_Road_repr) [] [] (He.ma K (He.ga K "Road") "__repr__") fd := T.def_ 46 (d := Kd.d_Road_repr) rfl
theorem Tx.f_Runner_init (T : Tx w K mg) : ∃ fd, FunD K "__init__" "Runner.__init__" (defArgs Kd.s_Runner_init) (defBody Kd.s_Runner_init) (defScope Kd.s_Runner_init) [] [] (He.ma K (He.ga K "Runner") "__init__") fd := T.def_ 47 (d := Kd.d_Runner_init) rfl
theorem Tx.f_Runner_row_at (T : Tx w K mg) : ∃ fd, FunD K "row_at" "Runner.row_at" (defArgs Kd.s_Runner_row_at) (defBody Kd.s_Runner_row_at) (defScope Kd.s_Runner_row_at) [] [] (He.ma K (He.ga K "Runner") "row_at") fd := T.def_ 48 (d := Kd.d_Runner_row_at) rfl
theorem Tx.f_Runner_all_frames (T : Tx w K mg) : ∃ fd, FunD K "all_frames" "Runner.all_frames" (defArgs Kd.s_Runner_all_frames) (defBody Kd.s_Runner_all_frames) (defScope Kd.s_Runner_all_frames) [] [] (He.ma K (He.ga K "Runner") "all_frames") fd := T.def_ 49 (d := Kd.d_Runner_all_frames) rfl
theorem Tx.f_Runner_is_at_end (T : Tx w K mg) : ∃ fd, FunD K "is_at_end" "Runner.is_at_end" (defArgs Kd.s_Runner_is_at_end) (defBody Kd.s_Runner_is_at_end) (defScope Kd.s_Runner_is_at_end) [] [] (He.ma K (He.ga K "Runner") "is_at_end") fd := T.def_ 50 (d := Kd.d_Runner_is_at_end) rfl
theorem Tx.f_Runner_enter (T : Tx w K mg) : ∃ fd, FunD K "enter" "Runner.enter" (defArgs Kd.s_Runner_enter) (defBody Kd.s_Runner_enter) (defScope Kd.s_Runner_enter) [] [] (He.ma K (He.ga K "Runner") "enter") fd := T.def_ 51 (d := Kd.d_Runner_enter) rfl
theorem Tx.f_Runner_leave (T : Tx w K mg) : ∃ fd, FunD K "leave" "Runner.leave" (defArgs Kd.s_Runner_leave) (defBody Kd.s_Runner_leave) (defScope Kd.s_Runner_leave) [] [] (He.ma K (He.ga K "Runner") "leave") fd := T.def_ 52 (d := Kd.d_Runner_leave) rfl
theorem Tx.f_Runner_settle (T : Tx w K mg) : ∃ fd, FunD K "settle" "Runner.settle" (defArgs Kd.s_Runner_settle) (defBody Kd.s_Runner_settle) (defScope Kd.s_Runner_settle) [] [] (He.ma K (He.ga K "Runner") "settle") fd := T.def_ 53 (d := Kd.d_Runner_settle) rfl
theorem Tx.f_Runner_do_row (T : Tx w K mg) : ∃ fd, FunD K "do_row" "Runner.do_row" (defArgs Kd.s_Runner_do_row) (defBody Kd.s_Runner_do_row) (defScope Kd.s_Runner_do_row) [] [] (He.ma K (He.ga K "Runner") "do_row") fd := T.def_ 54 (d := Kd.d_Runner_do_row) rfl
theorem Tx.f_Runner_go_on (T : Tx w K mg) : ∃ fd, FunD K "go_on" "Runner.go_on" (defArgs Kd.s_Runner_go_on) (defBody Kd.s_Runner_go_on) (defScope Kd.s_Runner_go_on) [] [] (He.ma K (He.ga K "Runner") "go_on") fd := T.def_ 55 (d := Kd.d_Runner_go_on) rfl
theorem Tx.f_Runner_make (T : Tx w K mg) : ∃ fd, FunD K "make" "Runner.make" (defArgs Kd.s_Runner_make) (defBody Kd.s_Runner_make) (defScope Kd.s_Runner_make) [] [] (He.ma K (He.ga K "Runner") "make") fd := T.def_ 56 (d := Kd.d_Runner_make) rfl
theorem Tx.f_Runner_spot (T : Tx w K mg) : ∃ fd, FunD K "spot" "Runner.spot" (defArgs Kd.s_Runner_spot) (defBody Kd.s_Runner_spot) (defScope Kd.s_Runner_spot) [] [] (He.ma K (He.ga K "Runner") "spot") fd := T.def_ 57 (d := Kd.d_Runner_spot) rfl
theorem Tx.f_do_hop (T : Tx w K mg) : ∃ fd, FunD K "do_hop" "do_hop" (defArgs Kd.s_do_hop) (defBody Kd.s_do_hop) (defScope Kd.s_do_hop) [] [] (He.ga K "do_hop") fd := T.def_ 58 (d := Kd.d_do_hop) rfl
theorem Tx.f_do_cut (T : Tx w K mg) : ∃ fd, FunD K "do_cut" "do_cut" (defArgs Kd.s_do_cut) (defBody Kd.s_do_cut) (defScope Kd.s_do_cut) [] [] (He.ga K "do_cut") fd := T.def_ 59 (d := Kd.d_do_cut) rfl
theorem Tx.f_do_run (T : Tx w K mg) : ∃ fd, FunD K "do_run" "do_run" (defArgs Kd.s_do_run) (defBody Kd.s_do_run) (defScope Kd.s_do_run) [] [] (He.ga K "do_run") fd := T.def_ 60 (d := Kd.d_do_run) rfl
theorem Tx.f_do_arc (T : Tx w K mg) : ∃ fd, FunD K "do_arc" "do_arc" (defArgs Kd.s_do_arc) (defBody Kd.s_do_arc) (defScope Kd.s_do_arc) [] [] (He.ga K "do_arc") fd := T.def_ 61 (d := Kd.d_do_arc) rfl
theorem Tx.f_do_mode (T : Tx w K mg) : ∃ fd, FunD K "do_mode" "do_mode" (defArgs Kd.s_do_mode) (defBody Kd.s_do_mode) (defScope Kd.s_do_mode) [] [] (He.ga K "do_mode") fd := T.def_ 62 (d := Kd.d_do_mode) rfl
theorem Tx.f_do_pace (T : Tx w K mg) : ∃ fd, FunD K "do_pace" "do_pace" (defArgs Kd.s_do_pace) (defBody Kd.s_do_pace) (defScope Kd.s_do_pace) [] [] (He.ga K "do_pace") fd := T.def_ 63 (d := Kd.d_do_pace) rfl
theorem Tx.f_do_side (T : Tx w K mg) : ∃ fd, FunD K "do_side" "do_side" (defArgs Kd.s_do_side) (defBody Kd.s_do_side) (defScope Kd.s_do_side) [] [] (He.ga K "do_side") fd := T.def_ 64 (d := Kd.d_do_side) rfl
theorem Tx.f_do_frame (T : Tx w K mg) : ∃ fd, FunD K "do_frame" "do_frame" (defArgs Kd.s_do_frame) (defBody Kd.s_do_frame) (defScope Kd.s_do_frame) [] [] (He.ga K "do_frame") fd := T.def_ 65 (d := Kd.d_do_frame) rfl
theorem Tx.f_do_back (T : Tx w K mg) : ∃ fd, FunD K "do_back" "do_back" (defArgs Kd.s_do_back) (defBody Kd.s_do_back) (defScope Kd.s_do_back) [] [] (He.ga K "do_back") fd := T.def_ 66 (d := Kd.d_do_back) rfl
theorem Tx.f_do_call (T : Tx w K mg) : ∃ fd, FunD K "do_call" "do_call" (defArgs Kd.s_do_call) (defBody Kd.s_do_call) (defScope Kd.s_do_call) [] [] (He.ga K "do_call") fd := T.def_ 67 (d := Kd.d_do_call) rfl
theorem Tx.f_road_by (T : Tx w K mg) : ∃ fd, FunD K "road_by" "road_by" (defArgs Kd.s_road_by) (defBody Kd.s_road_by) (defScope Kd.s_road_by) [] [] (He.ga K "road_by") fd := T.def_ 68 (d := Kd.d_road_by) rfl
theorem Tx.f_road_of (T : Tx w K mg) : ∃ fd, FunD K "road_of" "road_of" (defArgs Kd.s_road_of) (defBody Kd.s_road_of) (defScope Kd.s_road_of) [] [] (He.ga K "road_of") fd := T.def_ 69 (d := Kd.d_road_of) rfl
theorem Tx.f__law_bag (T : Tx w K mg) : ∃ fd, FunD K "_law_bag" "_law_bag" (defArgs Kd.s__law_bag) (defBody Kd.s__law_bag) (defScope Kd.s__law_bag) [] [] (He.ga K "_law_bag") fd := T.def_ 70 (d := Kd.d__law_bag) rfl
theorem Tx.f__law_take (T : Tx w K mg) : ∃ fd, FunD K "_law_take" "_law_take" (defArgs Kd.s__law_take) (defBody Kd.s__law_take) (defScope Kd.s__law_take) [] [] (He.ga K "_law_take") fd := T.def_ 71 (d := Kd.d__law_take) rfl
theorem Tx.f__law_shared (T : Tx w K mg) : ∃ fd, FunD K "_law_shared" "_law_shared" (defArgs Kd.s__law_shared) (defBody Kd.s__law_shared) (defScope Kd.s__law_shared) [] [] (He.ga K "_law_shared") fd := T.def_ 72 (d := Kd.d__law_shared) rfl
theorem Tx.f__law_low (T : Tx w K mg) : ∃ fd, FunD K "_law_low" "_law_low" (defArgs Kd.s__law_low) (defBody Kd.s__law_low) (defScope Kd.s__law_low) [] [] (He.ga K "_law_low") fd := T.def_ 73 (d := Kd.d__law_low) rfl
theorem Tx.f__law_plus (T : Tx w K mg) : ∃ fd, FunD K "_law_plus" "_law_plus" (defArgs Kd.s__law_plus) (defBody Kd.s__law_plus) (defScope Kd.s__law_plus) [] [] (He.ga K "_law_plus") fd := T.def_ 74 (d := Kd.d__law_plus) rfl
theorem Tx.f__law_times (T : Tx w K mg) : ∃ fd, FunD K "_law_times" "_law_times" (defArgs Kd.s__law_times) (defBody Kd.s__law_times) (defScope Kd.s__law_times) [] [] (He.ga K "_law_times") fd := T.def_ 75 (d := Kd.d__law_times) rfl
theorem Tx.f__law_minus (T : Tx w K mg) : ∃ fd, FunD K "_law_minus" "_law_minus" (defArgs Kd.s__law_minus) (defBody Kd.s__law_minus) (defScope Kd.s__law_minus) [] [] (He.ga K "_law_minus") fd := T.def_ 76 (d := Kd.d__law_minus) rfl
theorem Tx.f__law_added (T : Tx w K mg) : ∃ fd, FunD K "_law_added" "_law_added" (defArgs Kd.s__law_added) (defBody Kd.s__law_added) (defScope Kd.s__law_added) [] [] (He.ga K "_law_added") fd := T.def_ 77 (d := Kd.d__law_added) rfl
theorem Tx.f__law_lessened (T : Tx w K mg) : ∃ fd, FunD K "_law_lessened" "_law_lessened" (defArgs Kd.s__law_lessened) (defBody Kd.s__law_lessened) (defScope Kd.s__law_lessened) [] [] (He.ga K "_law_lessened") fd := T.def_ 78 (d := Kd.d__law_lessened) rfl
theorem Tx.f__law_turned (T : Tx w K mg) : ∃ fd, FunD K "_law_turned" "_law_turned" (defArgs Kd.s__law_turned) (defBody Kd.s__law_turned) (defScope Kd.s__law_turned) [] [] (He.ga K "_law_turned") fd := T.def_ 79 (d := Kd.d__law_turned) rfl
theorem Tx.f__law_scaled (T : Tx w K mg) : ∃ fd, FunD K "_law_scaled" "_law_scaled" (defArgs Kd.s__law_scaled) (defBody Kd.s__law_scaled) (defScope Kd.s__law_scaled) [] [] (He.ga K "_law_scaled") fd := T.def_ 80 (d := Kd.d__law_scaled) rfl
theorem Tx.f__law_heading (T : Tx w K mg) : ∃ fd, FunD K "_law_heading" "_law_heading" (defArgs Kd.s__law_heading) (defBody Kd.s__law_heading) (defScope Kd.s__law_heading) [] [] (He.ga K "_law_heading") fd := T.def_ 81 (d := Kd.d__law_heading) rfl
theorem Tx.f__law_both (T : Tx w K mg) : ∃ fd, FunD K "_law_both" "_law_both" (defArgs Kd.s__law_both) (defBody Kd.s__law_both) (defScope Kd.s__law_both) [] [] (He.ga K "_law_both") fd := T.def_ 82 (d := Kd.d__law_both) rfl
theorem Tx.f__law_word (T : Tx w K mg) : ∃ fd, FunD K "_law_word" "_law_word" (defArgs Kd.s__law_word) (defBody Kd.s__law_word) (defScope Kd.s__law_word) [] [] (He.ga K "_law_word") fd := T.def_ 83 (d := Kd.d__law_word) rfl
theorem Tx.f__law_text (T : Tx w K mg) : ∃ fd, FunD K "_law_text" "_law_text" (defArgs Kd.s__law_text) (defBody Kd.s__law_text) (defScope Kd.s__law_text) [] [] (He.ga K "_law_text") fd := T.def_ 84 (d := Kd.d__law_text) rfl
theorem Tx.f__law_frame (T : Tx w K mg) : ∃ fd, FunD K "_law_frame" "_law_frame" (defArgs Kd.s__law_frame) (defBody Kd.s__law_frame) (defScope Kd.s__law_frame) [] [] (He.ga K "_law_frame") fd := T.def_ 85 (d := Kd.d__law_frame) rfl
theorem Tx.f__law_by (T : Tx w K mg) : ∃ fd, FunD K "_law_by" "_law_by" (defArgs Kd.s__law_by) (defBody Kd.s__law_by) (defScope Kd.s__law_by) [] [] (He.ga K "_law_by") fd := T.def_ 86 (d := Kd.d__law_by) rfl
theorem Tx.f__law_led (T : Tx w K mg) : ∃ fd, FunD K "_law_led" "_law_led" (defArgs Kd.s__law_led) (defBody Kd.s__law_led) (defScope Kd.s__law_led) [] [] (He.ga K "_law_led") fd := T.def_ 87 (d := Kd.d__law_led) rfl
theorem Tx.f__law_back (T : Tx w K mg) : ∃ fd, FunD K "_law_back" "_law_back" (defArgs Kd.s__law_back) (defBody Kd.s__law_back) (defScope Kd.s__law_back) [] [] (He.ga K "_law_back") fd := T.def_ 88 (d := Kd.d__law_back) rfl
theorem Tx.f__law_about (T : Tx w K mg) : ∃ fd, FunD K "_law_about" "_law_about" (defArgs Kd.s__law_about) (defBody Kd.s__law_about) (defScope Kd.s__law_about) [] [] (He.ga K "_law_about") fd := T.def_ 89 (d := Kd.d__law_about) rfl
theorem Tx.f__law_refused (T : Tx w K mg) : ∃ fd, FunD K "_law_refused" "_law_refused" (defArgs Kd.s__law_refused) (defBody Kd.s__law_refused) (defScope Kd.s__law_refused) [] [] (He.ga K "_law_refused") fd := T.def_ 90 (d := Kd.d__law_refused) rfl
theorem Tx.f__law_row (T : Tx w K mg) : ∃ fd, FunD K "_law_row" "_law_row" (defArgs Kd.s__law_row) (defBody Kd.s__law_row) (defScope Kd.s__law_row) [] [] (He.ga K "_law_row") fd := T.def_ 91 (d := Kd.d__law_row) rfl
theorem Tx.f__law_calm (T : Tx w K mg) : ∃ fd, FunD K "_law_calm" "_law_calm" (defArgs Kd.s__law_calm) (defBody Kd.s__law_calm) (defScope Kd.s__law_calm) [] [] (He.ga K "_law_calm") fd := T.def_ 92 (d := Kd.d__law_calm) rfl
theorem Tx.f__law_names (T : Tx w K mg) : ∃ fd, FunD K "_law_names" "_law_names" (defArgs Kd.s__law_names) (defBody Kd.s__law_names) (defScope Kd.s__law_names) [] [] (He.ga K "_law_names") fd := T.def_ 93 (d := Kd.d__law_names) rfl
theorem Tx.f__law_program (T : Tx w K mg) : ∃ fd, FunD K "_law_program" "_law_program" (defArgs Kd.s__law_program) (defBody Kd.s__law_program) (defScope Kd.s__law_program) [] [] (He.ga K "_law_program") fd := T.def_ 94 (d := Kd.d__law_program) rfl
theorem Tx.f__law_is_outside (T : Tx w K mg) : ∃ fd, FunD K "_law_is_outside" "_law_is_outside" (defArgs Kd.s__law_is_outside) (defBody Kd.s__law_is_outside) (defScope Kd.s__law_is_outside) [] [] (He.ga K "_law_is_outside") fd := T.def_ 95 (d := Kd.d__law_is_outside) rfl
theorem Tx.f__law_span (T : Tx w K mg) : ∃ fd, FunD K "_law_span" "_law_span" (defArgs Kd.s__law_span) (defBody Kd.s__law_span) (defScope Kd.s__law_span) [] [] (He.ga K "_law_span") fd := T.def_ 96 (d := Kd.d__law_span) rfl
theorem Tx.f__law_is_far (T : Tx w K mg) : ∃ fd, FunD K "_law_is_far" "_law_is_far" (defArgs Kd.s__law_is_far) (defBody Kd.s__law_is_far) (defScope Kd.s__law_is_far) [] [] (He.ga K "_law_is_far") fd := T.def_ 97 (d := Kd.d__law_is_far) rfl
theorem Tx.f__law_spot (T : Tx w K mg) : ∃ fd, FunD K "_law_spot" "_law_spot" (defArgs Kd.s__law_spot) (defBody Kd.s__law_spot) (defScope Kd.s__law_spot) [] [] (He.ga K "_law_spot") fd := T.def_ 98 (d := Kd.d__law_spot) rfl
theorem Tx.f__law_made (T : Tx w K mg) : ∃ fd, FunD K "_law_made" "_law_made" (defArgs Kd.s__law_made) (defBody Kd.s__law_made) (defScope Kd.s__law_made) [] [] (He.ga K "_law_made") fd := T.def_ 99 (d := Kd.d__law_made) rfl
theorem Tx.f__law_keep (T : Tx w K mg) : ∃ fd, FunD K "_law_keep" "_law_keep" (defArgs Kd.s__law_keep) (defBody Kd.s__law_keep) (defScope Kd.s__law_keep) [] [] (He.ga K "_law_keep") fd := T.def_ 100 (d := Kd.d__law_keep) rfl
theorem Tx.f__law_next (T : Tx w K mg) : ∃ fd, FunD K "_law_next" "_law_next" (defArgs Kd.s__law_next) (defBody Kd.s__law_next) (defScope Kd.s__law_next) [] [] (He.ga K "_law_next") fd := T.def_ 101 (d := Kd.d__law_next) rfl
theorem Tx.f__law_gone (T : Tx w K mg) : ∃ fd, FunD K "_law_gone" "_law_gone" (defArgs Kd.s__law_gone) (defBody Kd.s__law_gone) (defScope Kd.s__law_gone) [] [] (He.ga K "_law_gone") fd := T.def_ 102 (d := Kd.d__law_gone) rfl
theorem Tx.f_law (T : Tx w K mg) : ∃ fd, FunD K "law" "law" (defArgs Kd.s_law) (defBody Kd.s_law) (defScope Kd.s_law) [] [] (He.ga K "law") fd := T.def_ 103 (d := Kd.d_law) rfl
end
end Kx

set_option Elab.async false
set_option linter.all false
set_option maxRecDepth 100000
set_option maxHeartbeats 4000000
namespace Kx
open PySem PySem.Spec PyProof.Rows L2 Evl
/-- the program with the law -/
abbrev Pg : Program := PySem.Challenge.pw_toolroad_k29_whole_roads_by_their_rows
/-! ### numbers, plainly -/
abbrev Nu : Type := Int × Int
abbrev Pl : Type := Nu × Nu
abbrev nD (u : Nu) : PyData := .tuple [.int u.1, .int u.2]
abbrev pD (p : Pl) : PyData := .tuple [nD p.1, nD p.2]
/-- the greatest int that divides both -/
def gcdI (a b : Int) : Int := (Int.gcd a b : Nat)
/-- in lowest terms -/
def rat (t b : Int) : Nu := (t / gcdI t b, b / gcdI t b)
def addN (u v : Nu) : Nu := rat (u.1 * v.2 + v.1 * u.2) (u.2 * v.2)
def oppN (u : Nu) : Nu := (0 - u.1, u.2)
def subN (u v : Nu) : Nu := addN u (oppN v)
def mulN (u v : Nu) : Nu := rat (u.1 * v.1) (u.2 * v.2)
/-- a number of at most b bits above and below -/
def Sm (b : Nat) (u : Nu) : Prop := u.1.natAbs < 2 ^ b ∧ 0 < u.2 ∧ u.2.natAbs < 2 ^ b
theorem gcdI_pos {a b : Int} (h : 0 < b) : 0 < gcdI a b := by
  unfold gcdI
  have : 0 < Int.gcd a b := Int.gcd_pos_of_ne_zero_right a (by omega)
  omega
theorem gcdI_le {a b : Int} (h : 0 < b) : gcdI a b ≤ b := by
  unfold gcdI
  have := Nat.le_of_dvd (by omega : 0 < b.natAbs) (Nat.gcd_dvd_right a.natAbs b.natAbs)
  show ((Nat.gcd a.natAbs b.natAbs : Nat) : Int) ≤ b
  omega
theorem Sm.mono {a b : Nat} {u : Nu} (h : Sm a u) (l : a ≤ b) : Sm b u := by
  have p : 2 ^ a ≤ 2 ^ b := Nat.pow_le_pow_right (by decide) l
  exact ⟨Nat.lt_of_lt_of_le h.1 p, h.2.1, Nat.lt_of_lt_of_le h.2.2 p⟩
theorem Sm.opp {b : Nat} {u : Nu} (h : Sm b u) : Sm b (oppN u) := by
  refine ⟨?_, h.2⟩
  show (0 - u.1).natAbs < _
  have := h.1
  omega
theorem sm_rat {t b : Int} {n : Nat} (ht : t.natAbs < 2 ^ n) (h0 : 0 < b) (hb : b.natAbs < 2 ^ n) : Sm n (rat t b) := by
  have g := gcdI_pos (a := t) h0
  have l := gcdI_le (a := t) h0
  refine ⟨?_, ?_, ?_⟩
  · show (t / gcdI t b).natAbs < _
    have := Int.natAbs_ediv_le_natAbs t (gcdI t b)
    omega
  · show 0 < b / gcdI t b
    exact Int.ediv_pos_of_pos_of_dvd h0 (by omega) (Int.gcd_dvd_right t b)
  · show (b / gcdI t b).natAbs < _
    have := Int.natAbs_ediv_le_natAbs b (gcdI t b)
    omega
theorem Sm.den {b : Nat} {u : Nu} (h : Sm b u) : 0 < u.2 := h.2.1
theorem mul_lt {i j : Int} {a b : Nat} (ha : i.natAbs < 2 ^ a) (hb : j.natAbs < 2 ^ b) : (i * j).natAbs < 2 ^ (a + b) := wide_lt ha hb
theorem mulC {i j : Int} {a b : Nat} (ha : i.natAbs < 2 ^ a) (hb : j.natAbs < 2 ^ b) (h : a + b ≤ 900000) : CMulW i j := wide_mul (a := a + 1) (b := b + 1) (Nat.lt_of_lt_of_le ha (Nat.pow_le_pow_right (by decide) (by omega))) (Nat.lt_of_lt_of_le hb (Nat.pow_le_pow_right (by decide) (by omega))) (by omega) (by omega) (by omega)
theorem Sm.mul {a b : Nat} {u v : Nu} (h : Sm a u) (g : Sm b v) : Sm (a + b) (mulN u v) := sm_rat (mul_lt h.1 g.1) (Int.mul_pos h.2.1 g.2.1) (mul_lt h.2.2 g.2.2)
theorem Sm.add {a b : Nat} {u v : Nu} (h : Sm a u) (g : Sm b v) : Sm (a + b + 1) (addN u v) := by
  have e1 := mul_lt h.1 g.2.2
  have e2 := mul_lt g.1 h.2.2
  have e3 := mul_lt h.2.2 g.2.2
  have p : 2 ^ (a + b + 1) = 2 ^ (a + b) + 2 ^ (a + b) := by rw [Nat.pow_succ]; omega
  rw [Nat.add_comm b a] at e2
  refine sm_rat ?_ (Int.mul_pos h.2.1 g.2.1) ?_
  · rw [p]
    omega
  · rw [p]
    omega
theorem Sm.sub {a b : Nat} {u v : Nu} (h : Sm a u) (g : Sm b v) : Sm (a + b + 1) (subN u v) := h.add g.opp
/-! ### `//` by a positive divisor of any size -/
theorem op_fdivP {X : Cx} (T : Tx X.w X.K X.mg) (hr : Room 33 X.A) (hst : X.stack = X.env :: X.outer := by rfl) (h1 : X.env.scope.isGenerator = false := by rfl) (h2 : X.env.scope.isCoroutine = false := by rfl) (ht : X.prog.given.tree = none := by rfl) :
    OpR X (binaryOp .FloorDiv) (rI (fun _ j => 0 < j) fun i j => .int (i / j)) := by
  intro pins s σ H x y v u Q I rx ry h
  obtain ⟨i, j, rfl, rfl, hj, q⟩ := h
  obtain ⟨t, rfl⟩ := rx
  obtain ⟨t', rfl⟩ := ry
  have hj' : (0 : Int) < j := hj
  have S : s.heap.NoSeer := (T.seer X.base I.ok.mod).keeps I.bk
  have hf : X.A.frames = some (X.env :: X.outer) := by rw [I.ok.frames, hst]
  have room : PySem.PylongRoom (model X.prog X.w) X.A s := PySem.PylongRoom.of I.nolimit (by
    have d := hr.dp
    show X.A.depth + 100 < recursionLimit
    omega) (PySem.SeerAt.of S ht hf h1 h2 I.ok.blt I.ok.glob)
  refine floordiv_int (by omega) ?_ (.inr room)
  rw [Int.fdiv_eq_ediv_of_nonneg i (by omega)]
  exact ⟨.int (i / j), H, I.tok _, ⟨_, rfl⟩, q⟩
/-! ### short words for terms -/
section
variable {X : Cx} {e a b : Expr} {te ta tb : TE} {pos p1 : Pos}
/-- an item of a tuple by a written place -/
theorem px {n : Int} {j} (h : PE X e te) : PE X (.Subscript e (.Constant (.int n) j p1) pos) (tOp (rIxT X.K) te (tC (.int n))) := pe_ix ix_tup h pe_int fun _ _ => rfl
end
/-! ### the first defs -/
section
variable {w : World} {K : PySem.W.Frag} {mg : Str → Option Value} {base : Heap}
theorem sc_shared : FnScope ["one", "other"] ["one", "other"] (defScope Kd.s_shared) := ⟨rfl, rfl, rfl, by decide +kernel, rfl, by decide +kernel, by decide +kernel⟩
def fShared : List PyData → PyData → Prop := fun ds r => ∃ a b : Int, ds = [.int a, .int b] ∧ r = .int (gcdI a b)
theorem abs_eq (i : Int) : (if i < 0 then -i else i) = (i.natAbs : Int) := by omega
def rAbs : List V → Hp → VK → Prop := fun xs H Q => ∃ i, xs = [.int i] ∧ Q (.int (if i < 0 then -i else i)) H
theorem d_abs {σ : L2.St} {H : Hp} {ta : TE} {i : Int} (h : EvD K ta σ H (.int i)) : EvD K (tCB rAbs (tCons ta tNil)) σ H (.int (i.natAbs : Int)) :=
  d_of (fun H1 e Q q => h.int H1 e _ fun H2 e2 => ⟨i, rfl, by rw [abs_eq]; exact q H2 e2⟩) (.int _)
theorem ok_shared (T : Tx w K mg) : Ok Pg w K mg base CX0 1 (He.ga K "shared") ["one", "other"] (spP K fShared) := by
  refine ok_pure T.f_shared sc_shared (fun ds r ⟨a, b, h, _⟩ => by rw [h]; rfl) (fun _ _ _ _ _ _ us hl => match us, hl with | [_, _], _ => rfl) fun cdv A outer s H E hr => ?_
  refine ⟨_, pss_cons (ps_par (i := 0) (j := 1) rfl sc_shared.nd rfl rfl (by decide) rfl rfl (pa_cons (pe_callB call_abs (by rfl) T.b_abs (by decide +kernel) (pa_cons (pv 0) pa_nil)) (pa_cons (pe_callB call_abs (by rfl) T.b_abs (by decide +kernel) (pa_cons (pv 1) pa_nil)) pa_nil)) (by rfl))
    (pss_cons (ps_while PassesOwn.never (pt_cmpR op_gt (pv 1) pe_int (nomark _)) (pss_one (ps_par (i := 0) (j := 1) rfl sc_shared.nd rfl rfl (by decide) rfl rfl (pa_cons (pv 1) (pa_cons (pe_op op_mod (pv 0) (pv 1)) pa_nil)) (by rfl))))
    (pss_one (ps_ret (pv 0)))), ?_⟩
  rintro vs ds r D hv ⟨a, b, rfl, rfl⟩ hq _
  obtain ⟨v0, v1, rfl, h0, h1⟩ : ∃ v0 v1, vs = [v0, v1] ∧ Dt K H v0 (.int a) ∧ Dt K H v1 (.int b) := by
    cases hv with
    | cons x y =>
      cases y with
      | cons y z =>
        cases z
        exact ⟨_, _, rfl, x, y⟩
  rw [h0.int_eq, h1.int_eq]
  refine q_parD (K := K) (a := .int (a.natAbs : Int)) (b := .int (b.natAbs : Int)) (ds_cons (d_abs (d_vint rfl)) (ds_cons (d_abs (d_vint rfl)) ds_nil)) fun v w' H1 e1 hv hw => ?_
  rw [hv.int_eq, hw.int_eq]
  refine q_while (fun m σ' H' => ∃ x y : Nat, σ' = [some (.int x), some (.int y)] ∧ Ex H H' ∧ Nat.gcd x y = Int.gcd a b ∧ y = m) b.natAbs ⟨a.natAbs, b.natAbs, rfl, e1, rfl, rfl⟩ ?_
  rintro m σ' H' ⟨x, y, rfl, e2, hg, hm⟩
  subst hm
  refine ⟨decide ((0 : Int) < (y : Int)), t_test (d_ib (K := K) (f := fun i j => decide (j < i)) (d_vint rfl) d_int), fun hy H2 e3 => ?_, fun hy H2 e3 => ?_⟩
  · have hy0 : 0 < y := by have := of_decide_eq_true hy; omega
    refine ⟨fun σ2 H2' => ∃ x' y' : Nat, σ2 = [some (.int x'), some (.int y')] ∧ Ex H H2' ∧ Nat.gcd x' y' = Int.gcd a b ∧ y' < y, fun σ2 H2' ⟨x', y', z1, z2, z3, z4⟩ => ⟨y', z4, x', y', z1, z2, z3, rfl⟩, ?_⟩
    refine s_parD (K := K) (a := .int (y : Int)) (b := .int ((x : Int) % (y : Int))) (ds_cons (d_vint rfl) (ds_cons (d_iC (d_vint rfl) (d_vint rfl) (by show (0 : Int) < (y : Int); omega)) ds_nil)) fun v w' H3 e4 hv hw => ?_
    rw [hv.int_eq, hw.int_eq]
    refine ⟨y, x % y, rfl, (e2.trans e3).trans e4, ?_, Nat.mod_lt _ hy0⟩
    rw [← hg, Nat.gcd_comm y, ← Nat.gcd_rec, Nat.gcd_comm]
  · have hy0 : y = 0 := by have := of_decide_eq_false hy; omega
    subst hy0
    refine s_retD (K := K) (d := .int (x : Int)) (d_vint rfl) fun v H3 e4 hd => hq v H3 ((e2.trans e3).trans e4) ?_
    rw [hd.int_eq]
    unfold gcdI
    rw [← hg, Nat.gcd_zero_right]
    exact .int _
end
end Kx

set_option Elab.async false
set_option linter.all false
set_option maxRecDepth 100000
set_option maxHeartbeats 4000000
namespace Kx
open PySem PySem.Spec PyProof.Rows L2 Evl

/-! ### small steps of readings, by a word -/
section
variable {K : PySem.W.Frag} {H : Hp} {vs : List V} {d1 d2 d3 d4 : PyData}
theorem DtL.one (h : DtL K H vs [d1]) : ∃ v, vs = [v] ∧ Dt K H v d1 := by
  cases h with
  | cons a b => cases b; exact ⟨_, rfl, a⟩
theorem DtL.two (h : DtL K H vs [d1, d2]) : ∃ v u, vs = [v, u] ∧ Dt K H v d1 ∧ Dt K H u d2 := by
  cases h with
  | cons a b => obtain ⟨u, rfl, c⟩ := DtL.one b; exact ⟨_, _, rfl, a, c⟩
theorem DtL.three (h : DtL K H vs [d1, d2, d3]) : ∃ v u t, vs = [v, u, t] ∧ Dt K H v d1 ∧ Dt K H u d2 ∧ Dt K H t d3 := by
  cases h with
  | cons a b => obtain ⟨u, t, rfl, c⟩ := DtL.two b; exact ⟨_, _, _, rfl, a, c⟩
end
/-- two numbers to a number; a number to a number; two places to a place; a place and a number to a place -/
def f2 (b c : Nat) (g : Nu → Nu → Nu) : List PyData → PyData → Prop := fun ds r => ∃ u v : Nu, ds = [nD u, nD v] ∧ Sm b u ∧ Sm c v ∧ r = nD (g u v)
def f1 (g : Nu → Nu) : List PyData → PyData → Prop := fun ds r => ∃ u : Nu, ds = [nD u] ∧ r = nD (g u)
def SmP (b : Nat) (p : Pl) : Prop := Sm b p.1 ∧ Sm b p.2
theorem SmP.mono {a b : Nat} {p : Pl} (h : SmP a p) (l : a ≤ b) : SmP b p := ⟨h.1.mono l, h.2.mono l⟩
def fPP (b c : Nat) (g : Pl → Pl → Pl) : List PyData → PyData → Prop := fun ds r => ∃ p q : Pl, ds = [pD p, pD q] ∧ SmP b p ∧ SmP c q ∧ r = pD (g p q)
def fPN (b c : Nat) (g : Pl → Nu → Pl) : List PyData → PyData → Prop := fun ds r => ∃ (p : Pl) (u : Nu), ds = [pD p, nD u] ∧ SmP b p ∧ Sm c u ∧ r = pD (g p u)
section
variable {K : PySem.W.Frag} {σ : L2.St} {H : Hp} {tA : TA} {E : XK} {u v : Nu} {p q : Pl} {b c : Nat}
theorem d_num {g : Nu → Nu → Nu} (h : EvDs K tA σ H [nD u, nD v]) (hu : Sm b u) (hv : Sm c v) : EvD K (tCall (spP K (f2 b c g)) [] E tA) σ H (nD (g u v)) := d_call h ⟨u, v, rfl, hu, hv, rfl⟩
theorem d_un {g : Nu → Nu} (h : EvDs K tA σ H [nD u]) (_ : True) : EvD K (tCall (spP K (f1 g)) [] E tA) σ H (nD (g u)) := d_call h ⟨u, rfl, rfl⟩
theorem d_pls {g : Pl → Pl → Pl} (h : EvDs K tA σ H [pD p, pD q]) (h1 : Sm b p.1) (h2 : Sm b p.2) (h3 : Sm c q.1) (h4 : Sm c q.2) : EvD K (tCall (spP K (fPP b c g)) [] E tA) σ H (pD (g p q)) := d_call h ⟨p, q, rfl, ⟨h1, h2⟩, ⟨h3, h4⟩, rfl⟩
theorem d_pn {g : Pl → Nu → Pl} (h : EvDs K tA σ H [pD p, nD u]) (h1 : Sm b p.1) (h2 : Sm b p.2) (h3 : Sm c u) : EvD K (tCall (spP K (fPN b c g)) [] E tA) σ H (pD (g p u)) := d_call h ⟨p, u, rfl, ⟨h1, h2⟩, h3, rfl⟩
end
local macro_rules | `(tactic| walk_at "ev") => `(tactic| first
  | exact d_int | exact d_str | exact d_bl | exact d_non | exact ds_nil
  | exact d_vint rfl | exact d_var (by assumption) rfl
  | (apply ds_cons <;> walk_at "ev")
  | (apply d_tup2 <;> walk_at "ev")
  | (apply d_ix <;> walk_at "ev")
  | (apply d_ii <;> walk_at "ev")
  | (apply d_iC <;> walk_at "ev")
  | (apply d_ib <;> walk_at "ev")
  | (apply d_abs <;> walk_at "ev")
  | (apply d_num <;> walk_at "ev")
  | (apply d_un <;> walk_at "ev")
  | (apply d_pls <;> walk_at "ev")
  | (apply d_pn <;> walk_at "ev")
  | assumption | rfl)
def fRatio : List PyData → PyData → Prop := fun ds r => ∃ t b : Int, ds = [.int t, .int b] ∧ 0 < b ∧ r = nD (rat t b)
abbrev B0 : Nat := 200000
def addP (p q : Pl) : Pl := (addN p.1 q.1, addN p.2 q.2)
def subP (p q : Pl) : Pl := (subN p.1 q.1, subN p.2 q.2)
def sclP (p : Pl) (u : Nu) : Pl := (mulN p.1 u, mulN p.2 u)
def dotN (p q : Pl) : Nu := addN (mulN p.1 q.1) (mulN p.2 q.2)
def trnP (p h : Pl) : Pl := (subN (mulN p.1 h.1) (mulN p.2 h.2), addN (mulN p.1 h.2) (mulN p.2 h.1))
section
variable {w : World} {K : PySem.W.Frag} {mg : Str → Option Value} {base : Heap}
theorem sc__law_shared : FnScope ["_law_one", "_law_two"] ["_law_one", "_law_two"] (defScope Kd.s__law_shared) := ⟨rfl, rfl, rfl, by decide +kernel, rfl, by decide +kernel, by decide +kernel⟩
theorem ok__law_shared (T : Tx w K mg) : Ok Pg w K mg base CX0 1 (He.ga K "_law_shared") ["_law_one", "_law_two"] (spP K fShared) := by
  refine ok_pure T.f__law_shared sc__law_shared (fun ds r ⟨a, b, h, _⟩ => by rw [h]; rfl) (fun _ _ _ _ _ _ us hl => match us, hl with | [_, _], _ => rfl) fun cdv A outer s H E hr => ?_
  refine ⟨_, pss_cons (ps_par (i := 0) (j := 1) rfl sc__law_shared.nd rfl rfl (by decide) rfl rfl (pa_cons (pe_callB call_abs (by rfl) T.b_abs (by decide +kernel) (pa_cons (pv 0) pa_nil)) (pa_cons (pe_callB call_abs (by rfl) T.b_abs (by decide +kernel) (pa_cons (pv 1) pa_nil)) pa_nil)) (by rfl))
    (pss_cons (ps_while PassesOwn.never (pt_cmpR op_gt (pv 1) pe_int (nomark _)) (pss_one (ps_par (i := 0) (j := 1) rfl sc__law_shared.nd rfl rfl (by decide) rfl rfl (pa_cons (pv 1) (pa_cons (pe_op op_mod (pv 0) (pv 1)) pa_nil)) (by rfl))))
    (pss_one (ps_ret (pv 0)))), ?_⟩
  rintro vs ds r D hv ⟨a, b, rfl, rfl⟩ hq _
  obtain ⟨v0, v1, rfl, h0, h1⟩ : ∃ v0 v1, vs = [v0, v1] ∧ Dt K H v0 (.int a) ∧ Dt K H v1 (.int b) := by
    cases hv with
    | cons x y =>
      cases y with
      | cons y z =>
        cases z
        exact ⟨_, _, rfl, x, y⟩
  rw [h0.int_eq, h1.int_eq]
  refine q_parD (K := K) (a := .int (a.natAbs : Int)) (b := .int (b.natAbs : Int)) (ds_cons (d_abs (d_vint rfl)) (ds_cons (d_abs (d_vint rfl)) ds_nil)) fun v w' H1 e1 hv hw => ?_
  rw [hv.int_eq, hw.int_eq]
  refine q_while (fun m σ' H' => ∃ x y : Nat, σ' = [some (.int x), some (.int y)] ∧ Ex H H' ∧ Nat.gcd x y = Int.gcd a b ∧ y = m) b.natAbs ⟨a.natAbs, b.natAbs, rfl, e1, rfl, rfl⟩ ?_
  rintro m σ' H' ⟨x, y, rfl, e2, hg, hm⟩
  subst hm
  refine ⟨decide ((0 : Int) < (y : Int)), t_test (d_ib (K := K) (f := fun i j => decide (j < i)) (d_vint rfl) d_int), fun hy H2 e3 => ?_, fun hy H2 e3 => ?_⟩
  · have hy0 : 0 < y := by have := of_decide_eq_true hy; omega
    refine ⟨fun σ2 H2' => ∃ x' y' : Nat, σ2 = [some (.int x'), some (.int y')] ∧ Ex H H2' ∧ Nat.gcd x' y' = Int.gcd a b ∧ y' < y, fun σ2 H2' ⟨x', y', z1, z2, z3, z4⟩ => ⟨y', z4, x', y', z1, z2, z3, rfl⟩, ?_⟩
    refine s_parD (K := K) (a := .int (y : Int)) (b := .int ((x : Int) % (y : Int))) (ds_cons (d_vint rfl) (ds_cons (d_iC (d_vint rfl) (d_vint rfl) (by show (0 : Int) < (y : Int); omega)) ds_nil)) fun v w' H3 e4 hv hw => ?_
    rw [hv.int_eq, hw.int_eq]
    refine ⟨y, x % y, rfl, (e2.trans e3).trans e4, ?_, Nat.mod_lt _ hy0⟩
    rw [← hg, Nat.gcd_comm y, ← Nat.gcd_rec, Nat.gcd_comm]
  · have hy0 : y = 0 := by have := of_decide_eq_false hy; omega
    subst hy0
    refine s_retD (K := K) (d := .int (x : Int)) (d_vint rfl) fun v H3 e4 hd => hq v H3 ((e2.trans e3).trans e4) ?_
    rw [hd.int_eq]
    unfold gcdI
    rw [← hg, Nat.gcd_zero_right]
    exact .int _

theorem sc_ratio : FnScope ["top", "bottom", "both"] ["top", "bottom"] (defScope Kd.s_ratio) := ⟨rfl, rfl, rfl, by decide +kernel, rfl, by decide +kernel, by decide +kernel⟩
theorem ok_ratio (T : Tx w K mg) : Ok Pg w K mg base CX0 34 (He.ga K "ratio") ["top", "bottom"] (spP K fRatio) := by
  obtain ⟨fd, F⟩ := T.f_ratio
  have hb : Binds K fd ["top", "bottom"] [] := by
    obtain ⟨ds, r, b⟩ := F.binds1 (ps := ["top", "bottom"]) 2 1 (by decide) rfl fun TT kV doc pm an cdv ct us its h1 h2 => match us, its, h1, h2 with
      | [_, _], [_], _, _ => ⟨_, rfl, rfl⟩
    cases r
    exact b
  refine ⟨⟨fd, F.ok sc_ratio (fun vs H Q E ⟨ds, r, h1, ⟨t, b, h2, _⟩, _⟩ => by rw [h1.len, h2]; rfl) (fun cdv A outer s H vs Q E hr ⟨ds, r, hv, ⟨a, b, e1, b0, e2⟩, hq⟩ => ?_), hb⟩, F.kp⟩
  subst e1 e2
  obtain ⟨v0, v1, rfl, h0, h1⟩ := hv.two
  rw [h0.int_eq, h1.int_eq]
  have g0 := gcdI_pos (a := a) b0
  refine ⟨_, PSs.nox (pss_cons (ps_if (pt_cmpR op_eq (pv 1) pe_int (nomark _)) (pss_one ps_never) pss_nil)
    (pss_cons (ps_set (i := 2) sc_ratio.nd rfl (Or.inl rfl) (pe_fn (ok_shared T) (hr.mono (by decide)) T.g_shared pass0 (pa_cons (pv 0) (pa_cons (pv 1) pa_nil))))
    (pss_cons (ps_if (pt_cmpR op_lt (pv 1) pe_int (nomark _)) (pss_one (ps_set (i := 2) sc_ratio.nd rfl (Or.inl rfl) (pe_op op_sub pe_int (pv 2)))) pss_nil)
    (pss_one (ps_ret (pe_tup (pa_cons (pe_op (op_fdivP T hr) (pv 0) (pv 2)) (pa_cons (pe_op (op_fdivP T hr) (pv 1) (pv 2)) pa_nil)))))))), ?_⟩
  refine q_when (b := decide (b = 0)) (t_test (K := K) (d_eqI (d_vint rfl) d_int)) (fun hb => absurd (of_decide_eq_true hb) (by omega)) fun _ H1 e1 => ?_
  refine q_asgD (K := K) (d := .int (gcdI a b)) (d_call (ds_cons (d_vint rfl) (ds_cons (d_vint rfl) ds_nil)) ⟨a, b, rfl, rfl⟩) fun v H2 e2 hv => ?_
  rw [hv.int_eq]
  refine q_when (b := decide (b < 0)) (t_test (K := K) (d_ib (f := fun i j => decide (i < j)) (d_vint rfl) d_int)) (fun hb => absurd (of_decide_eq_true hb) (by omega)) fun _ H3 e3 => ?_
  exact s_retD (K := K) (d := nD (rat a b)) (d_tup2 (ds_cons (d_iC (d_vint rfl) (d_vint rfl) g0) (ds_cons (d_iC (d_vint rfl) (d_vint rfl) g0) ds_nil))) fun v H4 e4 hd => hq v H4 (((e1.trans e2).trans e3).trans e4) hd
theorem sc__law_low : FnScope ["_law_top", "_law_bottom", "_law_part"] ["_law_top", "_law_bottom"] (defScope Kd.s__law_low) := ⟨rfl, rfl, rfl, by decide +kernel, rfl, by decide +kernel, by decide +kernel⟩
theorem ok__law_low (T : Tx w K mg) : Ok Pg w K mg base CX0 34 (He.ga K "_law_low") ["_law_top", "_law_bottom"] (spP K fRatio) := by
  refine ok_pure T.f__law_low sc__law_low (fun ds r ⟨a, b, h, _⟩ => by rw [h]; rfl) (fun _ _ _ _ _ _ us hl => match us, hl with | [_, _], _ => rfl) fun cdv A outer s H E hr => ?_
  refine ⟨_, pss_cons (ps_set (i := 2) sc__law_low.nd rfl (Or.inl rfl) (pe_fn (ok__law_shared T) (hr.mono (by decide)) T.g__law_shared pass0 (pa_cons (pv 0) (pa_cons (pv 1) pa_nil))))
    (pss_cons (ps_if (pt_cmpR op_lt (pv 1) pe_int (nomark _)) (pss_one (ps_set (i := 2) sc__law_low.nd rfl (Or.inl rfl) (pe_op op_sub pe_int (pv 2)))) pss_nil)
    (pss_one (ps_ret (pe_tup (pa_cons (pe_op (op_fdivP T hr) (pv 0) (pv 2)) (pa_cons (pe_op (op_fdivP T hr) (pv 1) (pv 2)) pa_nil)))))), ?_⟩
  rintro vs ds r D hv ⟨a, b, rfl, b0, rfl⟩ hq _
  obtain ⟨v0, v1, rfl, h0, h1⟩ := hv.two
  rw [h0.int_eq, h1.int_eq]
  have g0 := gcdI_pos (a := a) b0
  refine q_asgD (K := K) (d := .int (gcdI a b)) (d_call (ds_cons (d_vint rfl) (ds_cons (d_vint rfl) ds_nil)) ⟨a, b, rfl, rfl⟩) fun v H2 e2 hv => ?_
  rw [hv.int_eq]
  refine q_when (b := decide (b < 0)) (t_test (K := K) (d_ib (f := fun i j => decide (i < j)) (d_vint rfl) d_int)) (fun hb => absurd (of_decide_eq_true hb) (by omega)) fun _ H3 e3 => ?_
  exact s_retD (K := K) (d := nD (rat a b)) (d_tup2 (ds_cons (d_iC (d_vint rfl) (d_vint rfl) g0) (ds_cons (d_iC (d_vint rfl) (d_vint rfl) g0) ds_nil))) fun v H4 e4 hd => hq v H4 ((e2.trans e3).trans e4) hd
theorem d_ratio {σ : L2.St} {H : Hp} {tA : TA} {E : XK} {t b : Int} (h : EvDs K tA σ H [.int t, .int b]) (hb : 0 < b) : EvD K (tCall (spP K fRatio) [] E tA) σ H (nD (rat t b)) := d_call h ⟨t, b, rfl, hb, rfl⟩
theorem sc_plus : FnScope ["u", "v"] ["u", "v"] (defScope Kd.s_plus) := ⟨rfl, rfl, rfl, by decide +kernel, rfl, by decide +kernel, by decide +kernel⟩
theorem ok_plus (T : Tx w K mg) : Ok Pg w K mg base CX0 35 (He.ga K "plus") ["u", "v"] (spP K (f2 401000 401000 addN)) := by
  refine ok_pure T.f_plus sc_plus (fun ds r h => by obtain ⟨u, v, rfl, hu, hv', _⟩ := h; rfl) (fun _ _ _ _ _ _ us hl => match us, hl with | [_, _], _ => rfl) fun cdv A outer s H E hr => ?_
  refine ⟨_, pss_one (ps_ret (pe_fn (ok_ratio T) (hr.mono (by decide)) T.g_ratio pass0 (pa_cons (pe_op op_add (pe_op op_mulW (px (pv 0)) (px (pv 1))) (pe_op op_mulW (px (pv 1)) (px (pv 0)))) (pa_cons (pe_op op_mulW (px (pv 0)) (px (pv 1))) pa_nil)))), ?_⟩
  rintro vs ds r D hv ⟨u, v, rfl, hu, hv', rfl⟩ hq _
  obtain ⟨v0, v1, rfl, h0, h1⟩ := hv.two
  have c1 : CMulW u.1 v.2 := mulC hu.1 hv'.2.2 (by decide)
  have c2 : CMulW v.1 u.2 := mulC hv'.1 hu.2.2 (by decide)
  have c3 : CMulW u.2 v.2 := mulC hu.2.2 hv'.2.2 (by decide)
  refine s_retD (K := K) ?_ hq
  exact d_ratio (by walk_at "ev") (Int.mul_pos hu.2.1 hv'.2.1)
theorem sc__law_plus : FnScope ["_law_u", "_law_v"] ["_law_u", "_law_v"] (defScope Kd.s__law_plus) := ⟨rfl, rfl, rfl, by decide +kernel, rfl, by decide +kernel, by decide +kernel⟩
theorem ok__law_plus (T : Tx w K mg) : Ok Pg w K mg base CX0 35 (He.ga K "_law_plus") ["_law_u", "_law_v"] (spP K (f2 401000 401000 addN)) := by
  refine ok_pure T.f__law_plus sc__law_plus (fun ds r h => by obtain ⟨u, v, rfl, hu, hv', _⟩ := h; rfl) (fun _ _ _ _ _ _ us hl => match us, hl with | [_, _], _ => rfl) fun cdv A outer s H E hr => ?_
  refine ⟨_, pss_one (ps_ret (pe_fn (ok__law_low T) (hr.mono (by decide)) T.g__law_low pass0 (pa_cons (pe_op op_add (pe_op op_mulW (px (pv 0)) (px (pv 1))) (pe_op op_mulW (px (pv 1)) (px (pv 0)))) (pa_cons (pe_op op_mulW (px (pv 0)) (px (pv 1))) pa_nil)))), ?_⟩
  rintro vs ds r D hv ⟨u, v, rfl, hu, hv', rfl⟩ hq _
  obtain ⟨v0, v1, rfl, h0, h1⟩ := hv.two
  have c1 : CMulW u.1 v.2 := mulC hu.1 hv'.2.2 (by decide)
  have c2 : CMulW v.1 u.2 := mulC hv'.1 hu.2.2 (by decide)
  have c3 : CMulW u.2 v.2 := mulC hu.2.2 hv'.2.2 (by decide)
  refine s_retD (K := K) ?_ hq
  exact d_ratio (by walk_at "ev") (Int.mul_pos hu.2.1 hv'.2.1)
theorem sc_times : FnScope ["u", "v"] ["u", "v"] (defScope Kd.s_times) := ⟨rfl, rfl, rfl, by decide +kernel, rfl, by decide +kernel, by decide +kernel⟩
theorem ok_times (T : Tx w K mg) : Ok Pg w K mg base CX0 35 (He.ga K "times") ["u", "v"] (spP K (f2 401000 401000 mulN)) := by
  refine ok_pure T.f_times sc_times (fun ds r h => by obtain ⟨u, v, rfl, hu, hv', _⟩ := h; rfl) (fun _ _ _ _ _ _ us hl => match us, hl with | [_, _], _ => rfl) fun cdv A outer s H E hr => ?_
  refine ⟨_, pss_one (ps_ret (pe_fn (ok_ratio T) (hr.mono (by decide)) T.g_ratio pass0 (pa_cons (pe_op op_mulW (px (pv 0)) (px (pv 1))) (pa_cons (pe_op op_mulW (px (pv 0)) (px (pv 1))) pa_nil)))), ?_⟩
  rintro vs ds r D hv ⟨u, v, rfl, hu, hv', rfl⟩ hq _
  obtain ⟨v0, v1, rfl, h0, h1⟩ := hv.two
  have c1 : CMulW u.1 v.1 := mulC hu.1 hv'.1 (by decide)
  have c3 : CMulW u.2 v.2 := mulC hu.2.2 hv'.2.2 (by decide)
  refine s_retD (K := K) ?_ hq
  exact d_ratio (by walk_at "ev") (Int.mul_pos hu.2.1 hv'.2.1)
theorem sc__law_times : FnScope ["_law_u", "_law_v"] ["_law_u", "_law_v"] (defScope Kd.s__law_times) := ⟨rfl, rfl, rfl, by decide +kernel, rfl, by decide +kernel, by decide +kernel⟩
theorem ok__law_times (T : Tx w K mg) : Ok Pg w K mg base CX0 35 (He.ga K "_law_times") ["_law_u", "_law_v"] (spP K (f2 401000 401000 mulN)) := by
  refine ok_pure T.f__law_times sc__law_times (fun ds r h => by obtain ⟨u, v, rfl, hu, hv', _⟩ := h; rfl) (fun _ _ _ _ _ _ us hl => match us, hl with | [_, _], _ => rfl) fun cdv A outer s H E hr => ?_
  refine ⟨_, pss_one (ps_ret (pe_fn (ok__law_low T) (hr.mono (by decide)) T.g__law_low pass0 (pa_cons (pe_op op_mulW (px (pv 0)) (px (pv 1))) (pa_cons (pe_op op_mulW (px (pv 0)) (px (pv 1))) pa_nil)))), ?_⟩
  rintro vs ds r D hv ⟨u, v, rfl, hu, hv', rfl⟩ hq _
  obtain ⟨v0, v1, rfl, h0, h1⟩ := hv.two
  have c1 : CMulW u.1 v.1 := mulC hu.1 hv'.1 (by decide)
  have c3 : CMulW u.2 v.2 := mulC hu.2.2 hv'.2.2 (by decide)
  refine s_retD (K := K) ?_ hq
  exact d_ratio (by walk_at "ev") (Int.mul_pos hu.2.1 hv'.2.1)
theorem sc_opposite : FnScope ["u"] ["u"] (defScope Kd.s_opposite) := ⟨rfl, rfl, rfl, by decide +kernel, rfl, by decide +kernel, by decide +kernel⟩
theorem ok_opposite (T : Tx w K mg) : Ok Pg w K mg base CX0 1 (He.ga K "opposite") ["u"] (spP K (f1 oppN)) := by
  refine ok_pure T.f_opposite sc_opposite (fun ds r h => by obtain ⟨u, rfl, _⟩ := h; rfl) (fun _ _ _ _ _ _ us hl => match us, hl with | [_], _ => rfl) fun cdv A outer s H E hr => ?_
  refine ⟨_, pss_one (ps_ret (pe_tup (pa_cons (pe_op op_sub pe_int (px (pv 0))) (pa_cons (px (pv 0)) pa_nil)))), ?_⟩
  rintro vs ds r D hv ⟨u, rfl, rfl⟩ hq _
  obtain ⟨v0, rfl, h0⟩ := hv.one
  refine s_retD (K := K) ?_ hq
  exact d_tup2 (by walk_at "ev")
theorem sc_minus : FnScope ["u", "v"] ["u", "v"] (defScope Kd.s_minus) := ⟨rfl, rfl, rfl, by decide +kernel, rfl, by decide +kernel, by decide +kernel⟩
theorem ok_minus (T : Tx w K mg) : Ok Pg w K mg base CX0 36 (He.ga K "minus") ["u", "v"] (spP K (f2 401000 401000 subN)) := by
  refine ok_pure T.f_minus sc_minus (fun ds r h => by obtain ⟨u, v, rfl, hu, hv', _⟩ := h; rfl) (fun _ _ _ _ _ _ us hl => match us, hl with | [_, _], _ => rfl) fun cdv A outer s H E hr => ?_
  refine ⟨_, pss_one (ps_ret (pe_fn (ok_plus T) (hr.mono (by decide)) T.g_plus pass0 (pa_cons (pv 0) (pa_cons (pe_fn (ok_opposite T) (hr.mono (by decide)) T.g_opposite pass0 (pa_cons (pv 1) pa_nil)) pa_nil)))), ?_⟩
  rintro vs ds r D hv ⟨u, v, rfl, hu, hv', rfl⟩ hq _
  obtain ⟨v0, v1, rfl, h0, h1⟩ := hv.two
  have c1 : Sm 401000 (oppN v) := hv'.opp
  refine s_retD (K := K) ?_ hq
  exact d_num (g := addN) (v := oppN v) (ds_cons (d_var h0 rfl) (ds_cons (d_un (g := oppN) (by walk_at "ev") trivial) ds_nil)) hu c1
theorem sc__law_minus : FnScope ["_law_u", "_law_v"] ["_law_u", "_law_v"] (defScope Kd.s__law_minus) := ⟨rfl, rfl, rfl, by decide +kernel, rfl, by decide +kernel, by decide +kernel⟩
theorem ok__law_minus (T : Tx w K mg) : Ok Pg w K mg base CX0 36 (He.ga K "_law_minus") ["_law_u", "_law_v"] (spP K (f2 401000 401000 subN)) := by
  refine ok_pure T.f__law_minus sc__law_minus (fun ds r h => by obtain ⟨u, v, rfl, hu, hv', _⟩ := h; rfl) (fun _ _ _ _ _ _ us hl => match us, hl with | [_, _], _ => rfl) fun cdv A outer s H E hr => ?_
  refine ⟨_, pss_one (ps_ret (pe_fn (ok__law_plus T) (hr.mono (by decide)) T.g__law_plus pass0 (pa_cons (pv 0) (pa_cons (pe_tup (pa_cons (pe_op op_sub pe_int (px (pv 1))) (pa_cons (px (pv 1)) pa_nil))) pa_nil)))), ?_⟩
  rintro vs ds r D hv ⟨u, v, rfl, hu, hv', rfl⟩ hq _
  obtain ⟨v0, v1, rfl, h0, h1⟩ := hv.two
  have c1 : Sm 401000 (oppN v) := hv'.opp
  refine s_retD (K := K) ?_ hq
  exact d_num (g := addN) (v := oppN v) (ds_cons (d_var h0 rfl) (ds_cons (d_tup2 (by walk_at "ev")) ds_nil)) hu c1
theorem sc_added : FnScope ["one", "other"] ["one", "other"] (defScope Kd.s_added) := ⟨rfl, rfl, rfl, by decide +kernel, rfl, by decide +kernel, by decide +kernel⟩
theorem ok_added (T : Tx w K mg) : Ok Pg w K mg base CX0 37 (He.ga K "added") ["one", "other"] (spP K (fPP 401000 401000 addP)) := by
  refine ok_pure T.f_added sc_added (fun ds r h => by obtain ⟨p, q, rfl, ⟨s1, s2⟩, ⟨s3, s4⟩, _⟩ := h; rfl) (fun _ _ _ _ _ _ us hl => match us, hl with | [_, _], _ => rfl) fun cdv A outer s H E hr => ?_
  refine ⟨_, pss_one (ps_ret (pe_tup (pa_cons (pe_fn (ok_plus T) (hr.mono (by decide)) T.g_plus pass0 (pa_cons (px (pv 0)) (pa_cons (px (pv 1)) pa_nil))) (pa_cons (pe_fn (ok_plus T) (hr.mono (by decide)) T.g_plus pass0 (pa_cons (px (pv 0)) (pa_cons (px (pv 1)) pa_nil))) pa_nil)))), ?_⟩
  rintro vs ds r D hv ⟨p, q, rfl, ⟨s1, s2⟩, ⟨s3, s4⟩, rfl⟩ hq _
  obtain ⟨v0, v1, rfl, h0, h1⟩ := hv.two
  refine s_retD (K := K) ?_ hq
  show EvD K _ _ _ (.tuple [nD (addN p.1 q.1), nD (addN p.2 q.2)])
  exact d_tup2 (by walk_at "ev")
theorem sc__law_added : FnScope ["_law_one", "_law_two"] ["_law_one", "_law_two"] (defScope Kd.s__law_added) := ⟨rfl, rfl, rfl, by decide +kernel, rfl, by decide +kernel, by decide +kernel⟩
theorem ok__law_added (T : Tx w K mg) : Ok Pg w K mg base CX0 37 (He.ga K "_law_added") ["_law_one", "_law_two"] (spP K (fPP 401000 401000 addP)) := by
  refine ok_pure T.f__law_added sc__law_added (fun ds r h => by obtain ⟨p, q, rfl, ⟨s1, s2⟩, ⟨s3, s4⟩, _⟩ := h; rfl) (fun _ _ _ _ _ _ us hl => match us, hl with | [_, _], _ => rfl) fun cdv A outer s H E hr => ?_
  refine ⟨_, pss_one (ps_ret (pe_tup (pa_cons (pe_fn (ok__law_plus T) (hr.mono (by decide)) T.g__law_plus pass0 (pa_cons (px (pv 0)) (pa_cons (px (pv 1)) pa_nil))) (pa_cons (pe_fn (ok__law_plus T) (hr.mono (by decide)) T.g__law_plus pass0 (pa_cons (px (pv 0)) (pa_cons (px (pv 1)) pa_nil))) pa_nil)))), ?_⟩
  rintro vs ds r D hv ⟨p, q, rfl, ⟨s1, s2⟩, ⟨s3, s4⟩, rfl⟩ hq _
  obtain ⟨v0, v1, rfl, h0, h1⟩ := hv.two
  refine s_retD (K := K) ?_ hq
  show EvD K _ _ _ (.tuple [nD (addN p.1 q.1), nD (addN p.2 q.2)])
  exact d_tup2 (by walk_at "ev")
theorem sc_lessened : FnScope ["one", "other"] ["one", "other"] (defScope Kd.s_lessened) := ⟨rfl, rfl, rfl, by decide +kernel, rfl, by decide +kernel, by decide +kernel⟩
theorem ok_lessened (T : Tx w K mg) : Ok Pg w K mg base CX0 37 (He.ga K "lessened") ["one", "other"] (spP K (fPP 401000 401000 subP)) := by
  refine ok_pure T.f_lessened sc_lessened (fun ds r h => by obtain ⟨p, q, rfl, ⟨s1, s2⟩, ⟨s3, s4⟩, _⟩ := h; rfl) (fun _ _ _ _ _ _ us hl => match us, hl with | [_, _], _ => rfl) fun cdv A outer s H E hr => ?_
  refine ⟨_, pss_one (ps_ret (pe_tup (pa_cons (pe_fn (ok_minus T) (hr.mono (by decide)) T.g_minus pass0 (pa_cons (px (pv 0)) (pa_cons (px (pv 1)) pa_nil))) (pa_cons (pe_fn (ok_minus T) (hr.mono (by decide)) T.g_minus pass0 (pa_cons (px (pv 0)) (pa_cons (px (pv 1)) pa_nil))) pa_nil)))), ?_⟩
  rintro vs ds r D hv ⟨p, q, rfl, ⟨s1, s2⟩, ⟨s3, s4⟩, rfl⟩ hq _
  obtain ⟨v0, v1, rfl, h0, h1⟩ := hv.two
  refine s_retD (K := K) ?_ hq
  show EvD K _ _ _ (.tuple [nD (subN p.1 q.1), nD (subN p.2 q.2)])
  exact d_tup2 (by walk_at "ev")
theorem sc__law_lessened : FnScope ["_law_one", "_law_two"] ["_law_one", "_law_two"] (defScope Kd.s__law_lessened) := ⟨rfl, rfl, rfl, by decide +kernel, rfl, by decide +kernel, by decide +kernel⟩
theorem ok__law_lessened (T : Tx w K mg) : Ok Pg w K mg base CX0 37 (He.ga K "_law_lessened") ["_law_one", "_law_two"] (spP K (fPP 401000 401000 subP)) := by
  refine ok_pure T.f__law_lessened sc__law_lessened (fun ds r h => by obtain ⟨p, q, rfl, ⟨s1, s2⟩, ⟨s3, s4⟩, _⟩ := h; rfl) (fun _ _ _ _ _ _ us hl => match us, hl with | [_, _], _ => rfl) fun cdv A outer s H E hr => ?_
  refine ⟨_, pss_one (ps_ret (pe_tup (pa_cons (pe_fn (ok__law_minus T) (hr.mono (by decide)) T.g__law_minus pass0 (pa_cons (px (pv 0)) (pa_cons (px (pv 1)) pa_nil))) (pa_cons (pe_fn (ok__law_minus T) (hr.mono (by decide)) T.g__law_minus pass0 (pa_cons (px (pv 0)) (pa_cons (px (pv 1)) pa_nil))) pa_nil)))), ?_⟩
  rintro vs ds r D hv ⟨p, q, rfl, ⟨s1, s2⟩, ⟨s3, s4⟩, rfl⟩ hq _
  obtain ⟨v0, v1, rfl, h0, h1⟩ := hv.two
  refine s_retD (K := K) ?_ hq
  show EvD K _ _ _ (.tuple [nD (subN p.1 q.1), nD (subN p.2 q.2)])
  exact d_tup2 (by walk_at "ev")
theorem sc_scaled : FnScope ["place", "u"] ["place", "u"] (defScope Kd.s_scaled) := ⟨rfl, rfl, rfl, by decide +kernel, rfl, by decide +kernel, by decide +kernel⟩
theorem ok_scaled (T : Tx w K mg) : Ok Pg w K mg base CX0 37 (He.ga K "scaled") ["place", "u"] (spP K (fPN 401000 401000 sclP)) := by
  refine ok_pure T.f_scaled sc_scaled (fun ds r h => by obtain ⟨p, u, rfl, ⟨s1, s2⟩, s3, _⟩ := h; rfl) (fun _ _ _ _ _ _ us hl => match us, hl with | [_, _], _ => rfl) fun cdv A outer s H E hr => ?_
  refine ⟨_, pss_one (ps_ret (pe_tup (pa_cons (pe_fn (ok_times T) (hr.mono (by decide)) T.g_times pass0 (pa_cons (px (pv 0)) (pa_cons (pv 1) pa_nil))) (pa_cons (pe_fn (ok_times T) (hr.mono (by decide)) T.g_times pass0 (pa_cons (px (pv 0)) (pa_cons (pv 1) pa_nil))) pa_nil)))), ?_⟩
  rintro vs ds r D hv ⟨p, u, rfl, ⟨s1, s2⟩, s3, rfl⟩ hq _
  obtain ⟨v0, v1, rfl, h0, h1⟩ := hv.two
  refine s_retD (K := K) ?_ hq
  show EvD K _ _ _ (.tuple [nD (mulN p.1 u), nD (mulN p.2 u)])
  exact d_tup2 (by walk_at "ev")
theorem sc__law_scaled : FnScope ["_law_place", "_law_u"] ["_law_place", "_law_u"] (defScope Kd.s__law_scaled) := ⟨rfl, rfl, rfl, by decide +kernel, rfl, by decide +kernel, by decide +kernel⟩
theorem ok__law_scaled (T : Tx w K mg) : Ok Pg w K mg base CX0 37 (He.ga K "_law_scaled") ["_law_place", "_law_u"] (spP K (fPN 401000 401000 sclP)) := by
  refine ok_pure T.f__law_scaled sc__law_scaled (fun ds r h => by obtain ⟨p, u, rfl, ⟨s1, s2⟩, s3, _⟩ := h; rfl) (fun _ _ _ _ _ _ us hl => match us, hl with | [_, _], _ => rfl) fun cdv A outer s H E hr => ?_
  refine ⟨_, pss_one (ps_ret (pe_tup (pa_cons (pe_fn (ok__law_times T) (hr.mono (by decide)) T.g__law_times pass0 (pa_cons (px (pv 0)) (pa_cons (pv 1) pa_nil))) (pa_cons (pe_fn (ok__law_times T) (hr.mono (by decide)) T.g__law_times pass0 (pa_cons (px (pv 0)) (pa_cons (pv 1) pa_nil))) pa_nil)))), ?_⟩
  rintro vs ds r D hv ⟨p, u, rfl, ⟨s1, s2⟩, s3, rfl⟩ hq _
  obtain ⟨v0, v1, rfl, h0, h1⟩ := hv.two
  refine s_retD (K := K) ?_ hq
  show EvD K _ _ _ (.tuple [nD (mulN p.1 u), nD (mulN p.2 u)])
  exact d_tup2 (by walk_at "ev")
def fPq (b : Nat) (g : Pl → Pl → Nu) : List PyData → PyData → Prop := fun ds r => ∃ p q : Pl, ds = [pD p, pD q] ∧ SmP b p ∧ SmP b q ∧ r = nD (g p q)
theorem sc_dot : FnScope ["one", "other"] ["one", "other"] (defScope Kd.s_dot) := ⟨rfl, rfl, rfl, by decide +kernel, rfl, by decide +kernel, by decide +kernel⟩
theorem ok_dot (T : Tx w K mg) : Ok Pg w K mg base CX0 37 (He.ga K "dot") ["one", "other"] (spP K (fPq 200000 dotN)) := by
  refine ok_pure T.f_dot sc_dot (fun ds r h => by obtain ⟨p, q, rfl, ⟨a1, a2⟩, ⟨a3, a4⟩, _⟩ := h; rfl) (fun _ _ _ _ _ _ us hl => match us, hl with | [_, _], _ => rfl) fun cdv A outer s H E hr => ?_
  refine ⟨_, pss_one (ps_ret (pe_fn (ok_plus T) (hr.mono (by decide)) T.g_plus pass0 (pa_cons (pe_fn (ok_times T) (hr.mono (by decide)) T.g_times pass0 (pa_cons (px (pv 0)) (pa_cons (px (pv 1)) pa_nil))) (pa_cons (pe_fn (ok_times T) (hr.mono (by decide)) T.g_times pass0 (pa_cons (px (pv 0)) (pa_cons (px (pv 1)) pa_nil))) pa_nil)))), ?_⟩
  rintro vs ds r D hv ⟨p, q, rfl, ⟨a1, a2⟩, ⟨a3, a4⟩, rfl⟩ hq _
  obtain ⟨v0, v1, rfl, h0, h1⟩ := hv.two
  have s1 := a1.mono (b := 401000) (by decide)
  have s2 := a2.mono (b := 401000) (by decide)
  have s3 := a3.mono (b := 401000) (by decide)
  have s4 := a4.mono (b := 401000) (by decide)
  have m1 : Sm 401000 (mulN p.1 q.1) := (a1.mul a3).mono (by decide)
  have m2 : Sm 401000 (mulN p.2 q.2) := (a2.mul a4).mono (by decide)
  refine s_retD (K := K) ?_ hq
  exact d_num (g := addN) (u := mulN p.1 q.1) (v := mulN p.2 q.2) (by walk_at "ev") m1 m2
end
end Kx

set_option Elab.async false
set_option linter.all false
set_option maxRecDepth 100000
set_option maxHeartbeats 4000000
namespace Kx
open PySem PySem.Spec PyProof.Rows L2 Evl

local macro_rules | `(tactic| walk_at "ev") => `(tactic| first
  | exact d_int | exact d_str | exact d_bl | exact d_non | exact ds_nil
  | exact d_vint rfl | exact d_var (by assumption) rfl
  | (apply ds_cons <;> walk_at "ev")
  | (apply d_tup2 <;> walk_at "ev")
  | (apply d_ix <;> walk_at "ev")
  | (apply d_ii <;> walk_at "ev")
  | (apply d_iC <;> walk_at "ev")
  | (apply d_ib <;> walk_at "ev")
  | (apply d_abs <;> walk_at "ev")
  | (apply d_num <;> walk_at "ev")
  | (apply d_un <;> walk_at "ev")
  | (apply d_pls <;> walk_at "ev")
  | (apply d_pn <;> walk_at "ev")
  | assumption | rfl)

/-! ### square roots of naturals, downwards -/
def isq : Nat → Nat
  | 0 => 0
  | n + 1 => if (isq n + 1) * (isq n + 1) ≤ n + 1 then isq n + 1 else isq n
theorem isq_ok : ∀ n, isq n * isq n ≤ n ∧ n < (isq n + 1) * (isq n + 1)
  | 0 => by decide
  | n + 1 => by
    obtain ⟨h1, h2⟩ := isq_ok n
    unfold isq
    split
    · rename_i h
      refine ⟨h, ?_⟩
      have : (isq n + 1 + 1) * (isq n + 1 + 1) = (isq n + 1) * (isq n + 1) + 2 * (isq n + 1) + 1 := by
        rw [Nat.add_mul, Nat.mul_add]; omega
      omega
    · exact ⟨by omega, by omega⟩
theorem sq_lt {a b : Nat} (h : a * a < b * b) : a < b := by
  rcases Nat.lt_or_ge a b with q | q
  · exact q
  · have := Nat.mul_le_mul q q
    omega
theorem isq_uniq {n r : Nat} (h1 : r * r ≤ n) (h2 : n < (r + 1) * (r + 1)) : isq n = r := by
  obtain ⟨a, b⟩ := isq_ok n
  have x : isq n < r + 1 := sq_lt (Nat.lt_of_le_of_lt a h2)
  have y : r < isq n + 1 := sq_lt (Nat.lt_of_le_of_lt h1 b)
  omega
theorem isq_le (n : Nat) : isq n ≤ n := by
  obtain ⟨a, _⟩ := isq_ok n
  rcases Nat.eq_zero_or_pos (isq n) with h | h
  · omega
  · have := Nat.le_mul_of_pos_left (isq n) h
    omega
/-- a root that is too great comes nearer, but not below -/
theorem newton_ge {n s : Nat} (hs : 0 < s) : isq n ≤ (s + n / s) / 2 := by
  obtain ⟨a, _⟩ := isq_ok n
  generalize isq n = r at a
  have h : 2 * r - s ≤ n / s := by
    rw [Nat.le_div_iff_mul_le hs]
    refine Nat.le_trans ?_ a
    rcases Nat.le_total s (2 * r) with q | q
    · have e : ((2 * r - s : Nat) : Int) = 2 * r - s := by omega
      have : (((2 * r - s) * s : Nat) : Int) ≤ ((r * r : Nat) : Int) := by
        rw [Int.natCast_mul, e, Int.natCast_mul]
        have z : (0 : Int) ≤ ((r : Int) - s) * ((r : Int) - s) := by
          rcases Int.le_total (r : Int) s with w | w
          · exact Int.mul_nonneg_of_nonpos_of_nonpos (by omega) (by omega)
          · exact Int.mul_nonneg (by omega) (by omega)
        have e2 : ((r : Int) - s) * ((r : Int) - s) = r * r - 2 * r * s + s * s := by
          rw [Int.sub_mul, Int.mul_sub, Int.mul_sub, Int.mul_comm (s : Int) r, Int.mul_assoc]; omega
        have e3 : (2 * (r : Int) - s) * s = 2 * r * s - s * s := by rw [Int.sub_mul]
        omega
      exact Int.ofNat_le.mp this
    · have e : 2 * r - s = 0 := by omega
      rw [e, Nat.zero_mul]; omega
  omega
theorem newton_end {n s : Nat} (hs : 0 < s) (hr : isq n ≤ s) (h : s ≤ (s + n / s) / 2) : isq n = s := by
  have q : s ≤ n / s := by omega
  rw [Nat.le_div_iff_mul_le hs] at q
  obtain ⟨_, b⟩ := isq_ok n
  have := sq_lt (Nat.lt_of_le_of_lt q b)
  omega
/-- a square, and its root -/
def isSq (i : Int) : Bool := decide (0 ≤ i) && decide (isq i.toNat * isq i.toNat = i.toNat)
def rootD (u : Nu) : PyData := if u.1 < 0 then .none else if isSq u.1 = true ∧ isSq u.2 = true then nD (isq u.1.toNat, isq u.2.toNat) else .none
def headP (p q : Int) : Pl := (rat (q * q - p * p) (p * p + q * q), rat (2 * p * q) (p * p + q * q))
theorem sq_nn (p : Int) : 0 ≤ p * p := by
  rcases Int.le_total 0 p with h | h
  · exact Int.mul_nonneg h h
  · exact Int.mul_nonneg_of_nonpos_of_nonpos h h
theorem sqs_pos {p q : Int} (h : ¬ (p = 0 ∧ q = 0)) : 0 < p * p + q * q := by
  have a := sq_nn p
  have b := sq_nn q
  rcases Int.lt_or_le 0 (p * p + q * q) with z | z
  · exact z
  · have hp : p * p = 0 := by omega
    have hq : q * q = 0 := by omega
    exact absurd ⟨by rcases Int.mul_eq_zero.mp hp with x | x <;> exact x, by rcases Int.mul_eq_zero.mp hq with x | x <;> exact x⟩ h
def fHead : List PyData → PyData → Prop := fun ds r => ∃ p q : Int, ds = [.int p, .int q] ∧ ¬ (p = 0 ∧ q = 0) ∧ p.natAbs < 128 ∧ q.natAbs < 128 ∧ r = pD (headP p q)
def fSide : List PyData → PyData → Prop := fun ds r => ∃ n : Nat, ds = [.int (n : Int)] ∧ n < 2 ^ 410000 ∧ r = .int (isq n : Int)
def fRoot : List PyData → PyData → Prop := fun ds r => ∃ u : Nu, ds = [nD u] ∧ Sm 410000 u ∧ r = rootD u
def fDist : List PyData → PyData → Prop := fun ds r => ∃ p q : Pl, ds = [pD p, pD q] ∧ SmP 50000 p ∧ SmP 50000 q ∧ r = rootD (dotN (subP p q) (subP p q))
section
variable {K : PySem.W.Frag} {σ : L2.St} {H : Hp} {D : Ends} {tz : TS} {te : TE} {a b : PyData}
theorem q_two {i j : Nat} (h : EvD K te σ H (.tuple [a, b])) (k : ∀ v w H1, Ex H H1 → Dt K H1 v a → Dt K H1 w b → tz D ((σ.set i (some v)).set j (some w)) H1) :
    tSeq (tAsg te (gTup K 2 (gCons (gName i) (gCons (gName j) gNil)))) tz D σ H := h H (Ex.refl H) _ fun v H1 e hd => by
  obtain ⟨p, xs, rfl, hs, hl⟩ := hd.tup_eq
  obtain ⟨x, y, rfl, hx, hy⟩ := hl.two
  exact ⟨p, _, rfl, hs, rfl, x, [y], rfl, y, [], rfl, rfl, k x y H1 e hx hy⟩
theorem d_head {tA : TA} {E : XK} {p q : Int} (h : EvDs K tA σ H [.int p, .int q]) (h0 : ¬ (p = 0 ∧ q = 0)) (hp : p.natAbs < 128) (hq : q.natAbs < 128) : EvD K (tCall (spP K fHead) [] E tA) σ H (pD (headP p q)) := d_call h ⟨p, q, rfl, h0, hp, hq, rfl⟩
end
theorem ne_ev {d e : PyData} {K : PySem.W.Frag} {ta tb : TE} {σ : L2.St} {H : Hp} (ha : EvD K ta σ H d) (hb : EvD K tb σ H e) (s1 : SeqAt.shaped d = true) (s2 : SeqAt.shaped e = true) : EvD K (tOp (rNeD K) ta tb) σ H (.bool (!PyData.eqv d e)) := fun H1 x Q q =>
  ha H1 x _ fun v H2 y hv => hb H2 (x.trans y) _ fun u H3 z hu => ⟨d, e, (hv.ex z).dp, hu.dp, s1, s2, q (.bl _) H3 (y.trans z) (.bl _)⟩
theorem eq_ev {d e : PyData} {K : PySem.W.Frag} {ta tb : TE} {σ : L2.St} {H : Hp} (ha : EvD K ta σ H d) (hb : EvD K tb σ H e) (s1 : SeqAt.shaped d = true) (s2 : SeqAt.shaped e = true) : EvD K (tOp (rEqD K) ta tb) σ H (.bool (PyData.eqv d e)) := fun H1 x Q q =>
  ha H1 x _ fun v H2 y hv => hb H2 (x.trans y) _ fun u H3 z hu => ⟨d, e, (hv.ex z).dp, hu.dp, s1, s2, q (.bl _) H3 (y.trans z) (.bl _)⟩
section
variable {w : World} {K : PySem.W.Frag} {mg : Str → Option Value} {base : Heap}
theorem sc_heading_of : FnScope ["p", "q", "both"] ["p", "q"] (defScope Kd.s_heading_of) := ⟨rfl, rfl, rfl, by decide +kernel, rfl, by decide +kernel, by decide +kernel⟩
theorem ok_heading_of (T : Tx w K mg) : Ok Pg w K mg base CX0 35 (He.ga K "heading_of") ["p", "q"] (spP K fHead) := by
  refine ok_pure T.f_heading_of sc_heading_of (fun ds r ⟨a, b, h, _⟩ => by rw [h]; rfl) (fun _ _ _ _ _ _ us hl => match us, hl with | [_, _], _ => rfl) fun cdv A outer s H E hr => ?_
  refine ⟨_, (pss_cons (ps_if (PW.pt (pw_and (pt_cmpR op_eq (pv 0) pe_int (nomark _)) (pw_and1 (pt_cmpR op_eq (pv 1) pe_int (nomark _))))) (pss_one ps_never) pss_nil) (pss_cons (ps_set (i := 2) sc_heading_of.nd rfl (Or.inl rfl) (pe_op op_add (pe_op op_mulW (pv 0) (pv 0)) (pe_op op_mulW (pv 1) (pv 1)))) (pss_one (ps_ret (pe_tup (pa_cons (pe_fn (ok_ratio T) (hr.mono (by decide)) T.g_ratio pass0 (pa_cons (pe_op op_sub (pe_op op_mulW (pv 1) (pv 1)) (pe_op op_mulW (pv 0) (pv 0))) (pa_cons (pv 2) pa_nil))) (pa_cons (pe_fn (ok_ratio T) (hr.mono (by decide)) T.g_ratio pass0 (pa_cons (pe_op op_mulW (pe_op op_mulW pe_int (pv 0)) (pv 1)) (pa_cons (pv 2) pa_nil))) pa_nil))))))), ?_⟩
  rintro vs ds r D hv ⟨p, q, rfl, h0, hp, hq, rfl⟩ hk _
  obtain ⟨v0, v1, rfl, x0, x1⟩ := hv.two
  rw [x0.int_eq, x1.int_eq]
  have hp' : p.natAbs < 2 ^ 7 := hp
  have hq' : q.natAbs < 2 ^ 7 := hq
  have h2 : (2 : Int).natAbs < 2 ^ 2 := by decide
  have c1 : CMulW p p := mulC hp' hp' (by decide)
  have c2 : CMulW q q := mulC hq' hq' (by decide)
  have c3 : CMulW 2 p := mulC h2 hp' (by decide)
  have c4 : CMulW (2 * p) q := mulC (mul_lt h2 hp') hq' (by decide)
  have pos := sqs_pos h0
  refine q_when (b := decide (p = 0) && decide (q = 0)) (et_and (t_test (K := K) (d_eqI (d_vint rfl) d_int)) fun _ => t_test (K := K) (d_eqI (d_vint rfl) d_int)) (fun hb => ?_) fun _ H0 e0 => ?_
  · rw [Bool.and_eq_true] at hb
    exact absurd ⟨of_decide_eq_true hb.1, of_decide_eq_true hb.2⟩ h0
  refine q_asgD (K := K) (d := .int (p * p + q * q)) (by walk_at "ev") fun v H1 e1 hv => ?_
  rw [hv.int_eq]
  refine s_retD (K := K) (d := pD (headP p q)) ?_ fun v H2 e2 hd => hk v H2 ((e0.trans e1).trans e2) hd
  exact d_tup2 (ds_cons (d_ratio (by walk_at "ev") pos) (ds_cons (d_ratio (by walk_at "ev") pos) ds_nil))
theorem sc__law_heading : FnScope ["_law_p", "_law_q", "_law_both_here"] ["_law_p", "_law_q"] (defScope Kd.s__law_heading) := ⟨rfl, rfl, rfl, by decide +kernel, rfl, by decide +kernel, by decide +kernel⟩
theorem ok__law_heading (T : Tx w K mg) : Ok Pg w K mg base CX0 35 (He.ga K "_law_heading") ["_law_p", "_law_q"] (spP K fHead) := by
  refine ok_pure T.f__law_heading sc__law_heading (fun ds r ⟨a, b, h, _⟩ => by rw [h]; rfl) (fun _ _ _ _ _ _ us hl => match us, hl with | [_, _], _ => rfl) fun cdv A outer s H E hr => ?_
  refine ⟨_, ((pss_cons (ps_set (i := 2) sc__law_heading.nd rfl (Or.inl rfl) (pe_op op_add (pe_op op_mulW (pv 0) (pv 0)) (pe_op op_mulW (pv 1) (pv 1)))) (pss_one (ps_ret (pe_tup (pa_cons (pe_fn (ok__law_low T) (hr.mono (by decide)) T.g__law_low pass0 (pa_cons (pe_op op_sub (pe_op op_mulW (pv 1) (pv 1)) (pe_op op_mulW (pv 0) (pv 0))) (pa_cons (pv 2) pa_nil))) (pa_cons (pe_fn (ok__law_low T) (hr.mono (by decide)) T.g__law_low pass0 (pa_cons (pe_op op_mulW (pe_op op_mulW pe_int (pv 0)) (pv 1)) (pa_cons (pv 2) pa_nil))) pa_nil))))))), ?_⟩
  rintro vs ds r D hv ⟨p, q, rfl, h0, hp, hq, rfl⟩ hk _
  obtain ⟨v0, v1, rfl, x0, x1⟩ := hv.two
  rw [x0.int_eq, x1.int_eq]
  have hp' : p.natAbs < 2 ^ 7 := hp
  have hq' : q.natAbs < 2 ^ 7 := hq
  have h2 : (2 : Int).natAbs < 2 ^ 2 := by decide
  have c1 : CMulW p p := mulC hp' hp' (by decide)
  have c2 : CMulW q q := mulC hq' hq' (by decide)
  have c3 : CMulW 2 p := mulC h2 hp' (by decide)
  have c4 : CMulW (2 * p) q := mulC (mul_lt h2 hp') hq' (by decide)
  have pos := sqs_pos h0
  have e0 := Ex.refl H
  refine q_asgD (K := K) (d := .int (p * p + q * q)) (by walk_at "ev") fun v H1 e1 hv => ?_
  rw [hv.int_eq]
  refine s_retD (K := K) (d := pD (headP p q)) ?_ fun v H2 e2 hd => hk v H2 ((e0.trans e1).trans e2) hd
  exact d_tup2 (ds_cons (d_ratio (by walk_at "ev") pos) (ds_cons (d_ratio (by walk_at "ev") pos) ds_nil))
theorem sc_turned : FnScope ["place", "by", "x", "y", "c", "s"] ["place", "by"] (defScope Kd.s_turned) := ⟨rfl, rfl, rfl, by decide +kernel, rfl, by decide +kernel, by decide +kernel⟩
theorem ok_turned (T : Tx w K mg) : Ok Pg w K mg base CX0 37 (He.ga K "turned") ["place", "by"] (spP K (fPP 200000 1000 trnP)) := by
  refine ok_pure T.f_turned sc_turned (fun ds r ⟨a, b, h, _⟩ => by rw [h]; rfl) (fun _ _ _ _ _ _ us hl => match us, hl with | [_, _], _ => rfl) fun cdv A outer s H E hr => ?_
  refine ⟨_, pss_cons (ps_asg (pv 0) (pg_tup (by rfl) (pgs_cons (pg_name (i := 2) sc_turned.nd rfl (.inl rfl)) (pgs_cons (pg_name (i := 3) sc_turned.nd rfl (.inl rfl)) pgs_nil))))
    (pss_cons (ps_asg (pv 1) (pg_tup (by rfl) (pgs_cons (pg_name (i := 4) sc_turned.nd rfl (.inl rfl)) (pgs_cons (pg_name (i := 5) sc_turned.nd rfl (.inl rfl)) pgs_nil))))
    (pss_one (ps_ret (pe_tup (pa_cons (pe_fn (ok_minus T) (hr.mono (by decide)) T.g_minus pass0 (pa_cons (pe_fn (ok_times T) (hr.mono (by decide)) T.g_times pass0 (pa_cons (pv 2) (pa_cons (pv 4) pa_nil))) (pa_cons (pe_fn (ok_times T) (hr.mono (by decide)) T.g_times pass0 (pa_cons (pv 3) (pa_cons (pv 5) pa_nil))) pa_nil))) (pa_cons (pe_fn (ok_plus T) (hr.mono (by decide)) T.g_plus pass0 (pa_cons (pe_fn (ok_times T) (hr.mono (by decide)) T.g_times pass0 (pa_cons (pv 2) (pa_cons (pv 5) pa_nil))) (pa_cons (pe_fn (ok_times T) (hr.mono (by decide)) T.g_times pass0 (pa_cons (pv 3) (pa_cons (pv 4) pa_nil))) pa_nil))) pa_nil)))))), ?_⟩
  rintro vs ds r D hv ⟨p, q, rfl, ⟨a1, a2⟩, ⟨a3, a4⟩, rfl⟩ hk _
  obtain ⟨v0, v1, rfl, x0, x1⟩ := hv.two
  have s1 := a1.mono (b := 401000) (by decide)
  have s2 := a2.mono (b := 401000) (by decide)
  have s3 := a3.mono (b := 401000) (by decide)
  have s4 := a4.mono (b := 401000) (by decide)
  have m1 : Sm 401000 (mulN p.1 q.1) := (a1.mul a3).mono (by decide)
  have m2 : Sm 401000 (mulN p.2 q.2) := (a2.mul a4).mono (by decide)
  have m3 : Sm 401000 (mulN p.1 q.2) := (a1.mul a4).mono (by decide)
  have m4 : Sm 401000 (mulN p.2 q.1) := (a2.mul a3).mono (by decide)
  refine q_two (d_var x0 rfl) fun v2 v3 H1 e1 x2 x3 => ?_
  refine q_two (d_var (x1.ex e1) rfl) fun v4 v5 H2 e2 x4 x5 => ?_
  replace x2 := x2.ex e2
  replace x3 := x3.ex e2
  refine s_retD (K := K) ?_ fun v H3 e3 hd => hk v H3 ((e1.trans e2).trans e3) hd
  show EvD K _ _ _ (.tuple [nD (subN (mulN p.1 q.1) (mulN p.2 q.2)), nD (addN (mulN p.1 q.2) (mulN p.2 q.1))])
  exact d_tup2 (by walk_at "ev")
theorem sc__law_turned : FnScope ["_law_place", "_law_by_here", "_law_x"] ["_law_place", "_law_by_here"] (defScope Kd.s__law_turned) := ⟨rfl, rfl, rfl, by decide +kernel, rfl, by decide +kernel, by decide +kernel⟩
theorem ok__law_turned (T : Tx w K mg) : Ok Pg w K mg base CX0 37 (He.ga K "_law_turned") ["_law_place", "_law_by_here"] (spP K (fPP 200000 1000 trnP)) := by
  refine ok_pure T.f__law_turned sc__law_turned (fun ds r ⟨a, b, h, _⟩ => by rw [h]; rfl) (fun _ _ _ _ _ _ us hl => match us, hl with | [_, _], _ => rfl) fun cdv A outer s H E hr => ?_
  refine ⟨_, pss_cons (ps_set (i := 2) sc__law_turned.nd rfl (Or.inl rfl) (pe_fn (ok__law_minus T) (hr.mono (by decide)) T.g__law_minus pass0 (pa_cons (pe_fn (ok__law_times T) (hr.mono (by decide)) T.g__law_times pass0 (pa_cons (px (pv 0)) (pa_cons (px (pv 1)) pa_nil))) (pa_cons (pe_fn (ok__law_times T) (hr.mono (by decide)) T.g__law_times pass0 (pa_cons (px (pv 0)) (pa_cons (px (pv 1)) pa_nil))) pa_nil)))) (pss_one (ps_ret (pe_tup (pa_cons (pv 2) (pa_cons (pe_fn (ok__law_plus T) (hr.mono (by decide)) T.g__law_plus pass0 (pa_cons (pe_fn (ok__law_times T) (hr.mono (by decide)) T.g__law_times pass0 (pa_cons (px (pv 0)) (pa_cons (px (pv 1)) pa_nil))) (pa_cons (pe_fn (ok__law_times T) (hr.mono (by decide)) T.g__law_times pass0 (pa_cons (px (pv 0)) (pa_cons (px (pv 1)) pa_nil))) pa_nil))) pa_nil))))), ?_⟩
  rintro vs ds r D hv ⟨p, q, rfl, ⟨a1, a2⟩, ⟨a3, a4⟩, rfl⟩ hk _
  obtain ⟨v0, v1, rfl, x0, x1⟩ := hv.two
  have s1 := a1.mono (b := 401000) (by decide)
  have s2 := a2.mono (b := 401000) (by decide)
  have s3 := a3.mono (b := 401000) (by decide)
  have s4 := a4.mono (b := 401000) (by decide)
  have m1 : Sm 401000 (mulN p.1 q.1) := (a1.mul a3).mono (by decide)
  have m2 : Sm 401000 (mulN p.2 q.2) := (a2.mul a4).mono (by decide)
  have m3 : Sm 401000 (mulN p.1 q.2) := (a1.mul a4).mono (by decide)
  have m4 : Sm 401000 (mulN p.2 q.1) := (a2.mul a3).mono (by decide)
  refine q_asgD (K := K) (d := nD (subN (mulN p.1 q.1) (mulN p.2 q.2))) (by walk_at "ev") fun v2 H1 e1 x2 => ?_
  replace x0 := x0.ex e1
  replace x1 := x1.ex e1
  refine s_retD (K := K) ?_ fun v H3 e3 hd => hk v H3 (e1.trans e3) hd
  show EvD K _ _ _ (.tuple [nD (subN (mulN p.1 q.1) (mulN p.2 q.2)), nD (addN (mulN p.1 q.2) (mulN p.2 q.1))])
  exact d_tup2 (by walk_at "ev")
end
end Kx

set_option Elab.async false
set_option linter.all false
set_option maxRecDepth 100000
set_option maxHeartbeats 4000000
namespace Kx
open PySem PySem.Spec PyProof.Rows L2 Evl
local macro_rules | `(tactic| walk_at "ev") => `(tactic| first
  | exact d_int | exact d_str | exact d_bl | exact d_non | exact ds_nil
  | exact d_vint rfl | exact d_var (by assumption) rfl
  | (apply ds_cons <;> walk_at "ev")
  | (apply d_tup2 <;> walk_at "ev")
  | (apply d_ix <;> walk_at "ev")
  | (apply d_ii <;> walk_at "ev")
  | (apply d_iC <;> walk_at "ev")
  | (apply d_ib <;> walk_at "ev")
  | (apply d_abs <;> walk_at "ev")
  | (apply d_num <;> walk_at "ev")
  | (apply d_un <;> walk_at "ev")
  | (apply d_pls <;> walk_at "ev")
  | (apply d_pn <;> walk_at "ev")
  | assumption | rfl)
section
variable {X : Cx} {x : Str} {pos : Pos}
/-- a name of the module: an object, a number -/
theorem pgl {a : Addr} (hm : X.mg x = some (.ref a)) (hg : Gl X x := by rfl) (hd : (x == ("__debug__" : Str)) = false := by decide) : PE X (.Name x pos) (tC (.ref a)) := pe_glob (v := .ref a) hg hm rfl hd
theorem pgi {n : Int} (hm : ∃ t, X.mg x = some (.int n t)) (hg : Gl X x := by rfl) (hd : (x == ("__debug__" : Str)) = false := by decide) : PE X (.Name x pos) (tC (.int n)) := let ⟨t, h⟩ := hm; pe_glob (v := .int n) hg h ⟨t, rfl⟩ hd
end
theorem d_bits {K : PySem.W.Frag} {σ : L2.St} {H : Hp} {ta : TE} {i : Int} (h : EvD K ta σ H (.int i)) : EvD K (tBits ta) σ H (.int (Builtin.Int.intBits i : Nat)) := d_of (fun H1 e Q q => h.int H1 e _ fun H2 e2 => ⟨i, rfl, q H2 e2⟩) (.int _)
def isN : PyData → Bool
  | .none => true
  | _ => false
theorem d_notN {K : PySem.W.Frag} {σ : L2.St} {H : Hp} {ta tb : TE} {d : PyData} (h : EvD K ta σ H d) (h2 : EvD K tb σ H .none) : EvD K (tOp (fun x y H Q => y = .non ∧ Q (.bl (!decide (x = .non))) H) ta tb) σ H (.bool (!isN d)) := fun H1 e Q q =>
  h H1 e _ fun v H2 e2 hv => h2 H2 (e.trans e2) _ fun u H3 e3 hu => by
    refine ⟨hu.none_eq, ?_⟩
    have : decide (v = .non) = isN d := by cases hv <;> rfl
    rw [this]
    exact q _ H3 (e2.trans e3) (.bl _)
local macro_rules | `(tactic| walk_at "ev") => `(tactic| first | (apply d_neI <;> walk_at "ev") | (apply d_bits <;> walk_at "ev"))
theorem lt_bits (n : Nat) : n < 2 ^ Builtin.Int.intBits (n : Int) := by
  unfold Builtin.Int.intBits
  split
  · rename_i h
    have : n = 0 := by
      have := beq_iff_eq.mp h
      omega
    subst this
    decide
  · exact Nat.lt_log2_self
theorem first_side (n : Nat) : isq n < 2 ^ ((Builtin.Int.intBits (n : Int) + 1) / 2) := by
  refine sq_lt (Nat.lt_of_le_of_lt (isq_ok n).1 (Nat.lt_of_lt_of_le (lt_bits n) ?_))
  rw [← Nat.pow_add]
  exact Nat.pow_le_pow_right (by decide) (by omega)
theorem isq_pos {n : Nat} (h : 2 ≤ n) : 0 < isq n := by
  rcases Nat.eq_zero_or_pos (isq n) with z | z
  · have := (isq_ok n).2
    rw [z] at this
    omega
  · exact z
section
variable {w : World} {K : PySem.W.Frag} {mg : Str → Option Value} {base : Heap}
theorem Tx.d_NOUGHT (T : Tx w K mg) (H : Hp) : Dt K H (.ref (He.ga K "NOUGHT")) (nD (0, 1)) := by
  have z := T.more
  unfold Kd.ex at z
  exact .tup (He.tupB_ok (He.ba z).1 H) (.cons (.int 0) (.cons (.int 1) .nil))
theorem Tx.d_CORNER (T : Tx w K mg) (H : Hp) : Dt K H (.ref (He.ga K "CORNER")) (pD ((0, 1), (0, 1))) := by
  have z := T.more
  unfold Kd.ex at z
  exact .tup (He.tupB_ok (He.ba (He.ba z).2).1 H) (.cons (T.d_NOUGHT H) (.cons (T.d_NOUGHT H) .nil))
theorem sc_side_of : FnScope ["square", "side", "closer"] ["square"] (defScope Kd.s_side_of) := ⟨rfl, rfl, rfl, by decide +kernel, rfl, by decide +kernel, by decide +kernel⟩
theorem cast_closer (n s : Nat) : ((s : Int) + (n : Int) / (s : Int)) / 2 = (((s + n / s) / 2 : Nat) : Int) := by
  rw [← Int.natCast_ediv, ← Int.natCast_add]
  omega
theorem ok_side_of (T : Tx w K mg) : Ok Pg w K mg base CX0 34 (He.ga K "side_of") ["square"] (spP K fSide) := by
  refine ok_pure T.f_side_of sc_side_of (fun ds r ⟨a, h, _⟩ => by rw [h]; rfl) (fun _ _ _ _ _ _ us hl => match us, hl with | [_], _ => rfl) fun cdv A outer s H E hr => ?_
  refine ⟨_, pss_cons (ps_if (pt_cmpR op_lt (pv 0) pe_int (nomark _)) (pss_one (ps_ret (pv 0))) pss_nil)
    (pss_cons (ps_set (i := 1) sc_side_of.nd rfl (Or.inl rfl) (pe_op op_shl pe_int (pe_op (op_fdivP T hr) (pe_op op_add (pe_bits (pv 0)) pe_int) pe_int)))
    (pss_cons (ps_set (i := 2) sc_side_of.nd rfl (Or.inl rfl) (pe_op (op_fdivP T hr) (pe_op op_add (pv 1) (pe_op (op_fdivP T hr) (pv 0) (pv 1))) pe_int))
    (pss_cons (ps_while PassesOwn.never (pt_cmpR op_lt (pv 2) (pv 1) (nomark _)) (pss_cons (ps_set (i := 1) sc_side_of.nd rfl (Or.inl rfl) (pv 2)) (pss_one (ps_set (i := 2) sc_side_of.nd rfl (Or.inl rfl) (pe_op (op_fdivP T hr) (pe_op op_add (pv 1) (pe_op (op_fdivP T hr) (pv 0) (pv 1))) pe_int)))))
    (pss_one (ps_ret (pv 1)))))), ?_⟩
  rintro vs ds r D hv ⟨n, rfl, hn, rfl⟩ hk _
  obtain ⟨v0, rfl, x0⟩ := hv.one
  rw [x0.int_eq]
  have two : (0 : Int) < 2 := by decide
  refine q_when (b := decide ((n : Int) < 2)) (t_test (K := K) (by walk_at "ev")) (fun hb H1 e1 => ?_) fun hb H1 e1 => ?_
  · have h2 : n < 2 := by have := of_decide_eq_true hb; omega
    have e : isq n = n := by
      rcases (show n = 0 ∨ n = 1 by omega) with z | z <;> subst z <;> decide
    refine s_retD (K := K) (d := .int (n : Int)) (d_vint rfl) fun v H2 e2 hd => hk v H2 (e1.trans e2) ?_
    rw [e]
    exact hd
  · have h2 : 2 ≤ n := by have := of_decide_eq_false hb; omega
    have hbit : Builtin.Int.intBits (n : Int) ≤ 410000 := PyProof.Rows.intBits_le (by simpa using hn)
    have cp : CPow 1 (((Builtin.Int.intBits (n : Int) : Nat) + 1 : Int) / 2) := ⟨by omega, by omega, by decide⟩
    refine q_asgD (K := K) (d := .int ((2 ^ ((Builtin.Int.intBits (n : Int) + 1) / 2) : Nat) : Int)) ?_ fun v H2 e2 hv => ?_
    · refine EvD.is (d := .int (1 * 2 ^ ((((Builtin.Int.intBits (n : Int) : Nat) : Int) + 1) / 2).toNat)) (by walk_at "ev") ?_
      have e : ((((Builtin.Int.intBits (n : Int) : Nat) : Int) + 1) / 2).toNat = (Builtin.Int.intBits (n : Int) + 1) / 2 := by omega
      rw [e, Int.one_mul, Int.natCast_pow]
      rfl
    · rw [hv.int_eq]
      have hs0 := first_side n
      generalize 2 ^ ((Builtin.Int.intBits (n : Int) + 1) / 2) = s0 at hs0
      have hs1 : (0 : Int) < (s0 : Int) := by omega
      refine q_asgD (K := K) (d := .int (((s0 + n / s0) / 2 : Nat) : Int)) (by rw [← cast_closer]; walk_at "ev") fun v H3 e3 hv => ?_
      rw [hv.int_eq]
      refine q_while (fun m σ' H' => ∃ s : Nat, σ' = [some (.int (n : Int)), some (.int (s : Int)), some (.int (((s + n / s) / 2 : Nat) : Int))] ∧ Ex H H' ∧ isq n ≤ s ∧ s = m) s0 ⟨s0, rfl, (e1.trans e2).trans e3, by omega, rfl⟩ ?_
      rintro m σ' H' ⟨s, rfl, e4, hs, rfl⟩
      have ip := isq_pos h2
      have hsp : 0 < s := by omega
      refine ⟨decide ((((s + n / s) / 2 : Nat) : Int) < (s : Int)), t_test (K := K) (by walk_at "ev"), fun hy H5 e5 => ?_, fun hy H5 e5 => ?_⟩
      · have hc : (s + n / s) / 2 < s := by have := of_decide_eq_true hy; omega
        have hg := newton_ge (n := n) hsp
        generalize (s + n / s) / 2 = c at hc hg
        have hcp : (0 : Int) < (c : Int) := by omega
        refine ⟨fun σ2 H2' => ∃ s' : Nat, σ2 = [some (.int (n : Int)), some (.int (s' : Int)), some (.int (((s' + n / s') / 2 : Nat) : Int))] ∧ Ex H H2' ∧ isq n ≤ s' ∧ s' < s, fun σ2 H2' ⟨s', z1, z2, z3, z4⟩ => ⟨s', z4, s', z1, z2, z3, rfl⟩, ?_⟩
        refine q_asgD (K := K) (d := .int (c : Int)) (d_vint rfl) fun v H6 e6 hv => ?_
        rw [hv.int_eq]
        refine s_asgD (K := K) (d := .int (((c + n / c) / 2 : Nat) : Int)) (by rw [← cast_closer]; walk_at "ev") fun v H7 e7 hv => ?_
        rw [hv.int_eq]
        exact ⟨c, rfl, ((e4.trans e5).trans e6).trans e7, hg, hc⟩
      · have hc : s ≤ (s + n / s) / 2 := by have := of_decide_eq_false hy; omega
        have e := newton_end hsp hs hc
        refine s_retD (K := K) (d := .int (s : Int)) (d_vint rfl) fun v H6 e6 hd => hk v H6 ((e4.trans e5).trans e6) ?_
        rw [e]
        exact hd
theorem d_side {σ : L2.St} {H : Hp} {tA : TA} {E : XK} {i : Int} (h : EvDs K tA σ H [.int i]) (h0 : 0 ≤ i) (hb : i.natAbs < 2 ^ 410000) : EvD K (tCall (spP K fSide) [] E tA) σ H (.int (isq i.toNat : Int)) := d_call h ⟨i.toNat, by rw [Int.toNat_of_nonneg h0], by omega, rfl⟩
theorem sc_root : FnScope ["u", "top", "bottom"] ["u"] (defScope Kd.s_root) := ⟨rfl, rfl, rfl, by decide +kernel, rfl, by decide +kernel, by decide +kernel⟩
theorem isq_bits {i : Int} {b : Nat} (h : i.natAbs < 2 ^ b) : ((isq i.toNat : Nat) : Int).natAbs < 2 ^ b := by
  have := isq_le i.toNat
  omega
theorem ne_sq (i : Int) (h : 0 ≤ i) : (!decide (((isq i.toNat : Nat) : Int) * ((isq i.toNat : Nat) : Int) = i)) = !isSq i := by
  unfold isSq
  rw [decide_eq_true h, Bool.true_and]
  congr 1
  have : (((isq i.toNat : Nat) : Int) * ((isq i.toNat : Nat) : Int) = i) ↔ (isq i.toNat * isq i.toNat = i.toNat) := by
    rw [← Int.natCast_mul]
    omega
  simp only [this]
theorem ok_root (T : Tx w K mg) : Ok Pg w K mg base CX0 35 (He.ga K "root") ["u"] (spP K fRoot) := by
  refine ok_pure T.f_root sc_root (fun ds r ⟨a, h, _⟩ => by rw [h]; rfl) (fun _ _ _ _ _ _ us hl => match us, hl with | [_], _ => rfl) fun cdv A outer s H E hr => ?_
  refine ⟨_, pss_cons (ps_if (pt_cmpR op_lt (px (pv 0)) pe_int (nomark _)) (pss_one (ps_ret pe_non)) pss_nil)
    (pss_cons (ps_par (i := 1) (j := 2) rfl sc_root.nd rfl rfl (by decide) rfl rfl (pa_cons (pe_fn (ok_side_of T) (hr.mono (by decide)) T.g_side_of pass0 (pa_cons (px (pv 0)) pa_nil)) (pa_cons (pe_fn (ok_side_of T) (hr.mono (by decide)) T.g_side_of pass0 (pa_cons (px (pv 0)) pa_nil)) pa_nil)) (by rfl))
    (pss_cons (ps_if (PW.pt (pw_or (pt_cmpR op_ne (pe_op op_mulW (pv 1) (pv 1)) (px (pv 0)) (nomark _)) (pw_or1 (pt_cmpR op_ne (pe_op op_mulW (pv 2) (pv 2)) (px (pv 0)) (nomark _))))) (pss_one (ps_ret pe_non)) pss_nil)
    (pss_one (ps_ret (pe_tup (pa_cons (pv 1) (pa_cons (pv 2) pa_nil))))))), ?_⟩
  rintro vs ds r D hv ⟨u, rfl, hu, rfl⟩ hk _
  obtain ⟨v0, rfl, x0⟩ := hv.one
  unfold rootD at hk
  refine q_when (b := decide (u.1 < 0)) (t_test (K := K) (by walk_at "ev")) (fun hb H1 e1 => ?_) fun hb H1 e1 => ?_
  · refine s_retD (K := K) (d := .none) d_non fun v H2 e2 hd => hk v H2 (e1.trans e2) ?_
    rw [if_pos (of_decide_eq_true hb)]
    exact hd
  · have h1 : ¬ u.1 < 0 := of_decide_eq_false hb
    have h2 := hu.2.1
    replace x0 := x0.ex e1
    rw [if_neg h1] at hk
    refine q_parD (K := K) (a := .int (isq u.1.toNat : Int)) (b := .int (isq u.2.toNat : Int)) (ds_cons (d_side (by walk_at "ev") (by omega) hu.1) (ds_cons (d_side (by walk_at "ev") (by omega) hu.2.2) ds_nil)) fun v v' H2 e2 hv hv' => ?_
    rw [hv.int_eq, hv'.int_eq]
    replace x0 := x0.ex e2
    have b1 := isq_bits hu.1
    have b2 := isq_bits hu.2.2
    have c1 : CMulW (isq u.1.toNat : Int) (isq u.1.toNat : Int) := mulC b1 b1 (by decide)
    have c2 : CMulW (isq u.2.toNat : Int) (isq u.2.toNat : Int) := mulC b2 b2 (by decide)
    refine q_when (b := (!isSq u.1) || (!isSq u.2)) ?_ (fun hb H3 e3 => ?_) fun hb H3 e3 => ?_
    · rw [← ne_sq u.1 (by omega), ← ne_sq u.2 (by omega)]
      exact et_or (t_test (K := K) (by walk_at "ev")) fun _ => t_test (K := K) (by walk_at "ev")
    · refine s_retD (K := K) (d := .none) d_non fun v H4 e4 hd => hk v H4 (((e1.trans e2).trans e3).trans e4) ?_
      rw [if_neg (fun z => by rw [z.1, z.2] at hb; cases hb)]
      exact hd
    · refine s_retD (K := K) (d := nD (isq u.1.toNat, isq u.2.toNat)) (d_tup2 (by walk_at "ev")) fun v H4 e4 hd => hk v H4 (((e1.trans e2).trans e3).trans e4) ?_
      rw [Bool.or_eq_false_iff] at hb
      rw [if_pos ⟨by simpa using hb.1, by simpa using hb.2⟩]
      exact hd
theorem sc_distance : FnScope ["one", "other", "apart"] ["one", "other"] (defScope Kd.s_distance) := ⟨rfl, rfl, rfl, by decide +kernel, rfl, by decide +kernel, by decide +kernel⟩
theorem SmP.sub {a b : Nat} {p q : Pl} (h : SmP a p) (g : SmP b q) : SmP (a + b + 1) (subP p q) := ⟨h.1.sub g.1, h.2.sub g.2⟩
theorem SmP.dot {a b : Nat} {p q : Pl} (h : SmP a p) (g : SmP b q) : Sm (a + b + (a + b) + 1) (dotN p q) := (h.1.mul g.1).add (h.2.mul g.2)
theorem ok_distance (T : Tx w K mg) : Ok Pg w K mg base CX0 38 (He.ga K "distance") ["one", "other"] (spP K fDist) := by
  refine ok_pure T.f_distance sc_distance (fun ds r ⟨a, b, h, _⟩ => by rw [h]; rfl) (fun _ _ _ _ _ _ us hl => match us, hl with | [_, _], _ => rfl) fun cdv A outer s H E hr => ?_
  refine ⟨_, pss_cons (ps_set (i := 2) sc_distance.nd rfl (Or.inl rfl) (pe_fn (ok_lessened T) (hr.mono (by decide)) T.g_lessened pass0 (pa_cons (pv 0) (pa_cons (pv 1) pa_nil))))
    (pss_one (ps_ret (pe_fn (ok_root T) (hr.mono (by decide)) T.g_root pass0 (pa_cons (pe_fn (ok_dot T) (hr.mono (by decide)) T.g_dot pass0 (pa_cons (pv 2) (pa_cons (pv 2) pa_nil))) pa_nil)))), ?_⟩
  rintro vs ds r D hv ⟨p, q, rfl, hp, hq, rfl⟩ hk _
  obtain ⟨v0, v1, rfl, x0, x1⟩ := hv.two
  have s1 : Sm 401000 p.1 := hp.1.mono (by decide)
  have s2 : Sm 401000 p.2 := hp.2.mono (by decide)
  have s3 : Sm 401000 q.1 := hq.1.mono (by decide)
  have s4 : Sm 401000 q.2 := hq.2.mono (by decide)
  have ha : SmP 100001 (subP p q) := SmP.mono (hp.sub hq) (by decide)
  refine q_asgD (K := K) (d := pD (subP p q)) (by walk_at "ev") fun v H1 e1 x2 => ?_
  refine s_retD (K := K) (d := rootD (dotN (subP p q) (subP p q))) ?_ fun v H2 e2 hd => hk v H2 (e1.trans e2) hd
  exact d_call (ds_cons (d_call (d := nD (dotN (subP p q) (subP p q))) (ds_cons (d_var x2 rfl) (ds_cons (d_var x2 rfl) ds_nil)) ⟨_, _, rfl, ha.mono (by decide), ha.mono (by decide), rfl⟩) ds_nil) ⟨_, rfl, (ha.dot ha).mono (by decide), rfl⟩
theorem sc_is_far : FnScope ["one", "other", "far"] ["one", "other"] (defScope Kd.s_is_far) := ⟨rfl, rfl, rfl, by decide +kernel, rfl, by decide +kernel, by decide +kernel⟩
/-- whether a square's root is a number above 0 -/
def farN (u : Nu) : Bool := decide (0 < u.1) && (isSq u.1 && isSq u.2)
def fFar : List PyData → PyData → Prop := fun ds r => ∃ p q : Pl, ds = [pD p, pD q] ∧ SmP 50000 p ∧ SmP 50000 q ∧ r = .bool (farN (dotN (subP p q) (subP p q)))
theorem gcd_zero_pos {b : Int} (h : 0 < b) : gcdI 0 b = b := by
  unfold gcdI
  rw [Int.gcd_zero_left]
  omega
theorem rat_zero {t b : Int} (hb : 0 < b) (h : (rat t b).1 = 0) : (rat t b).2 = 1 := by
  have g := gcdI_pos (a := t) hb
  have d1 : gcdI t b ∣ t := Int.gcd_dvd_left t b
  have e : t = 0 := by
    have z : t / gcdI t b = 0 := h
    rw [← Int.ediv_mul_cancel d1, z, Int.zero_mul]
  show b / gcdI t b = 1
  rw [e, gcd_zero_pos hb]
  exact Int.ediv_self (by omega)
theorem isq_zero {n : Nat} (h : isq n = 0) : n = 0 := by
  have := (isq_ok n).2
  rw [h] at this
  omega
theorem shaped_nD (u : Nu) : SeqAt.shaped (nD u) = true := rfl
theorem far_eq {u : Nu} (hu : 0 ≤ u.1) (hz : u.1 = 0 → u.2 = 1) : farN u = (!isN (rootD u) && (!PyData.eqv (rootD u) (nD (0, 1)))) := by
  unfold farN rootD
  rw [if_neg (by omega)]
  by_cases h : isSq u.1 = true ∧ isSq u.2 = true
  · rw [if_pos h, h.1, h.2]
    show (decide (0 < u.1) && true) = (!false && !(PyData.eqvAll [.int (isq u.1.toNat : Int), .int (isq u.2.toNat : Int)] [.int 0, .int 1]))
    show (decide (0 < u.1) && true) = (!false && !((((isq u.1.toNat : Nat) : Int) == 0) && ((((isq u.2.toNat : Nat) : Int) == 1) && true)))
    by_cases z : u.1 = 0
    · rw [z, hz z]
      decide
    · have q : isq u.1.toNat ≠ 0 := fun q => z (by have := isq_zero q; omega)
      have e1 : (((isq u.1.toNat : Nat) : Int) == 0) = false := by simpa using (show ((isq u.1.toNat : Nat) : Int) ≠ 0 by omega)
      rw [e1, decide_eq_true (by omega : 0 < u.1)]
      rfl
  · rw [if_neg h]
    show _ = (!true && _)
    cases h1 : isSq u.1 <;> cases h2 : isSq u.2 <;> simp_all
theorem mul_nn (u : Nu) (h : 0 < u.2) : 0 ≤ (mulN u u).1 := Int.ediv_nonneg (sq_nn _) (Int.le_of_lt (gcdI_pos (Int.mul_pos h h)))
theorem mul_dp {u v : Nu} (h : 0 < u.2) (g : 0 < v.2) : 0 < (mulN u v).2 := Int.ediv_pos_of_pos_of_dvd (Int.mul_pos h g) (by have := gcdI_pos (a := u.1 * v.1) (Int.mul_pos h g); omega) (Int.gcd_dvd_right _ _)
theorem dot_nn {p : Pl} (h1 : 0 < p.1.2) (h2 : 0 < p.2.2) : 0 ≤ (dotN p p).1 ∧ ((dotN p p).1 = 0 → (dotN p p).2 = 1) := by
  have a := mul_nn p.1 h1
  have b := mul_nn p.2 h2
  have c := mul_dp h1 h1
  have d := mul_dp h2 h2
  refine ⟨Int.ediv_nonneg (Int.add_nonneg (Int.mul_nonneg a (Int.le_of_lt d)) (Int.mul_nonneg b (Int.le_of_lt c))) (Int.le_of_lt (gcdI_pos (Int.mul_pos c d))), rat_zero (Int.mul_pos c d)⟩
theorem ok_is_far (T : Tx w K mg) : Ok Pg w K mg base CX0 39 (He.ga K "is_far") ["one", "other"] (spP K fFar) := by
  refine ok_pure T.f_is_far sc_is_far (fun ds r ⟨a, b, h, _⟩ => by rw [h]; rfl) (fun _ _ _ _ _ _ us hl => match us, hl with | [_, _], _ => rfl) fun cdv A outer s H E hr => ?_
  refine ⟨_, pss_cons (ps_set (i := 2) sc_is_far.nd rfl (Or.inl rfl) (pe_fn (ok_distance T) (hr.mono (by decide)) T.g_distance pass0 (pa_cons (pv 0) (pa_cons (pv 1) pa_nil))))
    (pss_one (ps_ret (pe_and (pe_cmpR op_notN (pv 2) pe_non (nomark _)) (pe_one (pe_cmpR (op_neD hr.units) (pv 2) (pgl T.g_NOUGHT) (nomark _)))))), ?_⟩
  rintro vs ds r D hv ⟨p, q, rfl, hp, hq, rfl⟩ hk _
  obtain ⟨v0, v1, rfl, x0, x1⟩ := hv.two
  have ha : SmP 100001 (subP p q) := SmP.mono (hp.sub hq) (by decide)
  obtain ⟨nn, nz⟩ := dot_nn ha.1.2.1 ha.2.2.1
  refine q_asgD (K := K) (d := rootD (dotN (subP p q) (subP p q))) (d_call (ds_cons (d_var x0 rfl) (ds_cons (d_var x1 rfl) ds_nil)) ⟨p, q, rfl, hp, hq, rfl⟩) fun v H1 e1 x2 => ?_
  rw [far_eq nn nz] at hk
  have sh : SeqAt.shaped (rootD (dotN (subP p q) (subP p q))) = true := by
    unfold rootD
    split
    · rfl
    · split <;> rfl
  refine s_retD (K := K) ?_ fun v H2 e2 hd => hk v H2 (e1.trans e2) hd
  exact d_andV (d_notN (d_var x2 rfl) d_non) fun _ => ne_ev (d_var x2 rfl) (d_const (T.d_NOUGHT _)) sh rfl
end
end Kx

set_option Elab.async false
set_option linter.all false
set_option maxRecDepth 100000
set_option maxHeartbeats 4000000
namespace Kx
open PySem PySem.Spec PyProof.Rows L2 Evl
local macro_rules | `(tactic| walk_at "ev") => `(tactic| first
  | exact d_int | exact d_str | exact d_bl | exact d_non | exact ds_nil
  | exact d_vint rfl | exact d_var (by assumption) rfl
  | (apply ds_cons <;> walk_at "ev")
  | (apply d_tup2 <;> walk_at "ev")
  | (apply d_ix <;> walk_at "ev")
  | (apply d_ii <;> walk_at "ev")
  | (apply d_iC <;> walk_at "ev")
  | (apply d_ib <;> walk_at "ev")
  | (apply d_abs <;> walk_at "ev")
  | (apply d_num <;> walk_at "ev")
  | (apply d_un <;> walk_at "ev")
  | (apply d_pls <;> walk_at "ev")
  | (apply d_pn <;> walk_at "ev")
  | assumption | rfl)
local macro_rules | `(tactic| walk_at "ev") => `(tactic| first | (apply d_neI <;> walk_at "ev") | (apply d_bits <;> walk_at "ev"))
section
variable {w : World} {K : PySem.W.Frag} {mg : Str → Option Value} {base : Heap}
theorem sc__law_is_far : FnScope ["_law_one", "_law_two", "_law_apart", "_law_square", "_law_part", "_law_low_here", "_law_high", "_law_middle"] ["_law_one", "_law_two"] (defScope Kd.s__law_is_far) := ⟨rfl, rfl, rfl, by decide +kernel, rfl, by decide +kernel, by decide +kernel⟩
def fFarL : List PyData → PyData → Prop := fun ds r => ∃ p q : Pl, ds = [pD p, pD q] ∧ SmP 50000 p ∧ SmP 50000 q ∧ r = .bool (farN (dotN (subP q p) (subP q p)))
theorem sq_mono {a b : Nat} (h : a ≤ b) : a * a ≤ b * b := Nat.mul_le_mul h h
theorem ok__law_is_far (T : Tx w K mg) : Ok Pg w K mg base CX0 39 (He.ga K "_law_is_far") ["_law_one", "_law_two"] (spP K fFarL) := by
  refine ok_pure T.f__law_is_far sc__law_is_far (fun ds r ⟨a, b, h, _⟩ => by rw [h]; rfl) (fun _ _ _ _ _ _ us hl => match us, hl with | [_, _], _ => rfl) fun cdv A outer s H E hr => ?_
  have nd := sc__law_is_far.nd
  refine ⟨_, pss_cons (ps_set (i := 2) nd rfl (Or.inl rfl) (pe_fn (ok__law_lessened T) (hr.mono (by decide)) T.g__law_lessened pass0 (pa_cons (pv 1) (pa_cons (pv 0) pa_nil))))
    (pss_cons (ps_set (i := 3) nd rfl (Or.inl rfl) (pe_fn (ok__law_plus T) (hr.mono (by decide)) T.g__law_plus pass0 (pa_cons (pe_fn (ok__law_times T) (hr.mono (by decide)) T.g__law_times pass0 (pa_cons (px (pv 2)) (pa_cons (px (pv 2)) pa_nil)))
      (pa_cons (pe_fn (ok__law_times T) (hr.mono (by decide)) T.g__law_times pass0 (pa_cons (px (pv 2)) (pa_cons (px (pv 2)) pa_nil))) pa_nil))))
    (pss_cons (ps_for PassesOwn.never rfl (pi_tup (pv 3)) (pg_name (i := 4) nd rfl (Or.inl rfl))
      (pss_cons (ps_asg (pe_tup (pa_cons pe_int (pa_cons pe_int pa_nil))) (pg_tup (by rfl) (pgs_cons (pg_name (i := 5) nd rfl (.inl rfl)) (pgs_cons (pg_name (i := 6) nd rfl (.inl rfl)) pgs_nil))))
      (pss_cons (ps_while PassesOwn.never (pt_cmpR op_le (pe_op op_mulW (pv 6) (pv 6)) (pv 4) (nomark _)) (pss_one (ps_set (i := 6) nd rfl (Or.inl rfl) (pe_op op_mulW (pv 6) pe_int))))
      (pss_cons (ps_while PassesOwn.never (pt_cmpR op_gt (pe_op op_sub (pv 6) (pv 5)) pe_int (nomark _))
        (pss_cons (ps_set (i := 7) nd rfl (Or.inl rfl) (pe_op op_fdiv (pe_op op_add (pv 5) (pv 6)) pe_int))
        (pss_one (ps_if (pt_cmpR op_le (pe_op op_mulW (pv 7) (pv 7)) (pv 4) (nomark _)) (pss_one (ps_set (i := 5) nd rfl (Or.inl rfl) (pv 7))) (pss_one (ps_set (i := 6) nd rfl (Or.inl rfl) (pv 7)))))))
      (pss_one (ps_if (pt_cmpR op_ne (pe_op op_mulW (pv 5) (pv 5)) (pv 4) (nomark _)) (pss_one (ps_ret pe_bl)) pss_nil))))))
    (pss_one (ps_ret (pe_cmpR op_gt (px (pv 3)) pe_int (nomark _)))))), ?_⟩
  rintro vs ds r D hv ⟨p, q, rfl, hp, hq, rfl⟩ hk _
  obtain ⟨v0, v1, rfl, x0, x1⟩ := hv.two
  have s1 : Sm 401000 p.1 := hp.1.mono (by decide)
  have s2 : Sm 401000 p.2 := hp.2.mono (by decide)
  have s3 : Sm 401000 q.1 := hq.1.mono (by decide)
  have s4 : Sm 401000 q.2 := hq.2.mono (by decide)
  have ha : SmP 100001 (subP q p) := SmP.mono (hq.sub hp) (by decide)
  have hdot : Sm 410000 (dotN (subP q p) (subP q p)) := (ha.dot ha).mono (by decide)
  obtain ⟨nn, nz⟩ := dot_nn ha.1.2.1 ha.2.2.1
  refine q_asgD (K := K) (d := pD (subP q p)) (by walk_at "ev") fun v2 H1 e1 x2 => ?_
  generalize subP q p = a at *
  have t1 : Sm 401000 a.1 := ha.1.mono (by decide)
  have t2 : Sm 401000 a.2 := ha.2.mono (by decide)
  have m1 : Sm 401000 (mulN a.1 a.1) := (ha.1.mul ha.1).mono (by decide)
  have m2 : Sm 401000 (mulN a.2 a.2) := (ha.2.mul ha.2).mono (by decide)
  refine q_asgD (K := K) (d := nD (dotN a a)) (d_num (g := addN) (u := mulN a.1 a.1) (v := mulN a.2 a.2) (by walk_at "ev") m1 m2) fun v3 H2 e2 x3 => ?_
  generalize dotN a a = u at *
  obtain ⟨b, xs, rfl, hs, hl⟩ := x3.tup_eq
  obtain ⟨y0, y1, rfl, z0, z1⟩ := hl.two
  rw [z0.int_eq, z1.int_eq] at hs
  have items : ∀ i x, ([V.int u.1, V.int u.2] : List V)[i]? = some x → ∃ n : Nat, x = .int (n : Int) ∧ n < 2 ^ 410000 ∧ ((i = 0 ∧ (n : Int) = u.1) ∨ (i = 1 ∧ (n : Int) = u.2)) := by
    intro i x hx
    have h1 := hdot.1
    have h2 := hdot.2.1
    have h3 := hdot.2.2
    match i, hx with
    | 0, hx => exact ⟨u.1.toNat, by cases hx; rw [Int.toNat_of_nonneg nn], by omega, .inl ⟨rfl, Int.toNat_of_nonneg nn⟩⟩
    | 1, hx => exact ⟨u.2.toNat, by cases hx; rw [Int.toNat_of_nonneg (by omega)], by omega, .inr ⟨rfl, Int.toNat_of_nonneg (by omega)⟩⟩
    | i + 2, hx => simp at hx
  refine q_forT (K := K) (xs := [V.int u.1, V.int u.2]) (ev_var rfl) hs (fun i σ' H' => ∃ o4 o5 o6 o7 : Option V, σ' = [some v0, some v1, some v2, some (.ref b), o4, o5, o6, o7] ∧ Ex H2 H' ∧ (1 ≤ i → isSq u.1 = true) ∧ (2 ≤ i → isSq u.2 = true)) (fun H3 e3 => ⟨none, none, none, none, rfl, e3, fun h => by omega, fun h => by omega⟩)
    (fun i σ' H' _ ⟨_, _, _, _, _, e, _⟩ => ex_t e hs) ?_ ?_
  · rintro i x σ' H' hx ⟨o4, o5, o6, o7, rfl, e3, k1, k2⟩
    obtain ⟨n, rfl, hn, hi⟩ := items i x hx
    show (tSeq _ _) _ ([some v0, some v1, some v2, some (V.ref b), some (V.int (n : Int)), o5, o6, o7] : L2.St) H'
    refine q_two (K := K) (a := .int 0) (b := .int 1) (d_tup2 (by walk_at "ev")) fun w5 w6 H3 e4 h5 h6 => ?_
    rw [h5.int_eq, h6.int_eq]
    show (tSeq _ _) _ ([some v0, some v1, some v2, some (V.ref b), some (V.int (n : Int)), some (V.int 0), some (V.int 1), o7] : L2.St) H3
    have nb : ∀ h : Nat, h ≤ 2 * n + 1 → ((h : Nat) : Int).natAbs < 2 ^ 410002 := fun h hh => by
      have : 2 ^ 410002 = 2 ^ 410000 * 4 := by rw [show (410002 : Nat) = 410000 + 2 from rfl, Nat.pow_add]
      rw [this]
      omega
    have cm : ∀ h : Nat, h ≤ 2 * n + 1 → CMulW (h : Int) (h : Int) := fun h hh => mulC (nb h hh) (nb h hh) (by decide)
    -- the upper end
    refine q_while (fun m σ' H' => ∃ h : Nat, σ' = [some v0, some v1, some v2, some (V.ref b), some (V.int (n : Int)), some (V.int 0), some (V.int (h : Int)), o7] ∧ Ex H2 H' ∧ 1 ≤ h ∧ h ≤ 2 * n + 1 ∧ m = 2 * n + 1 - h) (2 * n) ⟨1, rfl, e3.trans e4, by omega, by omega, by omega⟩ ?_
    rintro m σ' H' ⟨h, rfl, e5, h1, h2, rfl⟩
    have c1 := cm h h2
    refine ⟨decide ((h : Int) * (h : Int) ≤ (n : Int)), t_test (K := K) (by walk_at "ev"), fun hy H5 e6 => ?_, fun hy H5 e6 => ?_⟩
    · have hle : h * h ≤ n := by have := of_decide_eq_true hy; rw [← Int.natCast_mul] at this; omega
      have hn' : h ≤ n := by have := Nat.le_mul_of_pos_left h h1; omega
      have c2 : CMulW (h : Int) 2 := mulC (nb h h2) (show (2 : Int).natAbs < 2 ^ 2 by decide) (by decide)
      refine ⟨fun σ2 H2' => ∃ h' : Nat, σ2 = [some v0, some v1, some v2, some (V.ref b), some (V.int (n : Int)), some (V.int 0), some (V.int (h' : Int)), o7] ∧ Ex H2 H2' ∧ 1 ≤ h' ∧ h' ≤ 2 * n + 1 ∧ h < h', fun σ2 H2' ⟨h', z1, z2, z3, z4, z5⟩ => ⟨2 * n + 1 - h', by omega, h', z1, z2, z3, z4, rfl⟩, ?_⟩
      refine s_asgD (K := K) (d := .int ((h : Int) * 2)) (by walk_at "ev") fun v H6 e7 hv => ?_
      rw [hv.int_eq]
      exact ⟨h * 2, by simp, (e5.trans e6).trans e7, by omega, by omega, by omega⟩
    · have hgt : n < h * h := by have := of_decide_eq_false hy; rw [← Int.natCast_mul] at this; omega
      -- nearer from both sides
      refine q_while (fun m σ' H' => ∃ (lo hi : Nat) (o7 : Option V), σ' = [some v0, some v1, some v2, some (V.ref b), some (V.int (n : Int)), some (V.int (lo : Int)), some (V.int (hi : Int)), o7] ∧ Ex H2 H' ∧ lo < hi ∧ hi ≤ 2 * n + 1 ∧ lo * lo ≤ n ∧ n < hi * hi ∧ hi - lo = m) h ⟨0, h, o7, rfl, e5.trans e6, by omega, h2, by omega, hgt, by omega⟩ ?_
      rintro m σ' H' ⟨lo, hi, o7, rfl, e7, g1, g2, g3, g4, rfl⟩
      refine ⟨decide ((1 : Int) < (hi : Int) - (lo : Int)), t_test (K := K) (d_ib (f := fun i j => decide (j < i)) (by walk_at "ev") d_int), fun hy H6 e8 => ?_, fun hy H6 e8 => ?_⟩
      · have hgap : lo + 1 < hi := by have := of_decide_eq_true hy; omega
        refine ⟨fun σ2 H2' => ∃ (lo' hi' : Nat) (o7 : Option V), σ2 = [some v0, some v1, some v2, some (V.ref b), some (V.int (n : Int)), some (V.int (lo' : Int)), some (V.int (hi' : Int)), o7] ∧ Ex H2 H2' ∧ lo' < hi' ∧ hi' ≤ 2 * n + 1 ∧ lo' * lo' ≤ n ∧ n < hi' * hi' ∧ hi' - lo' < hi - lo,
          fun σ2 H2' ⟨lo', hi', o, z1, z2, z3, z4, z5, z6, z7⟩ => ⟨hi' - lo', z7, lo', hi', o, z1, z2, z3, z4, z5, z6, rfl⟩, ?_⟩
        have cd : CDiv ((lo : Int) + (hi : Int)) 2 := ⟨by decide, by decide⟩
        refine q_asgD (K := K) (d := .int (((lo : Int) + (hi : Int)) / 2)) (by walk_at "ev") fun v H7 e9 hv => ?_
        rw [hv.int_eq]
        obtain ⟨mi, em⟩ : ∃ mi : Nat, ((lo : Int) + (hi : Int)) / 2 = (mi : Int) := ⟨(lo + hi) / 2, by omega⟩
        have b1 : lo < mi := by omega
        have b2 : mi < hi := by omega
        rw [em]
        have c3 := cm mi (by omega)
        show (tIfS _ _ _) _ ([some v0, some v1, some v2, some (V.ref b), some (V.int (n : Int)), some (V.int (lo : Int)), some (V.int (hi : Int)), some (V.int (mi : Int))] : L2.St) H7
        refine s_if (b := decide ((mi : Int) * (mi : Int) ≤ (n : Int))) (t_test (K := K) (by walk_at "ev")) (fun hy H8 e10 => ?_) fun hy H8 e10 => ?_
        · refine s_asgD (K := K) (d := .int (mi : Int)) (d_vint rfl) fun v H9 e11 hv => ?_
          rw [hv.int_eq]
          exact ⟨mi, hi, _, rfl, (((e7.trans e8).trans e9).trans e10).trans e11, b2, g2, by have := of_decide_eq_true hy; rw [← Int.natCast_mul] at this; omega, g4, by omega⟩
        · refine s_asgD (K := K) (d := .int (mi : Int)) (d_vint rfl) fun v H9 e11 hv => ?_
          rw [hv.int_eq]
          exact ⟨lo, mi, _, rfl, (((e7.trans e8).trans e9).trans e10).trans e11, b1, by omega, g3, by have := of_decide_eq_false hy; rw [← Int.natCast_mul] at this; omega, by omega⟩
      · have eh : hi = lo + 1 := by have := of_decide_eq_false hy; omega
        subst eh
        have er := isq_uniq g3 g4
        have c4 := cm lo (by omega)
        have sqn : (!decide ((lo : Int) * (lo : Int) = (n : Int))) = !isSq (n : Int) := by
          have z := ne_sq (n : Int) (by omega)
          rw [Int.toNat_natCast, er] at z
          exact z
        refine s_when (b := !isSq (n : Int)) (by rw [← sqn]; exact t_test (K := K) (by walk_at "ev")) (fun hb H7 e9 => ?_) fun hb H7 e9 => ?_
        · refine s_retD (K := K) (d := .bool false) d_bl fun v H8 e10 hd => hk v H8 (((((e1.trans e2).trans e7).trans e8).trans e9).trans e10) ?_
          have : farN u = false := by
            unfold farN
            rcases hi with ⟨_, z⟩ | ⟨_, z⟩
            · rw [← z]; simp at hb; simp [hb]
            · rw [← z]; simp at hb; simp [hb]
          rw [this]
          exact hd
        · refine ⟨_, _, _, _, rfl, (e7.trans e8).trans e9, fun h1 => ?_, fun h2 => ?_⟩
          · rcases hi with ⟨z0, z⟩ | ⟨z0, z⟩
            · rw [← z]; simpa using hb
            · exact k1 (by omega)
          · rcases hi with ⟨z0, z⟩ | ⟨z0, z⟩
            · omega
            · rw [← z]; simpa using hb
  · rintro σ' H' ⟨o4, o5, o6, o7, rfl, e3, k1, k2⟩
    have x3' : Dt K H' (.ref b) (nD u) := .tup (ex_t e3 hs) (.cons (.int _) (.cons (.int _) .nil))
    refine s_retD (K := K) (d := .bool (decide (0 < u.1))) (d_ib (f := fun i j => decide (j < i)) (by walk_at "ev") d_int) fun v H4 e4 hd => hk v H4 (((e1.trans e2).trans e3).trans e4) ?_
    have : farN u = decide (0 < u.1) := by
      unfold farN
      rw [k1 (by show 1 ≤ 2; omega), k2 (by show 2 ≤ 2; omega)]
      simp
    rw [this]
    exact hd
end
end Kx

set_option Elab.async false
set_option linter.all false
set_option maxRecDepth 100000
set_option maxHeartbeats 4000000
namespace Kx
open PySem PySem.Spec PyProof.Rows L2 Evl HT
/-! ### a tuple turned about: t[::-1] -/
section
variable {prog : Program} {w : World} {A : Around} {E : Value → Shared → Prop} {s : Shared}
theorem places_back (n : Nat) : Builtin.Slice.slicePlaces ((n : Int) - 1) (-1) (-1) = n := by
  unfold Builtin.Slice.slicePlaces
  rw [if_neg (by decide)]
  split
  · rw [show (-(-1) : Int) = 1 by decide, Int.ediv_one]; omega
  · omega
theorem slice_back {sl : Addr} {vs : Value} {n : Nat} {Q : Int × Int × Nat → Shared → Prop} (hS : s.heap.IsSliceOf sl .none .none vs) (ps : IsPart vs (some (-1))) (k : Q ((n : Int) - 1, -1, n) s) :
    wpAny (model prog w) A (Builtin.Slice.sliceApplied (.ref sl) (pure (n : Int))) Q E s := by
  obtain ⟨o1, h1, _, d1⟩ := id hS
  unfold Builtin.Slice.sliceApplied Builtin.Slice.sliceFields
  refine wpAny_bind (wpAny_bind (wpAny_field h1 d1 (x := .none) rfl (wpAny_bind (wpAny_field h1 d1 (x := .none) rfl (wpAny_bind (wpAny_field h1 d1 (x := vs) rfl (wpAny_pure ?_)))))))
  refine wpAny_bind (slicePart_ ps ?_)
  show wpAny _ _ (if ((-1 : Int) == 0) = true then _ else _) _ _ s
  rw [if_neg (by decide)]
  refine wpAny_bind (slicePart_none (wpAny_bind (slicePart_none (wpAny_bind (wpAny_pure ?_)))))
  show wpAny _ _ (pure ((n : Int) - 1, (-1 : Int), Builtin.Slice.slicePlaces ((n : Int) - 1) (-1) (-1))) _ _ s
  rw [places_back]
  exact wpAny_pure k
theorem pick_back (xs : Array Value) : ((List.range xs.size).filterMap fun (m : Nat) => xs[(((xs.size : Int) - 1) + (m : Int) * (-1)).toNat]?).toArray = xs.toList.reverse.toArray := by
  have e : (fun (m : Nat) => xs[(((xs.size : Int) - 1) + (m : Int) * (-1)).toNat]?) = fun m => xs[xs.size - 1 - m]? := by
    funext m
    congr 1
    omega
  rw [e]
  have q : ((List.range xs.size).filterMap fun m => xs[xs.size - 1 - m]?) = ((List.range xs.size).map fun k => xs.size - 1 - k).filterMap (xs[·]?) := by
    rw [List.filterMap_map]; rfl
  rw [q, PySem.W.krv_range, List.filterMap_reverse, PySem.W.krv_all]
theorem getItem_back {t sl : Addr} {items : Array Value} {vs : Value} {Q : Value → Shared → Prop} (hT : IsTup s.heap t items) (hS : s.heap.IsSliceOf sl .none .none vs) (ps : IsPart vs (some (-1)))
    (k : Q (.ref s.heap.objs.size) { s with heap := s.heap.push { cls := .type "tuple", data := .seq items.toList.reverse.toArray } }) (hz : items.size ≤ sizeLine) : wpAny (model prog w) A (getItem (.ref t) (.ref sl)) Q E s := by
  have fits : sizeOk (.seq items.toList.reverse.toArray) := by
    show items.toList.reverse.toArray.size ≤ sizeLine
    rw [List.size_toArray, List.length_reverse, Array.length_toList]; exact hz
  obtain ⟨o1, h1, c1, d1⟩ := id hS
  unfold getItem
  try with_reducible refine wpAny_holding ?_
  first | refine wpAny_bind (wpAny_pure ?_) | skip
  refine wpAny_bind (wpAny_sequenceKey hT.typeIs (by decide) (wpAny_bind (wpAny_callSpecial?_slot (name := Str.ofString "__getitem__") hT.typeIs PyProof.Rows.slot_tuple_getitem
    (wpAny_call_entry PyProof.Rows.slot_tuple_getitem hT.typeIs entry_tuple_getitem ?_ (args_tuple_getitem _ _)))))
  show wpAny _ _ (Builtin.Tuple.tupleItemsOf (.ref t) >>= _) _ _ s
  refine wpAny_bind (tupleItemsOf_ hT (wpAny_bind (wpAny_typeOf (⟨o1, h1, c1⟩ : s.TypeIs (.ref sl) "slice") ?_)))
  rw [if_pos (by decide)]
  refine wpAny_bind (slice_back hS ps ?_)
  have no : ¬ ((((items.size : Int) - 1) == 0 && (-1 : Int) == 1 && items.size == items.size) = true) := by
    rw [show ((-1 : Int) == 1) = false by decide, Bool.and_false, Bool.false_and]
    exact Bool.false_ne_true
  show wpAny _ _ (if (((items.size : Int) - 1) == 0 && (-1 : Int) == 1 && items.size == items.size) = true then _ else _) _ _ s
  rw [if_neg no, pick_back]
  first
    | exact wpAny_bind (m := Builtin.Tuple.tupleExact _) (wpAny_newObj_type (wpAny_pure ⟨_, rfl, wpAny_pure k⟩) fits)
    | exact wpAny_bind (m := Builtin.Tuple.tupleExact _) (wpAny_newObj_type (wpAny_bind (wpAny_pure (wpAny_pure ⟨_, rfl, wpAny_pure k⟩))) fits)
    | exact wpAny_bind (wpAny_bind (m := Builtin.Tuple.tupleExact _) (wpAny_newObj_type (wpAny_pure (wpAny_pure ⟨_, rfl, wpAny_pure k⟩)) fits))
    | exact wpAny_bind (wpAny_bind (m := Builtin.Tuple.tupleExact _) (wpAny_newObj_type (wpAny_pure ⟨_, rfl, wpAny_pure k⟩) fits))
end
def tRevT (K : PySem.W.Frag) (te : TE) : TE := fun σ H Q => te σ H fun x H1 => ∃ a xs, x = .ref a ∧ SqT K H1 a xs ∧ ∀ p, H1 p = none → Q (.ref p) (upd H1 p (.tup xs.reverse))
theorem pe_revT {X : Cx} {te : TE} {e : Expr} {k : Nat} {p1 p2 p3 pos : Pos} (he : PE X e te) : PE X (.Subscript e (.Slice none none (some (.UnaryOp .USub (.Constant (.int 1) k p1) p2)) p3) pos) (tRevT X.K te) := by
  refine ⟨fun pins s σ H Q I h => Subscript_ (thn (he.run pins s σ H _ I h) fun v s1 ⟨x, H1, I1, r1, a, xs, ex, hx, q⟩ => ?_)⟩
  subst ex
  cases r1
  have back : PO X (some (.UnaryOp .USub (.Constant (.int 1) k p1) p2)) (tPart (tUn (rU fun i => .int (-i)) (tC (.int 1)))) := po_some (pe_un un_neg pe_int)
  refine wpAny_Slice (thn (po_none.run pins s1 σ H1 (fun o G => o = none ∧ G = H1) I1 ⟨rfl, rfl⟩) fun vl s2 ⟨l, G, I2, pl, el, eG⟩ => ?_)
  subst el eG
  refine thn (po_none.run pins s2 σ G (fun o G' => o = none ∧ G' = G) I2 ⟨rfl, rfl⟩) fun vu s3 ⟨u, G', I3, pu, eu, eG'⟩ => ?_
  subst eu eG'
  refine thn (back.run pins s3 σ G' (fun o F => o = some (-1) ∧ F = G') I3 ⟨1, rfl, -1, rfl, rfl, rfl⟩) fun vs s4 ⟨o, F, I4, ps, eo, eF⟩ => ?_
  subst eo eF
  cases pl
  cases pu
  have I5 : Inv X pins σ F { s4 with heap := s4.heap.push { cls := .type "slice", data := .fields #[.none, .none, vs] } } := I4.kept (t' := s4.toks) fun b ob z => Heap.get?_push_of_some _ z
  obtain ⟨its, r, hT, hz⟩ := I5.tuple hx
  have hn := r.length
  show wpAny (model X.prog X.w) X.A (subscriptTail e (.Slice none none (some (.UnaryOp .USub (.Constant (.int 1) k p1) p2)) p3) (.ref a) (.ref s4.heap.objs.size)) (EP X pins σ Q) X.xe { s4 with heap := s4.heap.push { cls := .type "slice", data := .fields #[.none, .none, vs] } }
  refine tail_any (ops := [.ref a, .ref s4.heap.objs.size]) hT.typeIs PyProof.Rows.slot_tuple_getitem.lookup ?_ (by with_unfolding_all rfl)
  refine getItem_back hT (Heap.IsSliceOf.new _ .none .none vs) ps ?_ (by rw [List.size_toArray]; omega)
  refine ⟨.ref _, _, I5.laid (t' := s4.toks) (o := .tup xs.reverse) (fun b ob z => Heap.get?_push_of_some _ z) (Nat.le_refl _) ?_, rfl, q _ (I5.hok.fresh (Nat.le_refl _))⟩
  exact ⟨by rw [List.length_reverse]; exact hz, its.reverse, r.reverse, _, Heap.get?_push_size _ rfl, rfl, 0, rfl⟩
theorem d_revT {K : PySem.W.Frag} {σ : L2.St} {H : Hp} {te : TE} {ds : List PyData} (h : EvD K te σ H (.tuple ds)) : EvD K (tRevT K te) σ H (.tuple ds.reverse) := fun H1 e Q q =>
  h H1 e _ fun v H2 e2 hv => by
    obtain ⟨a, xs, rfl, hs, hl⟩ := hv.tup_eq
    exact ⟨a, xs, rfl, hs, fun p hp => q (.ref p) _ (e2.trans (Ex.new hp)) (.tup (SqT.of upd_same) (hl.reverse.ex (Ex.new hp)))⟩
end Kx

set_option Elab.async false
set_option linter.all false
set_option maxRecDepth 100000
set_option maxHeartbeats 4000000
namespace Kx
open PySem PySem.Spec PyProof.Rows L2 Evl
/-! ### new lists, comprehensions, walks of tuples -/
def EvN (K : PySem.W.Frag) (te : TE) (σ : L2.St) (H : Hp) (ds : List PyData) : Prop := ∀ H1, Ex H H1 → ∀ Q : VK, (∀ p xs H2, H1 p = none → Ex H1 H2 → H2 p = some (.lst xs) → DtL K H2 xs ds → Q (.ref p) H2) → te σ H1 Q
section
variable {K : PySem.W.Frag} {σ : L2.St} {H H' : Hp} {te tl ta : TE} {tt : TT} {ds : List PyData} {D : Ends} {tu tz : TS} {tA : TA}
theorem EvN.mono (a : Ex H H') (h : EvN K te σ H ds) : EvN K te σ H' ds := fun H1 b Q q => h H1 (a.trans b) Q q
theorem EvN.is {es : List PyData} (h : EvN K te σ H ds) (e : ds = es) : EvN K te σ H es := e ▸ h
theorem n_lst (ha : EvDs K tA σ H ds) (hl : ds.length ≤ 100000) : EvN K (tLst tA) σ H ds := fun H1 a Q q =>
  ha H1 a _ fun vs H2 b hv => ⟨by rw [hv.len]; exact sz_of hl, fun p hp => q p vs _ (fresh_back b hp) (b.trans (Ex.new hp)) upd_same (hv.ex (Ex.new hp))⟩
theorem d_lenN (h : EvN K ta σ H ds) : EvD K (tCB (rLenS K) (tCons ta tNil)) σ H (.int (ds.length : Int)) := fun H1 a Q q =>
  h H1 a _ fun p xs H2 _ b hp hl => ⟨p, xs, rfl, .inl (sq_of hp), q _ H2 b (by rw [hl.len]; exact .int _)⟩
theorem d_lenT (h : EvD K ta σ H (.tuple ds)) : EvD K (tCB (rLenS K) (tCons ta tNil)) σ H (.int (ds.length : Int)) := fun H1 a Q q =>
  h H1 a _ fun v H2 b hv => by
    obtain ⟨p, xs, rfl, hs, hl⟩ := hv.tup_eq
    exact ⟨p, xs, rfl, .inr hs, q _ H2 b (by rw [hl.len]; exact .int _)⟩
/-- a tuple of a new list -/
def rTup (K : PySem.W.Frag) : List V → Hp → VK → Prop := fun xs H Q => ∃ p ys, xs = [.ref p] ∧ ((SqL K H p ys ∧ ∀ l, H l = none → Q (.ref l) (upd H l (.tup ys))) ∨ (SqT K H p ys ∧ Q (.ref p) H))
theorem d_tupN (h : EvN K ta σ H ds) : EvD K (tCB (rTup K) (tCons ta tNil)) σ H (.tuple ds) := fun H1 a Q q =>
  h H1 a _ fun p xs H2 _ b hp hl => ⟨p, xs, rfl, .inl ⟨sq_of hp, fun l h0 => q (.ref l) _ (b.trans (Ex.new h0)) (.tup (SqT.of upd_same) (hl.ex (Ex.new h0)))⟩⟩
/-- the turns of a comprehension that are gone through -/
theorem take_step {α β : Type} {xs : List α} {i : Nat} {x : α} (h : xs[i]? = some x) (f : α → Bool) (g : α → β) : ((xs.take (i + 1)).filter f).map g = ((xs.take i).filter f).map g ++ (if f x = true then [g x] else []) := by
  rw [List.take_add_one, h, List.filter_append, List.map_append]
  congr 1
  show (([x] : List α).filter f).map g = _
  by_cases q : f x = true
  · rw [if_pos q, List.filter_cons_of_pos q]; rfl
  · rw [if_neg q, List.filter_cons_of_neg q]; rfl
theorem acc_turn {H1 : Hp} {Dl : Addr} {j : Nat} {vs : List Nat} {d : PyData} {x : V} {i : Nat} {H' : Hp} {f : PyData → Bool} {g : PyData → PyData} (hz : ds.length ≤ 50000) (hD : H1 Dl = none) (hd : ds[i]? = some d) (hx : Dt K H' x d)
    (ht : ∀ x d H2, Ex H1 H2 → d ∈ ds → Dt K H2 x d → EvT tt ((wipe σ vs).set j (some x)) H2 (f d)) (he : ∀ x d H2, Ex H1 H2 → d ∈ ds → Dt K H2 x d → f d = true → EvD K te ((wipe σ vs).set j (some x)) H2 (g d))
    (p : Ex H1 H' ∧ ∃ acc, H' Dl = some (.lst acc) ∧ DtL K H' acc (((ds.take i).filter f).map g)) :
    tt ((wipe σ vs).set j (some x)) H' fun b H3 => if b = true then te ((wipe σ vs).set j (some x)) H3 fun y H4 => ∃ acc, H4 Dl = some (.lst acc) ∧ acc.length < sizeLine ∧
      (Ex H1 (upd H4 Dl (.lst (acc ++ [y]))) ∧ ∃ acc', (upd H4 Dl (.lst (acc ++ [y]))) Dl = some (.lst acc') ∧ DtL K (upd H4 Dl (.lst (acc ++ [y]))) acc' (((ds.take (i + 1)).filter f).map g))
    else (Ex H1 H3 ∧ ∃ acc, H3 Dl = some (.lst acc) ∧ DtL K H3 acc (((ds.take (i + 1)).filter f).map g)) := by
  obtain ⟨e1, acc, h1, h2⟩ := p
  have hi := (List.getElem?_eq_some_iff.mp hd).1
  have hm := List.mem_of_getElem? hd
  refine ht x d H' e1 hm hx H' (Ex.refl _) _ fun H3 e3 => ?_
  rw [take_step hd f g]
  cases q : f d with
  | false =>
    rw [if_neg (by decide), if_neg (by decide), List.append_nil]
    exact ⟨e1.trans e3, acc, e3 _ _ h1, h2.ex e3⟩
  | true =>
    rw [if_pos rfl, if_pos rfl]
    refine he x d H' e1 hm hx q H3 e3 _ fun y H4 e4 hy => ?_
    have h4 : H4 Dl = some (.lst acc) := e4 _ _ (e3 _ _ h1)
    have len : acc.length ≤ ds.length := by
      rw [h2.len, List.length_map]
      exact Nat.le_trans (List.length_filter_le _ _) (by rw [List.length_take]; omega)
    have tk : TK H4 (upd H4 Dl (.lst (acc ++ [y]))) := TK.upd h4 trivial
    refine ⟨acc, h4, sz_lt (by omega), Ex.mut ((e1.trans e3).trans e4) hD, acc ++ [y], upd_same, ?_⟩
    exact ((h2.ex (e3.trans e4)).append (.cons hy .nil)).tk tk
theorem n_lcT {j : Nat} {vs : List Nat} {f : PyData → Bool} {g : PyData → PyData} (h : EvD K tl σ H (.tuple ds)) (hz : ds.length ≤ 50000) (hw : ∀ x, wipe ((wipe σ vs).set j (some x)) vs = wipe σ vs)
    (ht : ∀ x d H1, Ex H H1 → d ∈ ds → Dt K H1 x d → EvT tt ((wipe σ vs).set j (some x)) H1 (f d)) (he : ∀ x d H1, Ex H H1 → d ∈ ds → Dt K H1 x d → f d = true → EvD K te ((wipe σ vs).set j (some x)) H1 (g d)) :
    EvN K (tLc (iTup K tl) (gName j) tt te vs) σ H ((ds.filter f).map g) := fun H0 e Q q => h H0 e _ fun v H1 e1 hv => by
  obtain ⟨a, xs, rfl, hs, hl⟩ := hv.tup_eq
  refine ⟨a, rfl, ⟨xs, hs⟩, fun Dl hD => ?_⟩
  have ht' := fun x d H2 (x1 : Ex H1 H2) => ht x d H2 ((e.trans e1).trans x1)
  have he' := fun x d H2 (x1 : Ex H1 H2) => he x d H2 ((e.trans e1).trans x1)
  refine lc_tup (K := K) (a := a) (xs := xs) (fun i H' => Ex H1 H' ∧ ∃ acc, H' Dl = some (.lst acc) ∧ DtL K H' acc (((ds.take i).filter f).map g)) ⟨Ex.new hD, [], upd_same, by simp; exact .nil⟩ (fun i H' _ p => ex_t p.1 hs) (fun i x H' hx p => ?_) fun H' p => ?_
  · obtain ⟨d, hd, hxd⟩ := hl.get' hx
    exact ⟨hw x, acc_turn hz hD hd (hxd.ex p.1) ht' he' p⟩
  · obtain ⟨x1, acc, h1, h2⟩ := p
    rw [hl.len, List.take_length] at h2
    exact q Dl acc H' (fresh_back e1 hD) (e1.trans x1) h1 h2
/-- over a new list -/
theorem n_lcN {j : Nat} {vs : List Nat} {f : PyData → Bool} {g : PyData → PyData} (h : EvN K tl σ H ds) (hz : ds.length ≤ 50000) (hw : ∀ x, wipe ((wipe σ vs).set j (some x)) vs = wipe σ vs)
    (ht : ∀ x d H1, Ex H H1 → d ∈ ds → Dt K H1 x d → EvT tt ((wipe σ vs).set j (some x)) H1 (f d)) (he : ∀ x d H1, Ex H H1 → d ∈ ds → Dt K H1 x d → f d = true → EvD K te ((wipe σ vs).set j (some x)) H1 (g d)) :
    EvN K (tLc (iList K tl) (gName j) tt te vs) σ H ((ds.filter f).map g) := fun H0 e Q q => h H0 e _ fun a xs H1 _ e1 hs hl => by
  refine ⟨a, rfl, ⟨xs, sq_of hs⟩, fun Dl hD => ?_⟩
  have ht' := fun x d H2 (x1 : Ex H1 H2) => ht x d H2 ((e.trans e1).trans x1)
  have he' := fun x d H2 (x1 : Ex H1 H2) => he x d H2 ((e.trans e1).trans x1)
  refine lc_list (K := K) (a := a) (xs := xs) (fun i H' => Ex H1 H' ∧ ∃ acc, H' Dl = some (.lst acc) ∧ DtL K H' acc (((ds.take i).filter f).map g)) ⟨Ex.new hD, [], upd_same, by simp; exact .nil⟩ (fun i H' _ p => sq_of (p.1 a _ hs)) (fun i x H' hx p => ?_) fun H' p => ?_
  · obtain ⟨d, hd, hxd⟩ := hl.get' hx
    exact ⟨hw x, acc_turn hz hD hd (hxd.ex p.1) ht' he' p⟩
  · obtain ⟨x1, acc, h1, h2⟩ := p
    rw [hl.len, List.take_length] at h2
    exact q Dl acc H' (fresh_back e1 hD) (e1.trans x1) h1 h2
/-- no test -/
theorem t_yes {σ' : L2.St} : EvT tYes σ' H true := fun H1 _ Q q => q H1 (Ex.refl _)
/-- for x in a tuple -/
theorem q_forTD {j : Nat} (h : EvD K tl σ H (.tuple ds)) (Pv : Nat → L2.St → Hp → Prop) (h0 : ∀ H1, Ex H H1 → Pv 0 σ H1)
    (hs : ∀ i d x σ' H', ds[i]? = some d → Dt K H' x d → Pv i σ' H' → tu { D with nx := fun σ2 H2 => Pv (i + 1) σ2 H2 ∧ TK H' H2, ct := fun σ2 H2 => Pv (i + 1) σ2 H2 ∧ TK H' H2, bk := tz D } (σ'.set j (some x)) H')
    (hd : ∀ σ' H', Pv ds.length σ' H' → tz D σ' H') : tSeq (tFor (iTup K tl) (gName j) tu) tz D σ H := h H (Ex.refl H) _ fun v H1 e1 hv => by
  obtain ⟨a, xs, rfl, hq, hl⟩ := hv.tup_eq
  refine ⟨a, rfl, ⟨xs, hq⟩, ?_⟩
  refine ⟨fun i m σ' H' => m = xs.length - i ∧ i ≤ xs.length ∧ Pv i σ' H' ∧ TK H1 H', ⟨xs.length, by simp, Nat.zero_le _, h0 H1 e1, TK.refl _⟩, ?_⟩
  rintro i m σ' H' ⟨rfl, hi, p, tk⟩
  have hq' := SqT.tk tk hq
  by_cases hlt : i < xs.length
  · refine .inr ⟨⟨xs, xs[i], hq', by simp [hlt]⟩, fun σ2 H2 => Pv (i + 1) σ2 H2 ∧ TK H' H2, fun σ2 H2 ⟨p', t'⟩ => ⟨xs.length - (i + 1), by omega, rfl, hlt, p', tk.trans t'⟩, fun x H2 y => ?_⟩
    obtain ⟨rfl, y⟩ := y
    have hx := y xs hq'
    obtain ⟨d, hd', hxd⟩ := hl.get' hx
    exact hs i d x σ' H2 hd' (hxd.tk tk) p
  · have e : i = ds.length := by rw [← hl.len]; omega
    subst e
    exact .inl ⟨⟨xs, hq', by omega⟩, hd σ' H' p⟩
end
end Kx

set_option Elab.async false
set_option linter.all false
set_option maxRecDepth 100000
set_option maxHeartbeats 4000000
namespace Kx
open PySem PySem.Spec PyProof.Rows L2 Evl

local macro_rules | `(tactic| walk_at "ev") => `(tactic| first
  | exact d_int | exact d_str | exact d_bl | exact d_non | exact ds_nil
  | exact d_vint rfl | exact d_var (by assumption) rfl
  | (apply ds_cons <;> walk_at "ev")
  | (apply d_tup2 <;> walk_at "ev")
  | (apply d_ix <;> walk_at "ev")
  | (apply d_ii <;> walk_at "ev")
  | (apply d_iC <;> walk_at "ev")
  | (apply d_ib <;> walk_at "ev")
  | (apply d_abs <;> walk_at "ev")
  | (apply d_num <;> walk_at "ev")
  | (apply d_un <;> walk_at "ev")
  | (apply d_pls <;> walk_at "ev")
  | (apply d_pn <;> walk_at "ev")
  | assumption | rfl)

/-! ### frames -/
inductive Fr where
  | shift (a b : Nu)
  | turn (p q : Int)
  | flip
  deriving DecidableEq
def frD : Fr → PyData
  | .shift a b => .tuple [.str "shift", nD a, nD b]
  | .turn p q => .tuple [.str "turn", .int p, .int q]
  | .flip => .tuple [.str "flip"]
def OkF : Fr → Prop
  | .shift a b => Sm 20 a ∧ Sm 20 b
  | .turn p q => ¬ (p = 0 ∧ q = 0) ∧ p.natAbs < 128 ∧ q.natAbs < 128
  | .flip => True
def dirF : Fr → Pl → Pl
  | .shift _ _, p => p
  | .turn a b, p => trnP p (headP a b)
  | .flip, p => (p.1, oppN p.2)
def byF : Fr → Pl → Pl
  | .shift a b, p => addP p (a, b)
  | f, p => dirF f p
def backF : Fr → Pl → Pl
  | .shift a b, p => (subN p.1 a, subN p.2 b)
  | .turn a b, p => trnP p (headP (0 - a) b)
  | .flip, p => (p.1, oppN p.2)
def ledP (fs : List Fr) (p : Pl) : Pl := fs.foldr byF p
def ledD (fs : List Fr) (p : Pl) : Pl := fs.foldr dirF p
def fromP (fs : List Fr) (p : Pl) : Pl := fs.foldl (fun p f => backF f p) p
def isFlip : Fr → Bool
  | .flip => true
  | _ => false
def aboutF (fs : List Fr) : Bool := decide ((fs.filter isFlip).length % 2 = 1)
theorem sm_head {p q : Int} (h : ¬ (p = 0 ∧ q = 0)) (hp : p.natAbs < 128) (hq : q.natAbs < 128) : SmP 20 (headP p q) := by
  have pos := sqs_pos h
  have a : (p * p).natAbs < 2 ^ (7 + 7) := mul_lt (a := 7) (b := 7) hp hp
  have b : (q * q).natAbs < 2 ^ (7 + 7) := mul_lt (a := 7) (b := 7) hq hq
  have c : (2 * p * q).natAbs < 2 ^ (2 + 7 + 7) := mul_lt (mul_lt (a := 2) (b := 7) (show (2 : Int).natAbs < 2 ^ 2 by decide) hp) (b := 7) hq
  refine ⟨sm_rat ?_ pos ?_, sm_rat ?_ pos ?_⟩
  · have : (2 : Nat) ^ 20 = 1048576 := by decide
    have : (2 : Nat) ^ (7 + 7) = 16384 := by decide
    omega
  · have : (2 : Nat) ^ 20 = 1048576 := by decide
    have : (2 : Nat) ^ (7 + 7) = 16384 := by decide
    omega
  · have : (2 : Nat) ^ 20 = 1048576 := by decide
    have : (2 : Nat) ^ (2 + 7 + 7) = 65536 := by decide
    omega
  · have : (2 : Nat) ^ 20 = 1048576 := by decide
    have : (2 : Nat) ^ (7 + 7) = 16384 := by decide
    omega
/-- a frame and a place -/
def fFP (g : Fr → Pl → Pl) : List PyData → PyData → Prop := fun ds r => ∃ (f : Fr) (p : Pl), ds = [frD f, pD p] ∧ OkF f ∧ SmP 200000 p ∧ r = pD (g f p)
def frsD (fs : List Fr) : PyData := .tuple (fs.map frD)
/-- frames and a place, from behind, from ahead: whatever is met is small enough -/
def fLed (g : Fr → Pl → Pl) : List PyData → PyData → Prop := fun ds r => ∃ (fs : List Fr) (p : Pl), ds = [frsD fs, pD p] ∧ (∀ f ∈ fs, OkF f) ∧ fs.length ≤ 1000 ∧ (∀ k, SmP 200000 ((fs.drop k).foldr g p)) ∧ r = pD (fs.foldr g p)
def fFrom : List PyData → PyData → Prop := fun ds r => ∃ (fs : List Fr) (p : Pl), ds = [frsD fs, pD p] ∧ (∀ f ∈ fs, OkF f) ∧ fs.length ≤ 1000 ∧ (∀ k, SmP 200000 (fromP (fs.take k) p)) ∧ r = pD (fromP fs p)
def fAbout : List PyData → PyData → Prop := fun ds r => ∃ fs : List Fr, ds = [frsD fs] ∧ fs.length ≤ 1000 ∧ r = .bool (aboutF fs)
def fAboutL : List PyData → PyData → Prop := fun ds r => ∃ fs : List Fr, ds = [frsD fs] ∧ fs.length ≤ 1000 ∧ r = .int (if aboutF fs = true then 1 else 0)
section
variable {K : PySem.W.Frag} {σ : L2.St} {H : Hp} {tA : TA} {E : XK}
theorem d_fp {g : Fr → Pl → Pl} {f : Fr} {p : Pl} (h : EvDs K tA σ H [frD f, pD p]) (hf : OkF f) (hp : SmP 200000 p) : EvD K (tCall (spP K (fFP g)) [] E tA) σ H (pD (g f p)) := d_call h ⟨f, p, rfl, hf, hp, rfl⟩
theorem d_turn {b c : Nat} {g : Pl → Pl → Pl} {p q : Pl} (h : EvDs K tA σ H [pD p, pD q]) (hp : SmP b p) (hq : SmP c q) : EvD K (tCall (spP K (fPP b c g)) [] E tA) σ H (pD (g p q)) := d_call h ⟨p, q, rfl, hp, hq, rfl⟩
end
theorem drop_foldr {α β : Type} {g : α → β → β} {fs : List α} {i : Nat} {f : α} {p : β} (h : fs[i]? = some f) : (fs.drop i).foldr g p = g f ((fs.drop (i + 1)).foldr g p) := by
  obtain ⟨hi, e⟩ := List.getElem?_eq_some_iff.mp h
  rw [List.drop_eq_getElem_cons hi, e]; rfl
theorem take_foldl {α β : Type} {g : β → α → β} {fs : List α} {i : Nat} {f : α} {p : β} (h : fs[i]? = some f) : (fs.take (i + 1)).foldl g p = g ((fs.take i).foldl g p) f := by
  rw [List.take_add_one, h, List.foldl_append]; rfl
section
variable {w : World} {K : PySem.W.Frag} {mg : Str → Option Value} {base : Heap}
theorem sc_direction_by_one : FnScope ["frame", "place"] ["frame", "place"] (defScope Kd.s_direction_by_one) := ⟨rfl, rfl, rfl, by decide +kernel, rfl, by decide +kernel, by decide +kernel⟩
theorem ok_direction_by_one (T : Tx w K mg) : Ok Pg w K mg base CX0 38 (He.ga K "direction_by_one") ["frame", "place"] (spP K (fFP dirF)) := by
  refine ok_pure T.f_direction_by_one sc_direction_by_one (fun ds r h => by obtain ⟨f, p, rfl, hf, hp, _⟩ := h; rfl) (fun _ _ _ _ _ _ us hl => match us, hl with | [_, _], _ => rfl) fun cdv A outer s H E hr => ?_
  refine ⟨_, (pss_cons (ps_if (pt_cmpR op_eq (px (pv 0)) pe_str (nomark _)) (pss_one (ps_ret (pe_fn (ok_turned T) (hr.mono (by decide)) T.g_turned pass0 (pa_cons (pv 1) (pa_cons (pe_fn (ok_heading_of T) (hr.mono (by decide)) T.g_heading_of pass0 (pa_cons (px (pv 0)) (pa_cons (px (pv 0)) pa_nil))) pa_nil))))) pss_nil) (pss_cons (ps_if (pt_cmpR op_eq (px (pv 0)) pe_str (nomark _)) (pss_one (ps_ret (pe_tup (pa_cons (px (pv 1)) (pa_cons (pe_fn (ok_opposite T) (hr.mono (by decide)) T.g_opposite pass0 (pa_cons (px (pv 1)) pa_nil)) pa_nil))))) pss_nil) (pss_one (ps_ret (pv 1))))), ?_⟩
  rintro vs ds r D hv ⟨f, p, rfl, hf, hp, rfl⟩ hk _
  obtain ⟨v0, v1, rfl, x0, x1⟩ := hv.two
  cases f with
  | shift a b =>
    refine q_when (b := decide (("shift" : Str) = "turn")) (t_test (K := K) (d_eqS (d_ix (d_var x0 rfl) d_int rfl) d_str)) (fun hb => absurd hb (by decide +kernel)) fun _ H1 e1 => ?_
    refine q_when (b := decide (("shift" : Str) = "flip")) (t_test (K := K) (d_eqS (d_ix (d_var (x0.ex e1) rfl) d_int rfl) d_str)) (fun hb => absurd hb (by decide +kernel)) fun _ H2 e2 => ?_
    exact s_retD (K := K) (d := pD p) (d_var ((x1.ex e1).ex e2) rfl) fun v H3 e3 hd => hk v H3 ((e1.trans e2).trans e3) hd
  | turn a b =>
    refine q_when (b := decide (("turn" : Str) = "turn")) (t_test (K := K) (d_eqS (d_ix (d_var x0 rfl) d_int rfl) d_str)) (fun _ H1 e1 => ?_) fun hb => absurd hb (by decide +kernel)
    replace x0 := x0.ex e1
    replace x1 := x1.ex e1
    refine s_retD (K := K) (d := pD (trnP p (headP a b))) ?_ fun v H2 e2 hd => hk v H2 (e1.trans e2) hd
    exact d_turn (ds_cons (d_var x1 rfl) (ds_cons (d_head (ds_cons (d_ix (d_var x0 rfl) d_int rfl) (ds_cons (d_ix (d_var x0 rfl) d_int rfl) ds_nil)) hf.1 hf.2.1 hf.2.2) ds_nil)) hp ((sm_head hf.1 hf.2.1 hf.2.2).mono (by decide))
  | flip =>
    refine q_when (b := decide (("flip" : Str) = "turn")) (t_test (K := K) (d_eqS (d_ix (d_var x0 rfl) d_int rfl) d_str)) (fun hb => absurd hb (by decide +kernel)) fun _ H1 e1 => ?_
    refine q_when (b := decide (("flip" : Str) = "flip")) (t_test (K := K) (d_eqS (d_ix (d_var (x0.ex e1) rfl) d_int rfl) d_str)) (fun _ H2 e2 => ?_) fun hb => absurd hb (by decide +kernel)
    replace x1 := (x1.ex e1).ex e2
    refine s_retD (K := K) (d := .tuple [nD p.1, nD (oppN p.2)]) ?_ fun v H3 e3 hd => hk v H3 ((e1.trans e2).trans e3) hd
    exact d_tup2 (ds_cons (d_ix (d_var x1 rfl) d_int rfl) (ds_cons (d_un (ds_cons (d_ix (d_var x1 rfl) d_int rfl) ds_nil) trivial) ds_nil))
theorem sc_by_one : FnScope ["frame", "place"] ["frame", "place"] (defScope Kd.s_by_one) := ⟨rfl, rfl, rfl, by decide +kernel, rfl, by decide +kernel, by decide +kernel⟩
theorem ok_by_one (T : Tx w K mg) : Ok Pg w K mg base CX0 39 (He.ga K "by_one") ["frame", "place"] (spP K (fFP byF)) := by
  refine ok_pure T.f_by_one sc_by_one (fun ds r h => by obtain ⟨f, p, rfl, hf, hp, _⟩ := h; rfl) (fun _ _ _ _ _ _ us hl => match us, hl with | [_, _], _ => rfl) fun cdv A outer s H E hr => ?_
  refine ⟨_, (pss_cons (ps_if (pt_cmpR op_eq (px (pv 0)) pe_str (nomark _)) (pss_one (ps_ret (pe_fn (ok_added T) (hr.mono (by decide)) T.g_added pass0 (pa_cons (pv 1) (pa_cons (pe_tup (pa_cons (px (pv 0)) (pa_cons (px (pv 0)) pa_nil))) pa_nil))))) pss_nil) (pss_one (ps_ret (pe_fn (ok_direction_by_one T) (hr.mono (by decide)) T.g_direction_by_one pass0 (pa_cons (pv 0) (pa_cons (pv 1) pa_nil)))))), ?_⟩
  rintro vs ds r D hv ⟨f, p, rfl, hf, hp, rfl⟩ hk _
  obtain ⟨v0, v1, rfl, x0, x1⟩ := hv.two
  cases f with
  | shift a b =>
    refine q_when (b := decide (("shift" : Str) = "shift")) (t_test (K := K) (d_eqS (d_ix (d_var x0 rfl) d_int rfl) d_str)) (fun _ H1 e1 => ?_) fun hb => absurd hb (by decide +kernel)
    replace x0 := x0.ex e1
    replace x1 := x1.ex e1
    refine s_retD (K := K) (d := pD (addP p (a, b))) ?_ fun v H2 e2 hd => hk v H2 (e1.trans e2) hd
    exact d_turn (q := (a, b)) (ds_cons (d_var x1 rfl) (ds_cons (d_tup2 (ds_cons (d_ix (d_var x0 rfl) d_int rfl) (ds_cons (d_ix (d_var x0 rfl) d_int rfl) ds_nil))) ds_nil)) (hp.mono (by decide)) ⟨hf.1.mono (by decide), hf.2.mono (by decide)⟩
  | turn a b =>
    refine q_when (b := decide (("turn" : Str) = "shift")) (t_test (K := K) (d_eqS (d_ix (d_var x0 rfl) d_int rfl) d_str)) (fun hb => absurd hb (by decide +kernel)) fun _ H1 e1 => ?_
    exact s_retD (K := K) (d := pD (dirF (.turn a b) p)) (d_fp (ds_cons (d_var (x0.ex e1) rfl) (ds_cons (d_var (x1.ex e1) rfl) ds_nil)) hf hp) fun v H2 e2 hd => hk v H2 (e1.trans e2) hd
  | flip =>
    refine q_when (b := decide (("flip" : Str) = "shift")) (t_test (K := K) (d_eqS (d_ix (d_var x0 rfl) d_int rfl) d_str)) (fun hb => absurd hb (by decide +kernel)) fun _ H1 e1 => ?_
    exact s_retD (K := K) (d := pD (dirF .flip p)) (d_fp (ds_cons (d_var (x0.ex e1) rfl) (ds_cons (d_var (x1.ex e1) rfl) ds_nil)) hf hp) fun v H2 e2 hd => hk v H2 (e1.trans e2) hd
theorem sc_back_by_one : FnScope ["frame", "place"] ["frame", "place"] (defScope Kd.s_back_by_one) := ⟨rfl, rfl, rfl, by decide +kernel, rfl, by decide +kernel, by decide +kernel⟩
theorem ok_back_by_one (T : Tx w K mg) : Ok Pg w K mg base CX0 39 (He.ga K "back_by_one") ["frame", "place"] (spP K (fFP backF)) := by
  refine ok_pure T.f_back_by_one sc_back_by_one (fun ds r h => by obtain ⟨f, p, rfl, hf, hp, _⟩ := h; rfl) (fun _ _ _ _ _ _ us hl => match us, hl with | [_, _], _ => rfl) fun cdv A outer s H E hr => ?_
  refine ⟨_, (pss_cons (ps_if (pt_cmpR op_eq (px (pv 0)) pe_str (nomark _)) (pss_one (ps_ret (pe_tup (pa_cons (pe_fn (ok_minus T) (hr.mono (by decide)) T.g_minus pass0 (pa_cons (px (pv 1)) (pa_cons (px (pv 0)) pa_nil))) (pa_cons (pe_fn (ok_minus T) (hr.mono (by decide)) T.g_minus pass0 (pa_cons (px (pv 1)) (pa_cons (px (pv 0)) pa_nil))) pa_nil))))) pss_nil) (pss_cons (ps_if (pt_cmpR op_eq (px (pv 0)) pe_str (nomark _)) (pss_one (ps_ret (pe_fn (ok_turned T) (hr.mono (by decide)) T.g_turned pass0 (pa_cons (pv 1) (pa_cons (pe_fn (ok_heading_of T) (hr.mono (by decide)) T.g_heading_of pass0 (pa_cons (pe_op op_sub pe_int (px (pv 0))) (pa_cons (px (pv 0)) pa_nil))) pa_nil))))) pss_nil) (pss_one (ps_ret (pe_fn (ok_direction_by_one T) (hr.mono (by decide)) T.g_direction_by_one pass0 (pa_cons (pv 0) (pa_cons (pv 1) pa_nil))))))), ?_⟩
  rintro vs ds r D hv ⟨f, p, rfl, hf, hp, rfl⟩ hk _
  obtain ⟨v0, v1, rfl, x0, x1⟩ := hv.two
  cases f with
  | shift a b =>
    refine q_when (b := decide (("shift" : Str) = "shift")) (t_test (K := K) (d_eqS (d_ix (d_var x0 rfl) d_int rfl) d_str)) (fun _ H1 e1 => ?_) fun hb => absurd hb (by decide +kernel)
    replace x0 := x0.ex e1
    replace x1 := x1.ex e1
    refine s_retD (K := K) (d := .tuple [nD (subN p.1 a), nD (subN p.2 b)]) ?_ fun v H2 e2 hd => hk v H2 (e1.trans e2) hd
    exact d_tup2 (ds_cons (d_num (g := subN) (ds_cons (d_ix (d_var x1 rfl) d_int rfl) (ds_cons (d_ix (d_var x0 rfl) d_int rfl) ds_nil)) (hp.1.mono (by decide)) (hf.1.mono (by decide)))
      (ds_cons (d_num (g := subN) (ds_cons (d_ix (d_var x1 rfl) d_int rfl) (ds_cons (d_ix (d_var x0 rfl) d_int rfl) ds_nil)) (hp.2.mono (by decide)) (hf.2.mono (by decide))) ds_nil))
  | turn a b =>
    refine q_when (b := decide (("turn" : Str) = "shift")) (t_test (K := K) (d_eqS (d_ix (d_var x0 rfl) d_int rfl) d_str)) (fun hb => absurd hb (by decide +kernel)) fun _ H1 e1 => ?_
    refine q_when (b := decide (("turn" : Str) = "turn")) (t_test (K := K) (d_eqS (d_ix (d_var (x0.ex e1) rfl) d_int rfl) d_str)) (fun _ H2 e2 => ?_) fun hb => absurd hb (by decide +kernel)
    replace x0 := (x0.ex e1).ex e2
    replace x1 := (x1.ex e1).ex e2
    have g1 : ¬ ((0 - a) = 0 ∧ b = 0) := fun z => hf.1 ⟨by omega, z.2⟩
    have g2 : (0 - a).natAbs < 128 := by have := hf.2.1; omega
    refine s_retD (K := K) (d := pD (trnP p (headP (0 - a) b))) ?_ fun v H3 e3 hd => hk v H3 ((e1.trans e2).trans e3) hd
    exact d_turn (ds_cons (d_var x1 rfl) (ds_cons (d_head (ds_cons (d_ii (f := fun i j => i - j) d_int (d_ix (d_var x0 rfl) d_int rfl)) (ds_cons (d_ix (d_var x0 rfl) d_int rfl) ds_nil)) g1 g2 hf.2.2) ds_nil)) hp ((sm_head g1 g2 hf.2.2).mono (by decide))
  | flip =>
    refine q_when (b := decide (("flip" : Str) = "shift")) (t_test (K := K) (d_eqS (d_ix (d_var x0 rfl) d_int rfl) d_str)) (fun hb => absurd hb (by decide +kernel)) fun _ H1 e1 => ?_
    refine q_when (b := decide (("flip" : Str) = "turn")) (t_test (K := K) (d_eqS (d_ix (d_var (x0.ex e1) rfl) d_int rfl) d_str)) (fun hb => absurd hb (by decide +kernel)) fun _ H2 e2 => ?_
    exact s_retD (K := K) (d := pD (dirF .flip p)) (d_fp (ds_cons (d_var ((x0.ex e1).ex e2) rfl) (ds_cons (d_var ((x1.ex e1).ex e2) rfl) ds_nil)) hf hp) fun v H3 e3 hd => hk v H3 ((e1.trans e2).trans e3) hd
theorem sc_led_place : FnScope ["frames", "place", "frame"] ["frames", "place"] (defScope Kd.s_led_place) := ⟨rfl, rfl, rfl, by decide +kernel, rfl, by decide +kernel, by decide +kernel⟩
theorem ok_led_place (T : Tx w K mg) : Ok Pg w K mg base CX0 41 (He.ga K "led_place") ["frames", "place"] (spP K (fLed byF)) := by
  refine ok_pure T.f_led_place sc_led_place (fun ds r h => by obtain ⟨fs, p, rfl, okf, hl, hs, _⟩ := h; rfl) (fun _ _ _ _ _ _ us hl => match us, hl with | [_, _], _ => rfl) fun cdv A outer s H E hr => ?_
  refine ⟨_, (pss_cons (ps_for PassesOwn.never rfl (pi_tup (pe_revT (pv 0))) (pg_name (i := 2) sc_led_place.nd rfl (Or.inl rfl)) (pss_one (ps_set (i := 1) sc_led_place.nd rfl (Or.inl rfl) (pe_fn (ok_by_one T) (hr.mono (by decide)) T.g_by_one pass0 (pa_cons (pv 2) (pa_cons (pv 1) pa_nil)))))) (pss_one (ps_ret (pv 1)))), ?_⟩
  rintro vs ds r D hv ⟨fs, p, rfl, okf, hl, hs, rfl⟩ hk _
  obtain ⟨v0, v1, rfl, x0, x1⟩ := hv.two
  refine q_forTD (K := K) (ds := (fs.map frD).reverse) (d_revT (d_var x0 rfl)) (fun i σ' H' => ∃ (vp : V) (o : Option V), σ' = [some v0, some vp, o] ∧ Ex H H' ∧ Dt K H' vp (pD ((fs.drop (fs.length - i)).foldr byF p))) (fun H1 e1 => ⟨v1, none, rfl, e1, by
    rw [Nat.sub_zero, List.drop_length]
    exact x1.ex e1⟩) ?_ ?_
  · rintro i d x σ' H' hd hx ⟨vp, o, rfl, e2, hp⟩
    have hi : i < fs.length := by have := (List.getElem?_eq_some_iff.mp hd).1; simpa using this
    rw [List.getElem?_reverse (by simpa using hi), List.getElem?_map, List.length_map] at hd
    cases hf : fs[fs.length - 1 - i]? with
    | none => rw [hf] at hd; cases hd
    | some f =>
      rw [hf] at hd
      cases hd
      have step := drop_foldr (g := byF) (p := p) hf
      rw [show fs.length - 1 - i + 1 = fs.length - i by omega] at step
      refine s_asgD (K := K) (d := pD (byF f ((fs.drop (fs.length - i)).foldr byF p))) (d_fp (ds_cons (d_var hx rfl) (ds_cons (d_var hp rfl) ds_nil)) (okf f (List.mem_of_getElem? hf)) (hs _)) fun v H3 e3 hv => ?_
      refine ⟨⟨v, some x, rfl, e2.trans e3, ?_⟩, .ex e3⟩
      rw [show fs.length - (i + 1) = fs.length - 1 - i by omega, step]
      exact hv
  · rintro σ' H' ⟨vp, o, rfl, e2, hp⟩
    rw [List.length_reverse, List.length_map, Nat.sub_self, List.drop_zero] at hp
    exact s_retD (K := K) (d := pD (fs.foldr byF p)) (d_var hp rfl) fun v H3 e3 hd => hk v H3 (e2.trans e3) hd
theorem sc_led_direction : FnScope ["frames", "place", "frame"] ["frames", "place"] (defScope Kd.s_led_direction) := ⟨rfl, rfl, rfl, by decide +kernel, rfl, by decide +kernel, by decide +kernel⟩
theorem ok_led_direction (T : Tx w K mg) : Ok Pg w K mg base CX0 41 (He.ga K "led_direction") ["frames", "place"] (spP K (fLed dirF)) := by
  refine ok_pure T.f_led_direction sc_led_direction (fun ds r h => by obtain ⟨fs, p, rfl, okf, hl, hs, _⟩ := h; rfl) (fun _ _ _ _ _ _ us hl => match us, hl with | [_, _], _ => rfl) fun cdv A outer s H E hr => ?_
  refine ⟨_, (pss_cons (ps_for PassesOwn.never rfl (pi_tup (pe_revT (pv 0))) (pg_name (i := 2) sc_led_direction.nd rfl (Or.inl rfl)) (pss_one (ps_set (i := 1) sc_led_direction.nd rfl (Or.inl rfl) (pe_fn (ok_direction_by_one T) (hr.mono (by decide)) T.g_direction_by_one pass0 (pa_cons (pv 2) (pa_cons (pv 1) pa_nil)))))) (pss_one (ps_ret (pv 1)))), ?_⟩
  rintro vs ds r D hv ⟨fs, p, rfl, okf, hl, hs, rfl⟩ hk _
  obtain ⟨v0, v1, rfl, x0, x1⟩ := hv.two
  refine q_forTD (K := K) (ds := (fs.map frD).reverse) (d_revT (d_var x0 rfl)) (fun i σ' H' => ∃ (vp : V) (o : Option V), σ' = [some v0, some vp, o] ∧ Ex H H' ∧ Dt K H' vp (pD ((fs.drop (fs.length - i)).foldr dirF p))) (fun H1 e1 => ⟨v1, none, rfl, e1, by
    rw [Nat.sub_zero, List.drop_length]
    exact x1.ex e1⟩) ?_ ?_
  · rintro i d x σ' H' hd hx ⟨vp, o, rfl, e2, hp⟩
    have hi : i < fs.length := by have := (List.getElem?_eq_some_iff.mp hd).1; simpa using this
    rw [List.getElem?_reverse (by simpa using hi), List.getElem?_map, List.length_map] at hd
    cases hf : fs[fs.length - 1 - i]? with
    | none => rw [hf] at hd; cases hd
    | some f =>
      rw [hf] at hd
      cases hd
      have step := drop_foldr (g := dirF) (p := p) hf
      rw [show fs.length - 1 - i + 1 = fs.length - i by omega] at step
      refine s_asgD (K := K) (d := pD (dirF f ((fs.drop (fs.length - i)).foldr dirF p))) (d_fp (ds_cons (d_var hx rfl) (ds_cons (d_var hp rfl) ds_nil)) (okf f (List.mem_of_getElem? hf)) (hs _)) fun v H3 e3 hv => ?_
      refine ⟨⟨v, some x, rfl, e2.trans e3, ?_⟩, .ex e3⟩
      rw [show fs.length - (i + 1) = fs.length - 1 - i by omega, step]
      exact hv
  · rintro σ' H' ⟨vp, o, rfl, e2, hp⟩
    rw [List.length_reverse, List.length_map, Nat.sub_self, List.drop_zero] at hp
    exact s_retD (K := K) (d := pD (fs.foldr dirF p)) (d_var hp rfl) fun v H3 e3 hd => hk v H3 (e2.trans e3) hd
theorem sc_led_from : FnScope ["frames", "place", "frame"] ["frames", "place"] (defScope Kd.s_led_from) := ⟨rfl, rfl, rfl, by decide +kernel, rfl, by decide +kernel, by decide +kernel⟩
theorem ok_led_from (T : Tx w K mg) : Ok Pg w K mg base CX0 41 (He.ga K "led_from") ["frames", "place"] (spP K fFrom) := by
  refine ok_pure T.f_led_from sc_led_from (fun ds r h => by obtain ⟨fs, p, rfl, okf, hl, hs, _⟩ := h; rfl) (fun _ _ _ _ _ _ us hl => match us, hl with | [_, _], _ => rfl) fun cdv A outer s H E hr => ?_
  refine ⟨_, (pss_cons (ps_for PassesOwn.never rfl (pi_tup (pv 0)) (pg_name (i := 2) sc_led_from.nd rfl (Or.inl rfl)) (pss_one (ps_set (i := 1) sc_led_from.nd rfl (Or.inl rfl) (pe_fn (ok_back_by_one T) (hr.mono (by decide)) T.g_back_by_one pass0 (pa_cons (pv 2) (pa_cons (pv 1) pa_nil)))))) (pss_one (ps_ret (pv 1)))), ?_⟩
  rintro vs ds r D hv ⟨fs, p, rfl, okf, hl, hs, rfl⟩ hk _
  obtain ⟨v0, v1, rfl, x0, x1⟩ := hv.two
  refine q_forTD (K := K) (ds := fs.map frD) (d_var x0 rfl) (fun i σ' H' => ∃ (vp : V) (o : Option V), σ' = [some v0, some vp, o] ∧ Ex H H' ∧ Dt K H' vp (pD (fromP (fs.take i) p))) (fun H1 e1 => ⟨v1, none, rfl, e1, x1.ex e1⟩) ?_ ?_
  · rintro i d x σ' H' hd hx ⟨vp, o, rfl, e2, hp⟩
    rw [List.getElem?_map] at hd
    cases hf : fs[i]? with
    | none => rw [hf] at hd; cases hd
    | some f =>
      rw [hf] at hd
      cases hd
      refine s_asgD (K := K) (d := pD (backF f (fromP (fs.take i) p))) (d_fp (ds_cons (d_var hx rfl) (ds_cons (d_var hp rfl) ds_nil)) (okf f (List.mem_of_getElem? hf)) (hs _)) fun v H3 e3 hv => ?_
      refine ⟨⟨v, some x, rfl, e2.trans e3, ?_⟩, .ex e3⟩
      unfold fromP at hv ⊢
      rw [take_foldl hf]
      exact hv
  · rintro σ' H' ⟨vp, o, rfl, e2, hp⟩
    rw [List.length_map, List.take_length] at hp
    exact s_retD (K := K) (d := pD (fromP fs p)) (d_var hp rfl) fun v H3 e3 hd => hk v H3 (e2.trans e3) hd
def flD : PyData → Bool
  | .tuple (.str x :: _) => decide (x = "flip")
  | _ => false
theorem flen (fs : List Fr) : (((fs.map frD).filter flD).map id).length = (fs.filter isFlip).length := by
  induction fs with
  | nil => rfl
  | cons f fs ih =>
    rw [List.map_id] at ih ⊢
    rw [List.map_cons]
    cases f with
    | shift a b =>
      rw [List.filter_cons_of_neg (by show ¬ (decide (("shift" : Str) = "flip")) = true; decide +kernel), List.filter_cons_of_neg (by simp [isFlip])]
      exact ih
    | turn a b =>
      rw [List.filter_cons_of_neg (by show ¬ (decide (("turn" : Str) = "flip")) = true; decide +kernel), List.filter_cons_of_neg (by simp [isFlip])]
      exact ih
    | flip =>
      rw [List.filter_cons_of_pos (by show (decide (("flip" : Str) = "flip")) = true; decide +kernel), List.filter_cons_of_pos (by decide), List.length_cons, List.length_cons, ih]
theorem sc_is_about : FnScope ["frames", "frame"] ["frames"] (defScope Kd.s_is_about) := ⟨rfl, rfl, rfl, by decide +kernel, rfl, by decide +kernel, by decide +kernel⟩
theorem ok_is_about (T : Tx w K mg) : Ok Pg w K mg base CX0 3 (He.ga K "is_about") ["frames"] (spP K fAbout) := by
  refine ok_pure T.f_is_about sc_is_about (fun ds r h => by obtain ⟨fs, rfl, hl, _⟩ := h; rfl) (fun _ _ _ _ _ _ us hl => match us, hl with | [_], _ => rfl) fun cdv A outer s H E hr => ?_
  refine ⟨_, (pss_one (ps_ret (pe_cmpR op_eq (pe_op op_mod (pe_callB call_len_seq (by rfl) T.b_len PySem.boot_len (pa_cons (pe_lc (own := [("frame", 1)]) (g := gName 1) (tt := tTest (tOp rEq (tOp (rIxT K) (tVar 1) (tC (.int 0))) (tC (.str "flip")))) (by rfl) sc_is_about.nd (pi_tup (pv 0)) (blkOk_by (own := [("frame", 1)]) (N := ["frames", "frame"]) (sc := defScope Kd.s_is_about) (by decide +kernel)) (fun _ _ _ _ _ => pg_name (i := 1) sc_is_about.nd rfl (Or.inl rfl)) (fun _ _ _ _ _ => pts_one (pt_cmpR op_eq (px (pv 1)) pe_str (nomark _))) (fun _ _ _ _ _ => pv 1)) pa_nil)) pe_int) pe_int (nomark _)))), ?_⟩
  rintro vs ds r D hv ⟨fs, rfl, hl, rfl⟩ hk _
  obtain ⟨v0, rfl, x0⟩ := hv.one
  have hc : EvN K (tLc (iTup K (tVar 0)) (gName 1) (tTest (tOp rEq (tOp (rIxT K) (tVar 1) (tC (.int 0))) (tC (.str "flip")))) (tVar 1) [1]) ([some v0, none] : L2.St) H (((fs.map frD).filter flD).map id) := by
    refine n_lcT (d_var x0 rfl) (by rw [List.length_map]; omega) (fun x => rfl) (fun x d H1 e1 hm hx => ?_) fun x d H1 e1 hm hx _ => d_var hx rfl
    obtain ⟨f, _, rfl⟩ := List.mem_map.mp hm
    cases f with
    | shift a b => show EvT _ _ _ (decide (("shift" : Str) = "flip")); exact t_test (K := K) (d_eqS (d_ix (d_var hx rfl) d_int rfl) d_str)
    | turn a b => show EvT _ _ _ (decide (("turn" : Str) = "flip")); exact t_test (K := K) (d_eqS (d_ix (d_var hx rfl) d_int rfl) d_str)
    | flip => show EvT _ _ _ (decide (("flip" : Str) = "flip")); exact t_test (K := K) (d_eqS (d_ix (d_var hx rfl) d_int rfl) d_str)
  have hlen := flen fs
  refine s_retD (K := K) (d := .bool (decide (((((fs.map frD).filter flD).map id).length : Int) % 2 = 1))) (d_eqI (d_iC (f := fun i j => i % j) (d_lenN hc) d_int (by show (0 : Int) < 2; decide)) d_int) fun v H1 e1 hd => hk v H1 e1 ?_
  have e : decide (((((fs.map frD).filter flD).map id).length : Int) % 2 = 1) = aboutF fs := by
    unfold aboutF
    rw [hlen]
    congr 1
    exact propext ⟨fun h => by omega, fun h => by omega⟩
  rw [← e]
  exact hd
theorem sc__law_about : FnScope ["_law_frames", "_law_frame_here"] ["_law_frames"] (defScope Kd.s__law_about) := ⟨rfl, rfl, rfl, by decide +kernel, rfl, by decide +kernel, by decide +kernel⟩
theorem ok__law_about (T : Tx w K mg) : Ok Pg w K mg base CX0 3 (He.ga K "_law_about") ["_law_frames"] (spP K fAboutL) := by
  refine ok_pure T.f__law_about sc__law_about (fun ds r h => by obtain ⟨fs, rfl, hl, _⟩ := h; rfl) (fun _ _ _ _ _ _ us hl => match us, hl with | [_], _ => rfl) fun cdv A outer s H E hr => ?_
  refine ⟨_, (pss_one (ps_ret (pe_op op_mod (pe_callB call_len_seq (by rfl) T.b_len PySem.boot_len (pa_cons (pe_lc (own := [("_law_frame_here", 1)]) (g := gName 1) (tt := tTest (tOp rEq (tOp (rIxT K) (tVar 1) (tC (.int 0))) (tC (.str "flip")))) (by rfl) sc__law_about.nd (pi_tup (pv 0)) (blkOk_by (own := [("_law_frame_here", 1)]) (N := ["_law_frames", "_law_frame_here"]) (sc := defScope Kd.s__law_about) (by decide +kernel)) (fun _ _ _ _ _ => pg_name (i := 1) sc__law_about.nd rfl (Or.inl rfl)) (fun _ _ _ _ _ => pts_one (pt_cmpR op_eq (px (pv 1)) pe_str (nomark _))) (fun _ _ _ _ _ => pv 1)) pa_nil)) pe_int))), ?_⟩
  rintro vs ds r D hv ⟨fs, rfl, hl, rfl⟩ hk _
  obtain ⟨v0, rfl, x0⟩ := hv.one
  have hc : EvN K (tLc (iTup K (tVar 0)) (gName 1) (tTest (tOp rEq (tOp (rIxT K) (tVar 1) (tC (.int 0))) (tC (.str "flip")))) (tVar 1) [1]) ([some v0, none] : L2.St) H (((fs.map frD).filter flD).map id) := by
    refine n_lcT (d_var x0 rfl) (by rw [List.length_map]; omega) (fun x => rfl) (fun x d H1 e1 hm hx => ?_) fun x d H1 e1 hm hx _ => d_var hx rfl
    obtain ⟨f, _, rfl⟩ := List.mem_map.mp hm
    cases f with
    | shift a b => show EvT _ _ _ (decide (("shift" : Str) = "flip")); exact t_test (K := K) (d_eqS (d_ix (d_var hx rfl) d_int rfl) d_str)
    | turn a b => show EvT _ _ _ (decide (("turn" : Str) = "flip")); exact t_test (K := K) (d_eqS (d_ix (d_var hx rfl) d_int rfl) d_str)
    | flip => show EvT _ _ _ (decide (("flip" : Str) = "flip")); exact t_test (K := K) (d_eqS (d_ix (d_var hx rfl) d_int rfl) d_str)
  have hlen := flen fs
  refine s_retD (K := K) (d := .int (((((fs.map frD).filter flD).map id).length : Int) % 2)) (d_iC (f := fun i j => i % j) (d_lenN hc) d_int (by show (0 : Int) < 2; decide)) fun v H1 e1 hd => hk v H1 e1 ?_
  have e : ((((fs.map frD).filter flD).map id).length : Int) % 2 = (if aboutF fs = true then 1 else 0) := by
    unfold aboutF
    rw [hlen]
    by_cases h : (fs.filter isFlip).length % 2 = 1
    · rw [if_pos (decide_eq_true h)]; omega
    · rw [if_neg (by simpa using h)]; omega
  rw [← e]
  exact hd
end
end Kx

set_option Elab.async false
set_option linter.all false
set_option maxRecDepth 100000
set_option maxHeartbeats 4000000
namespace Kx
open PySem PySem.Spec PyProof.Rows L2 Evl

local macro_rules | `(tactic| walk_at "ev") => `(tactic| first
  | exact d_int | exact d_str | exact d_bl | exact d_non | exact ds_nil
  | exact d_vint rfl | exact d_var (by assumption) rfl
  | (apply ds_cons <;> walk_at "ev")
  | (apply d_tup2 <;> walk_at "ev")
  | (apply d_ix <;> walk_at "ev")
  | (apply d_ii <;> walk_at "ev")
  | (apply d_iC <;> walk_at "ev")
  | (apply d_ib <;> walk_at "ev")
  | (apply d_abs <;> walk_at "ev")
  | (apply d_num <;> walk_at "ev")
  | (apply d_un <;> walk_at "ev")
  | (apply d_pls <;> walk_at "ev")
  | (apply d_pn <;> walk_at "ev")
  | assumption | rfl)

def byL (m : Bool) (f : Fr) (p : Pl) : Pl := if m = true then byF f p else dirF f p
def fLBy : List PyData → PyData → Prop := fun ds r => ∃ (f : Fr) (p : Pl) (m : Bool), ds = [frD f, pD p, .bool m] ∧ OkF f ∧ SmP 200000 p ∧ r = pD (byL m f p)
def fLedL : List PyData → PyData → Prop := fun ds r => ∃ (fs : List Fr) (p : Pl) (m : Bool), ds = [frsD fs, pD p, .bool m] ∧ (∀ f ∈ fs, OkF f) ∧ fs.length ≤ 1000 ∧ (∀ k, SmP 200000 ((fs.drop k).foldr (byL m) p)) ∧ r = pD (fs.foldr (byL m) p)
section
variable {w : World} {K : PySem.W.Frag} {mg : Str → Option Value} {base : Heap}
theorem sc__law_by : FnScope ["_law_frame_here", "_law_place", "_law_moves"] ["_law_frame_here", "_law_place", "_law_moves"] (defScope Kd.s__law_by) := ⟨rfl, rfl, rfl, by decide +kernel, rfl, by decide +kernel, by decide +kernel⟩
theorem ok__law_by (T : Tx w K mg) : Ok Pg w K mg base CX0 39 (He.ga K "_law_by") ["_law_frame_here", "_law_place", "_law_moves"] (spP K fLBy) := by
  refine ok_pure T.f__law_by sc__law_by (fun ds r h => by obtain ⟨f, p, m, rfl, hf, hp, _⟩ := h; rfl) (fun _ _ _ _ _ _ us hl => match us, hl with | [_, _, _], _ => rfl) fun cdv A outer s H E hr => ?_
  refine ⟨_, (pss_cons (ps_if (pt_cmpR op_eq (px (pv 0)) pe_str (nomark _)) (pss_one (ps_ret (pe_ifExp (pt_val (pv 2)) (pe_fn (ok__law_added T) (hr.mono (by decide)) T.g__law_added pass0 (pa_cons (pv 1) (pa_cons (pe_tup (pa_cons (px (pv 0)) (pa_cons (px (pv 0)) pa_nil))) pa_nil))) (pv 1)))) pss_nil) (pss_cons (ps_if (pt_cmpR op_eq (px (pv 0)) pe_str (nomark _)) (pss_one (ps_ret (pe_tup (pa_cons (px (pv 1)) (pa_cons (pe_tup (pa_cons (pe_op op_sub pe_int (px (px (pv 1)))) (pa_cons (px (px (pv 1))) pa_nil))) pa_nil))))) pss_nil) (pss_one (ps_ret (pe_fn (ok__law_turned T) (hr.mono (by decide)) T.g__law_turned pass0 (pa_cons (pv 1) (pa_cons (pe_fn (ok__law_heading T) (hr.mono (by decide)) T.g__law_heading pass0 (pa_cons (px (pv 0)) (pa_cons (px (pv 0)) pa_nil))) pa_nil))))))), ?_⟩
  rintro vs ds r D hv ⟨f, p, m, rfl, hf, hp, rfl⟩ hk _
  obtain ⟨v0, v1, v2, rfl, x0, x1, x2⟩ := hv.three
  rw [x2.bool_eq]
  cases f with
  | shift a b =>
    refine q_when (b := decide (("shift" : Str) = "shift")) (t_test (K := K) (d_eqS (d_ix (d_var x0 rfl) d_int rfl) d_str)) (fun _ H1 e1 => ?_) fun hb => absurd hb (by decide +kernel)
    replace x0 := x0.ex e1
    replace x1 := x1.ex e1
    refine s_retD (K := K) (d := pD (byL m (.shift a b) p)) ?_ fun v H2 e2 hd => hk v H2 (e1.trans e2) hd
    refine d_if (b := m) (t_B (K := K) (d_vbool rfl)) (fun hm => ?_) fun hm => ?_
    · rw [hm]
      exact d_turn (q := (a, b)) (ds_cons (d_var x1 rfl) (ds_cons (d_tup2 (ds_cons (d_ix (d_var x0 rfl) d_int rfl) (ds_cons (d_ix (d_var x0 rfl) d_int rfl) ds_nil))) ds_nil)) (hp.mono (by decide)) ⟨hf.1.mono (by decide), hf.2.mono (by decide)⟩
    · rw [hm]
      exact d_var x1 rfl
  | turn a b =>
    refine q_when (b := decide (("turn" : Str) = "shift")) (t_test (K := K) (d_eqS (d_ix (d_var x0 rfl) d_int rfl) d_str)) (fun hb => absurd hb (by decide +kernel)) fun _ H1 e1 => ?_
    refine q_when (b := decide (("turn" : Str) = "flip")) (t_test (K := K) (d_eqS (d_ix (d_var (x0.ex e1) rfl) d_int rfl) d_str)) (fun hb => absurd hb (by decide +kernel)) fun _ H2 e2 => ?_
    replace x0 := (x0.ex e1).ex e2
    replace x1 := (x1.ex e1).ex e2
    refine s_retD (K := K) (d := pD (trnP p (headP a b))) ?_ fun v H3 e3 hd => hk v H3 ((e1.trans e2).trans e3) (by cases m <;> exact hd)
    exact d_turn (ds_cons (d_var x1 rfl) (ds_cons (d_head (ds_cons (d_ix (d_var x0 rfl) d_int rfl) (ds_cons (d_ix (d_var x0 rfl) d_int rfl) ds_nil)) hf.1 hf.2.1 hf.2.2) ds_nil)) hp ((sm_head hf.1 hf.2.1 hf.2.2).mono (by decide))
  | flip =>
    refine q_when (b := decide (("flip" : Str) = "shift")) (t_test (K := K) (d_eqS (d_ix (d_var x0 rfl) d_int rfl) d_str)) (fun hb => absurd hb (by decide +kernel)) fun _ H1 e1 => ?_
    refine q_when (b := decide (("flip" : Str) = "flip")) (t_test (K := K) (d_eqS (d_ix (d_var (x0.ex e1) rfl) d_int rfl) d_str)) (fun _ H2 e2 => ?_) fun hb => absurd hb (by decide +kernel)
    replace x1 := (x1.ex e1).ex e2
    refine s_retD (K := K) (d := .tuple [nD p.1, .tuple [.int (0 - p.2.1), .int p.2.2]]) ?_ fun v H3 e3 hd => hk v H3 ((e1.trans e2).trans e3) (by cases m <;> exact hd)
    exact d_tup2 (ds_cons (d_ix (d_var x1 rfl) d_int rfl) (ds_cons (d_tup2 (ds_cons (d_ii (f := fun i j => i - j) d_int (d_ix (d_ix (d_var x1 rfl) d_int rfl) d_int rfl)) (ds_cons (d_ix (d_ix (d_var x1 rfl) d_int rfl) d_int rfl) ds_nil))) ds_nil))
theorem sc__law_led : FnScope ["_law_frames", "_law_place", "_law_moves", "_law_frame_here"] ["_law_frames", "_law_place", "_law_moves"] (defScope Kd.s__law_led) := ⟨rfl, rfl, rfl, by decide +kernel, rfl, by decide +kernel, by decide +kernel⟩
theorem ok__law_led (T : Tx w K mg) : Ok Pg w K mg base CX0 41 (He.ga K "_law_led") ["_law_frames", "_law_place", "_law_moves"] (spP K fLedL) := by
  refine ok_pure T.f__law_led sc__law_led (fun ds r h => by obtain ⟨fs, p, m, rfl, okf, hl, hs, _⟩ := h; rfl) (fun _ _ _ _ _ _ us hl => match us, hl with | [_, _, _], _ => rfl) fun cdv A outer s H E hr => ?_
  refine ⟨_, (pss_cons (ps_for PassesOwn.never rfl (pi_tup (pe_revT (pv 0))) (pg_name (i := 3) sc__law_led.nd rfl (Or.inl rfl)) (pss_one (ps_set (i := 1) sc__law_led.nd rfl (Or.inl rfl) (pe_fn (ok__law_by T) (hr.mono (by decide)) T.g__law_by pass0 (pa_cons (pv 3) (pa_cons (pv 1) (pa_cons (pv 2) pa_nil))))))) (pss_one (ps_ret (pv 1)))), ?_⟩
  rintro vs ds r D hv ⟨fs, p, m, rfl, okf, hl, hs, rfl⟩ hk _
  obtain ⟨v0, v1, v2, rfl, x0, x1, x2⟩ := hv.three
  rw [x2.bool_eq]
  refine q_forTD (K := K) (ds := (fs.map frD).reverse) (d_revT (d_var x0 rfl)) (fun i σ' H' => ∃ (vp : V) (o : Option V), σ' = [some v0, some vp, some (V.bl m), o] ∧ Ex H H' ∧ Dt K H' vp (pD ((fs.drop (fs.length - i)).foldr (byL m) p))) (fun H1 e1 => ⟨v1, none, rfl, e1, by
    rw [Nat.sub_zero, List.drop_length]
    exact x1.ex e1⟩) ?_ ?_
  · rintro i d x σ' H' hd hx ⟨vp, o, rfl, e2, hp⟩
    have hi : i < fs.length := by have := (List.getElem?_eq_some_iff.mp hd).1; simpa using this
    rw [List.getElem?_reverse (by simpa using hi), List.getElem?_map, List.length_map] at hd
    cases hf : fs[fs.length - 1 - i]? with
    | none => rw [hf] at hd; cases hd
    | some f =>
      rw [hf] at hd
      cases hd
      have step := drop_foldr (g := (byL m)) (p := p) hf
      rw [show fs.length - 1 - i + 1 = fs.length - i by omega] at step
      refine s_asgD (K := K) (d := pD ((byL m) f ((fs.drop (fs.length - i)).foldr (byL m) p))) (d_call (ds_cons (d_var hx rfl) (ds_cons (d_var hp rfl) (ds_cons (d_vbool rfl) ds_nil))) ⟨f, _, m, rfl, okf f (List.mem_of_getElem? hf), hs _, rfl⟩) fun v H3 e3 hv => ?_
      refine ⟨⟨v, some x, rfl, e2.trans e3, ?_⟩, .ex e3⟩
      rw [show fs.length - (i + 1) = fs.length - 1 - i by omega, step]
      exact hv
  · rintro σ' H' ⟨vp, o, rfl, e2, hp⟩
    rw [List.length_reverse, List.length_map, Nat.sub_self, List.drop_zero] at hp
    exact s_retD (K := K) (d := pD (fs.foldr (byL m) p)) (d_var hp rfl) fun v H3 e3 hd => hk v H3 (e2.trans e3) hd
theorem sc__law_back : FnScope ["_law_frames", "_law_place", "_law_frame_here"] ["_law_frames", "_law_place"] (defScope Kd.s__law_back) := ⟨rfl, rfl, rfl, by decide +kernel, rfl, by decide +kernel, by decide +kernel⟩
theorem ok__law_back (T : Tx w K mg) : Ok Pg w K mg base CX0 41 (He.ga K "_law_back") ["_law_frames", "_law_place"] (spP K fFrom) := by
  refine ok_pure T.f__law_back sc__law_back (fun ds r h => by obtain ⟨fs, p, rfl, okf, hl, hs, _⟩ := h; rfl) (fun _ _ _ _ _ _ us hl => match us, hl with | [_, _], _ => rfl) fun cdv A outer s H E hr => ?_
  refine ⟨_, (pss_cons (ps_for PassesOwn.never rfl (pi_tup (pv 0)) (pg_name (i := 2) sc__law_back.nd rfl (Or.inl rfl)) (pss_one (ps_if (pt_cmpR op_eq (px (pv 2)) pe_str (nomark _)) (pss_one (ps_set (i := 1) sc__law_back.nd rfl (Or.inl rfl) (pe_fn (ok__law_lessened T) (hr.mono (by decide)) T.g__law_lessened pass0 (pa_cons (pv 1) (pa_cons (pe_tup (pa_cons (px (pv 2)) (pa_cons (px (pv 2)) pa_nil))) pa_nil))))) (pss_one (ps_if (pt_cmpR op_eq (px (pv 2)) pe_str (nomark _)) (pss_one (ps_set (i := 1) sc__law_back.nd rfl (Or.inl rfl) (pe_tup (pa_cons (px (pv 1)) (pa_cons (pe_tup (pa_cons (pe_op op_sub pe_int (px (px (pv 1)))) (pa_cons (px (px (pv 1))) pa_nil))) pa_nil))))) (pss_one (ps_set (i := 1) sc__law_back.nd rfl (Or.inl rfl) (pe_fn (ok__law_turned T) (hr.mono (by decide)) T.g__law_turned pass0 (pa_cons (pv 1) (pa_cons (pe_fn (ok__law_heading T) (hr.mono (by decide)) T.g__law_heading pass0 (pa_cons (pe_op op_sub pe_int (px (pv 2))) (pa_cons (px (pv 2)) pa_nil))) pa_nil)))))))))) (pss_one (ps_ret (pv 1)))), ?_⟩
  rintro vs ds r D hv ⟨fs, p, rfl, okf, hl, hs, rfl⟩ hk _
  obtain ⟨v0, v1, rfl, x0, x1⟩ := hv.two
  refine q_forTD (K := K) (ds := fs.map frD) (d_var x0 rfl) (fun i σ' H' => ∃ (vp : V) (o : Option V), σ' = [some v0, some vp, o] ∧ Ex H H' ∧ Dt K H' vp (pD (fromP (fs.take i) p))) (fun H1 e1 => ⟨v1, none, rfl, e1, x1.ex e1⟩) ?_ ?_
  · rintro i d x σ' H' hd hx ⟨vp, o, rfl, e2, hp⟩
    rw [List.getElem?_map] at hd
    cases hf : fs[i]? with
    | none => rw [hf] at hd; cases hd
    | some f =>
      rw [hf] at hd
      cases hd
      have okf' := okf f (List.mem_of_getElem? hf)
      have hs' := hs i
      have fin : ∀ v H3, Ex H' H3 → Dt K H3 v (pD (backF f (fromP (fs.take i) p))) → (∃ (vp : V) (o : Option V), ([some v0, some v, some x] : L2.St) = [some v0, some vp, o] ∧ Ex H H3 ∧ Dt K H3 vp (pD (fromP (fs.take (i + 1)) p))) ∧ TK H' H3 := fun v H3 e3 hv => by
        refine ⟨⟨v, some x, rfl, e2.trans e3, ?_⟩, .ex e3⟩
        unfold fromP at hv ⊢
        rw [take_foldl hf]
        exact hv
      generalize fromP (fs.take i) p = q at hp hs' fin
      cases f with
      | shift a b =>
        refine s_if (b := decide (("shift" : Str) = "shift")) (t_test (K := K) (d_eqS (d_ix (d_var hx rfl) d_int rfl) d_str)) (fun _ H1 e1 => ?_) fun hb => absurd hb (by decide +kernel)
        refine s_asgD (K := K) (d := pD (subP q (a, b))) (d_turn (q := (a, b)) (ds_cons (d_var (hp.ex e1) rfl) (ds_cons (d_tup2 (ds_cons (d_ix (d_var (hx.ex e1) rfl) d_int rfl) (ds_cons (d_ix (d_var (hx.ex e1) rfl) d_int rfl) ds_nil))) ds_nil)) (hs'.mono (by decide)) ⟨okf'.1.mono (by decide), okf'.2.mono (by decide)⟩) fun v H3 e3 hv => fin v H3 (e1.trans e3) hv
      | turn a b =>
        refine s_if (b := decide (("turn" : Str) = "shift")) (t_test (K := K) (d_eqS (d_ix (d_var hx rfl) d_int rfl) d_str)) (fun hb => absurd hb (by decide +kernel)) fun _ H1 e1 => ?_
        refine s_if (b := decide (("turn" : Str) = "flip")) (t_test (K := K) (d_eqS (d_ix (d_var (hx.ex e1) rfl) d_int rfl) d_str)) (fun hb => absurd hb (by decide +kernel)) fun _ H2 e2' => ?_
        have g1 : ¬ ((0 - a) = 0 ∧ b = 0) := fun z => okf'.1 ⟨by omega, z.2⟩
        have g2 : (0 - a).natAbs < 128 := by have := okf'.2.1; omega
        replace hx := (hx.ex e1).ex e2'
        replace hp := (hp.ex e1).ex e2'
        refine s_asgD (K := K) (d := pD (trnP q (headP (0 - a) b))) (d_turn (ds_cons (d_var hp rfl) (ds_cons (d_head (ds_cons (d_ii (f := fun i j => i - j) d_int (d_ix (d_var hx rfl) d_int rfl)) (ds_cons (d_ix (d_var hx rfl) d_int rfl) ds_nil)) g1 g2 okf'.2.2) ds_nil)) hs' ((sm_head g1 g2 okf'.2.2).mono (by decide))) fun v H3 e3 hv => fin v H3 ((e1.trans e2').trans e3) hv
      | flip =>
        refine s_if (b := decide (("flip" : Str) = "shift")) (t_test (K := K) (d_eqS (d_ix (d_var hx rfl) d_int rfl) d_str)) (fun hb => absurd hb (by decide +kernel)) fun _ H1 e1 => ?_
        refine s_if (b := decide (("flip" : Str) = "flip")) (t_test (K := K) (d_eqS (d_ix (d_var (hx.ex e1) rfl) d_int rfl) d_str)) (fun _ H2 e2' => ?_) fun hb => absurd hb (by decide +kernel)
        replace hp := (hp.ex e1).ex e2'
        refine s_asgD (K := K) (d := .tuple [nD q.1, .tuple [.int (0 - q.2.1), .int q.2.2]]) (d_tup2 (ds_cons (d_ix (d_var hp rfl) d_int rfl) (ds_cons (d_tup2 (ds_cons (d_ii (f := fun i j => i - j) d_int (d_ix (d_ix (d_var hp rfl) d_int rfl) d_int rfl)) (ds_cons (d_ix (d_ix (d_var hp rfl) d_int rfl) d_int rfl) ds_nil))) ds_nil))) fun v H3 e3 hv => fin v H3 ((e1.trans e2').trans e3) hv
  · rintro σ' H' ⟨vp, o, rfl, e2, hp⟩
    rw [List.length_map, List.take_length] at hp
    exact s_retD (K := K) (d := pD (fromP fs p)) (d_var hp rfl) fun v H3 e3 hd => hk v H3 (e2.trans e3) hd
end
end Kx

set_option Elab.async false
set_option linter.all false
set_option maxRecDepth 100000
set_option maxHeartbeats 4000000
namespace Kx
open PySem PySem.Spec PyProof.Rows L2 Evl HT
/-! ### first, *rest = a list or a tuple -/
section
variable {prog : Program} {w : World} {A : Around} {E : Value → Shared → Prop} {s s1 : Shared} {I : Addr} {fp wr : List Addr} {n : Nat} {P : Nat → Value → Prop} {St : Nat → Heap → Prop}
/-- a walk behind its first turn -/
theorem walks_behind (W : Walks prog w A I fp wr (n + 1) P St) : Walks prog w A I fp wr n (fun i => P (i + 1)) (fun i => St (i + 1)) where
  sub := W.sub
  frame := fun i => W.frame (i + 1)
  item := fun i s Q E hi => W.item (i + 1) s Q E (by omega)
  done := W.done
  self := fun i => W.self (i + 1)
theorem unpack_star {v : Value} {T : String} {Q : List Value → Shared → Prop} (hT : T = "str_ascii_iterator" ∨ T = "str_iterator" ∨ T = "list_iterator" ∨ T = "tuple_iterator")
    (hn : ∀ Q' : Bool → Shared → Prop, Q' false s → wpAny (model prog w) A (notIterableAtAll v) Q' E s)
    (hi : ∀ Q' : Value → Shared → Prop, Q' (.ref I) s1 → wpAny (model prog w) A (pyIter v) Q' E s)
    (W : Walks prog w A.in1 I fp wr (n + 1) P St) (ty : ∀ i h, St i h → ∃ o, h.get? I = some o ∧ o.cls = .type T) (st : St 0 s1.heap) (hf : ∀ i h, St i h → ∀ b ∈ fp, b < h.objs.size) (hI : I ∈ fp) (hz : n ≤ sizeLine)
    (k : ∀ (x : Value) (acc : Array Value) (s2 : Shared), P 0 x → ItemsOf (fun i => P (i + 1)) acc n → (∀ b o, b ∉ wr → s1.heap.get? b = some o → s2.heap.get? b = some o) → s2.gens = s1.gens → s2.drawn = s1.drawn → s2.os = s1.os →
      Q [x, .ref s2.heap.objs.size] { s2 with heap := s2.heap.push { cls := .type "list", data := .seq acc.toList.toArray } }) :
    wpAny (model prog w) A (unpackItems v 2 (some 1)) Q E s := by
  unfold unpackItems
  refine wpAny_bind (hn _ ?_)
  rw [if_neg Bool.false_ne_true]
  refine wpAny_bind (wpAny_holding (hi _ ?_))
  dsimp only
  refine wpAny_bind (wpAny_holding ?_)
  show wpAny _ _ (pyNext (.ref I) >>= _) _ _ s1
  refine wpAny_bind (W.of_in1.item 0 s1 _ _ (by omega) st fun x h1 tk px st1 k1 => ?_)
  refine wpAny_bind (wpAny_holding (wpAny_pure (wpAny_pure ?_)))
  show wpAny _ _ (if ([x] : List Value).length < 1 then _ else _) _ _ _
  rw [if_neg (by show ¬ 1 < 1; decide)]
  refine wpAny_bind (wpAny_holding ?_)
  refine wpAny_collect_iter hT (walks_behind W).toS (fun i s0 z => ty (i + 1) s0.heap z) st1 (hf 1 h1 st1) hI (fun s2 acc m ha => ?_) hz
  show wpAny _ _ (if acc.toList.length < 2 - 1 - 1 then _ else _) _ _ s2
  rw [if_neg (by omega)]
  have e0 : acc.toList.length - (2 - 1 - 1) = acc.toList.length := by omega
  show wpAny _ _ (newList (acc.toList.take (acc.toList.length - (2 - 1 - 1))) >>= _) _ _ s2
  rw [e0, List.take_length]
  refine wpAny_bind (wpAny_newList (wpAny_pure ?_) (by rw [Array.length_toList, ha.1]; exact hz))
  show Q ([x] ++ [.ref s2.heap.objs.size] ++ acc.toList.drop (acc.toList.length - (2 - 1 - 1))) _
  rw [e0, List.drop_length, List.append_nil]
  exact k x acc s2 px ha (fun b o hb e => m.heap b o hb (k1 b o hb e)) m.gens m.drawn m.os
end
theorem items_cons {its : List Value} {x : Value} {acc : Array Value} {n : Nat} (hl : its.length = n + 1) (h0 : its.toArray[0]? = some x) (ha : ItemsOf (fun i v => its.toArray[i + 1]? = some v) acc n) : its = x :: acc.toList := by
  cases its with
  | nil => simp at hl
  | cons y ys =>
    have e : y = x := by simpa using h0
    subst e
    congr 1
    refine List.ext_getElem? fun j => ?_
    by_cases hj : j < n
    · have hj' : j < acc.size := by rw [ha.1]; exact hj
      have h2 : acc[j]? = some acc[j] := by simp [hj']
      have h3 := ha.2 j _ h2
      simp at h3
      rw [h3, Array.getElem?_toList, h2]
    · have l1 : ys.length = n := by simpa using hl
      rw [List.getElem?_eq_none (by omega), List.getElem?_eq_none (by rw [Array.length_toList, ha.1]; omega)]
section
variable {X : Cx} {pos : Pos}
/-- x, *rest = a tuple or a list -/
def gStar (K : PySem.W.Frag) (t u : TG) : TG := fun v σ H Q => ∃ a x xs, v = .ref a ∧ (SqT K H a (x :: xs) ∨ SqL K H a (x :: xs)) ∧ ∀ p, H p = none → t x σ (upd H p (.lst xs)) fun σ' H' => u (.ref p) σ' H' Q
theorem pg_star {e1 e2 : Expr} {k : Nat} {t u : TG} {ps : Pos} (hc : X.calm = true) (h1 : PG X e1 t) (h2 : PG X e2 u) (he : assignEach [e1, .Starred e2 ps] X.env = [(false, assign e1 X.env), (true, assign e2 X.env)] := by rfl) :
    PG X (.Tuple [e1, .Starred e2 ps] k pos) (gStar X.K t u) := by
  refine ⟨fun pins s σ H v u' Q I r hw => ?_⟩
  obtain ⟨a, x, xs, e1', hq, hw⟩ := hw
  subst e1'
  cases r
  rw [arm_assign_Tuple, he]
  refine wpAny_bind (wpAny_standAt ?_)
  unfold unpack
  show wpAny _ _ (holding [.ref a] (unpackItems (.ref a) 2 (some 1)) >>= fun is => assignInOrder [assign e1 X.env, assign e2 X.env] is) _ _ s
  refine wpAny_bind (wpAny_holding ?_)
  have tail : ∀ (its : List Value), Vals (x :: xs) its → (x :: xs).length ≤ sizeLine → ∀ (s2 : Shared) (x' : Value) (acc : Array Value), its = x' :: acc.toList → (∀ b o, s.heap.get? b = some o → s2.heap.get? b = some o) → s2.gens = s.gens → s2.drawn = s.drawn → s2.os = s.os →
      wpAny (model X.prog X.w) X.A (assignInOrder [assign e1 X.env, assign e2 X.env] [x', .ref s2.heap.objs.size]) (fun _ s' => ∃ σ' H', Inv X pins σ' H' s' ∧ Q σ' H') X.xe { s2 with heap := s2.heap.push { cls := .type "list", data := .seq acc.toList.toArray } } := by
    intro its rv hz s2 x' acc e hk hg hd ho
    subst e
    cases rv with
    | cons rx rr =>
      have I2 : Inv X pins σ H { s with heap := s2.heap, toks := s2.toks } := I.kept hk
      have es : s2 = { s with heap := s2.heap, toks := s2.toks } := by
        cases s2
        simp only at hg hd ho
        subst hg hd ho
        rfl
      have I3 : Inv X pins σ (upd H s2.heap.objs.size (.lst xs)) { s with heap := s2.heap.push { cls := .type "list", data := .seq acc.toList.toArray }, toks := s2.toks } := by
        refine I2.laid (t' := s2.toks) (o := .lst xs) (fun b ob z => Heap.get?_push_of_some _ z) (Nat.le_refl _) ?_
        exact ⟨by simp at hz; omega, acc.toList, 0, rr, Heap.get?_push_size _ rfl⟩
      have e4 : ({ s2 with heap := s2.heap.push { cls := .type "list", data := .seq acc.toList.toArray } } : Shared) = { s with heap := s2.heap.push { cls := .type "list", data := .seq acc.toList.toArray }, toks := s2.toks } := by
        rw [es]
      rw [e4]
      refine assignInOrder_cons (thn (h1.run pins _ σ _ _ _ _ I3 rx (hw _ (I2.hok.fresh (Nat.le_refl _)))) fun _ s4 ⟨σ1, H1, I4, q1⟩ => ?_)
      refine assignInOrder_cons (thn (h2.run pins s4 σ1 H1 (.ref s2.heap.objs.size) _ _ I4 (show RelV (.ref s2.heap.objs.size) _ from rfl) q1) fun _ s5 ⟨σ2, H2, I5, q2⟩ => ?_)
      exact assignInOrder_nil ⟨σ2, H2, I5, q2⟩
  rcases hq with hq | hq
  · obtain ⟨its, rv, ht, hz⟩ := I.tuple hq
    have hl : its.length = xs.length + 1 := rv.length.symm
    have ne : a ≠ s.heap.objs.size := by obtain ⟨o, ho, _⟩ := ht; exact Nat.ne_of_lt (Heap.lt_size ho)
    have st0 : (s.heap.push { cls := .type "tuple_iterator", data := .fields #[.ref a, .int 0 0] }).IsTupleIter s.heap.objs.size a 0 := ⟨_, Heap.get?_push_size _ rfl, rfl, rfl⟩
    have st1 : (s.heap.push { cls := .type "tuple_iterator", data := .fields #[.ref a, .int 0 0] }).IsTuple a its.toArray := ht.push _
    have W := Walks.tuple (prog := X.prog) (w := X.w) (A := X.A.in1) (I.ok.hd hc) s.heap.objs.size a ne its.toArray
    rw [show its.toArray.size = xs.length + 1 by rw [List.size_toArray]; exact hl] at W
    refine unpack_star (T := "tuple_iterator") (n := xs.length) (by decide) (fun Q' q => by
        unfold notIterableAtAll
        refine wpAny_bind (wpAny_specialOf ht.typeIs PyProof.Rows.slot_tuple_iter.lookup ?_)
        exact wpAny_pure q) (fun Q' q => iter_tuple ht q) W
      (fun i h st => by
        obtain ⟨⟨o, z1, z2, _⟩, _⟩ := st
        exact ⟨o, z1, z2⟩) ⟨st0, st1⟩
      (fun i h st b hb => by
        obtain ⟨⟨o, z1, _⟩, ⟨o', z1', _⟩⟩ := st
        simp at hb
        rcases hb with rfl | rfl
        · exact Heap.lt_size z1
        · exact Heap.lt_size z1') (by simp) (by simp at hz; omega) fun x' acc s2 px ha hk hg hd ho => ?_
    exact tail its rv hz s2 x' acc (items_cons hl px ha) (fun b o e => hk b o (by simp; exact Nat.ne_of_lt (Heap.lt_size e)) (Heap.get?_push_of_some _ e)) hg hd ho
  · obtain ⟨its, rv, ht, hz⟩ := I.list hq
    have hl : its.length = xs.length + 1 := rv.length.symm
    have ne : a ≠ s.heap.objs.size := by obtain ⟨o, n, ho, _⟩ := ht; exact Nat.ne_of_lt (Heap.lt_size ho)
    have st0 : (s.heap.push { cls := .type "list_iterator", data := .fields #[.ref a, .int 0 0] }).IsListIter s.heap.objs.size a 0 := ⟨_, Heap.get?_push_size _ rfl, rfl, rfl⟩
    have st1 : (s.heap.push { cls := .type "list_iterator", data := .fields #[.ref a, .int 0 0] }).IsList a its.toArray := (ht.keeps fun b o z => Heap.get?_push_of_some _ z).isList
    have W := Walks.list (prog := X.prog) (w := X.w) (A := X.A.in1) (I.ok.hd hc) s.heap.objs.size a ne its.toArray
    rw [show its.toArray.size = xs.length + 1 by rw [List.size_toArray]; exact hl] at W
    refine unpack_star (T := "list_iterator") (n := xs.length) (by decide) (fun Q' q => by
        unfold notIterableAtAll
        refine wpAny_bind (wpAny_specialOf ht.isList.typeIs PySem.slot_list_iter.lookup ?_)
        exact wpAny_pure q) (fun Q' q => wpAny_pyIter_list ht.isList q) W
      (fun i h st => by
        obtain ⟨⟨o, z1, z2, _⟩, _⟩ := st
        exact ⟨o, z1, z2⟩) ⟨st0, st1⟩
      (fun i h st b hb => by
        obtain ⟨⟨o, z1, _⟩, ⟨o', z1', _⟩⟩ := st
        simp at hb
        rcases hb with rfl | rfl
        · exact Heap.lt_size z1
        · exact Heap.lt_size z1') (by simp) (by simp at hz; omega) fun x' acc s2 px ha hk hg hd ho => ?_
    exact tail its rv hz s2 x' acc (items_cons hl px ha) (fun b o e => hk b o (by simp; exact Nat.ne_of_lt (Heap.lt_size e)) (Heap.get?_push_of_some _ e)) hg hd ho
end
end Kx

set_option Elab.async false
set_option linter.all false
set_option maxRecDepth 100000
set_option maxHeartbeats 4000000
namespace Kx
open PySem PySem.Spec PyProof.Rows L2 Evl HT
/-! ### for x, y in zip(text, list, strict=True) -/
abbrev ZipT (h : Heap) (z ti tr : Addr) (f0 : Value) : Prop := h.get? z = some { cls := .type "zip", dict := none, data := .fields #[f0, .bool false, .bool true, .ref ti, .ref tr], slots := #[] }
abbrev Pr2 (h : Heap) (T : Addr) (a b : Value) : Prop := h.get? T = some { cls := .type "tuple", data := .seq #[a, b] }
theorem zt_type (a b t : Value) : checkTypeCall "zip" ⟨[a, b], [(Str.ofString "strict", t)]⟩ = pure () := by kernel_rfl
theorem zt_new (a b t : Value) : checkBuiltinCall "zip.__new__" ⟨[.type "zip", a, b], [(Str.ofString "strict", t)]⟩ = pure () := by kernel_rfl
theorem zt_init (ob a b t : Value) : argsOk "object.__init__" ⟨[ob, a, b], [(Str.ofString "strict", t)]⟩ := by unfold argsOk; kernel_rfl
abbrev zhT (h : Heap) (o u : Obj) : Heap := ((h.push o).push u).push { cls := .type "tuple", data := .seq #[.ref h.objs.size, .ref (h.push o).objs.size] }
abbrev zhO (h : Heap) (o u : Obj) : Heap := (zhT h o u).push { cls := .type "tuple", data := .seq #[.none, .none] }
abbrev zhZ (h : Heap) (o u : Obj) : Heap := (zhO h o u).push { cls := .type "zip", data := .fields #[.none, .bool false, .bool true, .ref ((h.push o).push u).objs.size, .ref (zhT h o u).objs.size] }
theorem meets_zt {x y : Value} {o u : Obj} {P1 P2 : Heap → Prop} (B1 : Begins x o P1) (B2 : Begins y u P2) :
    Meets (Builtin.«zip.__new__» ⟨[.type "zip", x, y], [(Str.ofString "strict", .bool true)]⟩) (fun _ R s => (P1 s.heap ∧ P2 s.heap) ∧ R (.ok (.ret (.ref (zhO s.heap o u).objs.size))) { s with heap := zhZ s.heap o u }) :=
  .of_wp fun prog w A R s h => by
    obtain ⟨hp, g, d, tk, os⟩ := s; obtain ⟨⟨h1, h2⟩, h⟩ := h
    have hsub := sub_zip
    have q1 : ∀ {B : Around} {E : Value → Shared → Prop} {Q : Value → Shared → Prop}, Q (.ref hp.objs.size) ⟨hp.push o, g, d, tk, os⟩ → wpAny (model prog w) B (pyIter x) Q E ⟨hp, g, d, tk, os⟩ :=
      fun q => B1.iter prog w _ _ ⟨hp, g, d, tk, os⟩ _ (B1.keeps _ _ h1 fun b ob e => e) q
    have q2 : ∀ {B : Around} {E : Value → Shared → Prop} {Q : Value → Shared → Prop}, Q (.ref (hp.push o).objs.size) ⟨(hp.push o).push u, g, d, tk, os⟩ → wpAny (model prog w) B (pyIter y) Q E ⟨hp.push o, g, d, tk, os⟩ :=
      fun q => B2.iter prog w _ _ ⟨hp.push o, g, d, tk, os⟩ _ (B2.keeps _ _ h2 fun b ob e => (Heap.get?_push_of_some _ e)) q
    have e1 : (Str.ofString "strict" == ("strict" : Str)) = true := by decide +kernel
    have e2 : (Str.ofString "strict" != ("strict" : Str)) = false := by decide +kernel
    wp_walk using q1, q2
    all_goals first | exact ⟨_, rfl, h⟩ | skip
section
variable {prog : Program} {w : World} {A : Around} {E : Value → Shared → Prop} {s : Shared}
theorem zt_begins {x y : Value} {o u : Obj} {P1 P2 : Heap → Prop} {Q : Value → Shared → Prop} (B1 : Begins x o P1) (B2 : Begins y u P2) (h1 : P1 s.heap) (h2 : P2 s.heap)
    (h : ∀ g, ZipT g (s.heap.objs.size + 4) (s.heap.objs.size + 2) (s.heap.objs.size + 3) .none → Pr2 g (s.heap.objs.size + 2) (.ref s.heap.objs.size) (.ref (s.heap.objs.size + 1)) → Pr2 g (s.heap.objs.size + 3) .none .none →
      g.get? s.heap.objs.size = some o → g.get? (s.heap.objs.size + 1) = some u → (∀ c ob, s.heap.get? c = some ob → g.get? c = some ob) → Q (.ref (s.heap.objs.size + 4)) { s with heap := g }) :
    wpAny (model prog w) A (call (.type "zip") [x, y] [(Str.ofString "strict", .bool true)]) Q E s := by
  refine callType_newKw F.called_zip (by decide) (zt_type _ _ _) (zt_new _ _ _) (fun ob => zt_init ob _ _ _) F.entry_zip_new (meets_zt B1 B2) ⟨⟨h1, h2⟩, ?_⟩
  have z1 : (s.heap.push o).objs.size = s.heap.objs.size + 1 := by rw [Heap.size_push]
  have z2 : ((s.heap.push o).push u).objs.size = s.heap.objs.size + 2 := by rw [Heap.size_push, z1]
  have z3 : (zhT s.heap o u).objs.size = s.heap.objs.size + 3 := by rw [Heap.size_push, z2]
  have z4 : (zhO s.heap o u).objs.size = s.heap.objs.size + 4 := by rw [Heap.size_push, z3]
  have g5 : ZipT (zhZ s.heap o u) (zhO s.heap o u).objs.size ((s.heap.push o).push u).objs.size (zhT s.heap o u).objs.size .none := Heap.get?_push_size _ rfl
  have g4 : Pr2 (zhZ s.heap o u) (zhT s.heap o u).objs.size .none .none := Heap.get?_push_of_some _ (Heap.get?_push_size _ rfl)
  have g3 : Pr2 (zhZ s.heap o u) ((s.heap.push o).push u).objs.size (.ref s.heap.objs.size) (.ref (s.heap.push o).objs.size) := Heap.get?_push_of_some _ (Heap.get?_push_of_some _ (Heap.get?_push_size _ rfl))
  have k1 : (zhZ s.heap o u).get? s.heap.objs.size = some o := Heap.get?_push_of_some _ (Heap.get?_push_of_some _ (Heap.get?_push_of_some _ (Heap.get?_push_of_some _ (Heap.get?_push_size _ B1.free))))
  have k2 : (zhZ s.heap o u).get? (s.heap.push o).objs.size = some u := Heap.get?_push_of_some _ (Heap.get?_push_of_some _ (Heap.get?_push_of_some _ (Heap.get?_push_size _ B2.free)))
  rw [z4, z3, z2] at g5
  rw [z3] at g4
  rw [z2, z1] at g3
  rw [z1] at k2
  show _ ∧ _
  rw [z4]
  exact ⟨⟨_, g5, rfl⟩, h _ g5 g3 g4 k1 k2 fun c ob e => Heap.get?_push_of_some _ (Heap.get?_push_of_some _ (Heap.get?_push_of_some _ (Heap.get?_push_of_some _ (Heap.get?_push_of_some _ e))))⟩
end
section
variable {prog : Program} {w : World} {A : Around} {E : Value → Shared → Prop} {s : Shared} {z TI TO i1 i2 : Addr} {fp1 fp2 : List Addr} {n1 n2 i : Nat} {P1 P2 : Nat → Value → Prop} {S1 S2 : Nat → Heap → Prop} {a1 a2 : Value}
theorem noe_item {it : Addr} {fp : List Addr} {n : Nat} {P : Nat → Value → Prop} {St : Nat → Heap → Prop} {Q : Option Value → Shared → Prop} (D : Draws prog w A it fp n P St) (hi : i < n) (st : St i s.heap)
    (h : ∀ x g tk, P i x → St (i + 1) g → Heap.SameBut it s.heap g → Q (some x) { s with heap := g, toks := tk }) : wpAny (model prog w) A (Builtin.SmallTypes.nextOrEnd (.ref it)) Q E s := by
  unfold Builtin.SmallTypes.nextOrEnd
  exact wpAny_bind (wpAny_attempt (D.item i s _ _ hi st fun x g tk px st' sb => wpAny_pure (h x g tk px st' sb)))
theorem noe_done {it : Addr} {fp : List Addr} {n : Nat} {P : Nat → Value → Prop} {St : Nat → Heap → Prop} {Q : Option Value → Shared → Prop} (D : Draws prog w A it fp n P St) (st : St n s.heap)
    (h : ∀ g, Heap.ExtBut it s.heap g → Q none { s with heap := g }) : wpAny (model prog w) A (Builtin.SmallTypes.nextOrEnd (.ref it)) Q E s := by
  unfold Builtin.SmallTypes.nextOrEnd
  refine wpAny_bind (wpAny_attempt (D.done s _ _ st fun g e eb he => ?_))
  obtain ⟨o, ho, hc⟩ := he
  refine wpAny_bind (wpAny_isInstance (T := "StopIteration") (b := true) ⟨o, ho, hc⟩ isSubtype_stop ?_)
  exact wpAny_pure (h g eb)
theorem zt_next (S : ZipSep2 z TI TO i1 i2 fp1 fp2) (D1 : Draws prog w A i1 fp1 n1 P1 S1) (D2 : Draws prog w A i2 fp2 n2 P2 S2) {Q : Value → Shared → Prop}
    (hz : ZipT s.heap z TI TO .none) (hTI : Pr2 s.heap TI (.ref i1) (.ref i2)) (hTO : Pr2 s.heap TO a1 a2) (st1 : S1 i s.heap) (st2 : S2 i s.heap) (l1 : i < n1) (l2 : i < n2)
    (hQ : ∀ x y g tk, P1 i x → P2 i y → ZipT g z TI TO (rawInt s.heap.objs.size) → Pr2 g TO x y → S1 (i + 1) g → S2 (i + 1) g → Pr2 g s.heap.objs.size x y →
      (∀ c o, c ≠ z → c ≠ TO → c ≠ i1 → c ≠ i2 → s.heap.get? c = some o → g.get? c = some o) → Q (.ref s.heap.objs.size) { s with heap := g, toks := tk }) :
    wpAny (model prog w) A (Builtin.«zip.__next__» ⟨[.ref z], []⟩) (fun fin s' => ∃ v, fin = .done (.ret v) ∧ Q v s') E s := by
  obtain ⟨hp, g, d, tk0, os⟩ := s
  show wpAny _ _ (field (.ref z) 2 >>= _) _ _ _
  refine wpAny_bind (wpAny_field hz rfl (x := .bool true) rfl ?_)
  show wpAny _ _ (field (.ref z) 3 >>= _) _ _ _
  refine wpAny_bind (wpAny_field hz rfl (x := .ref TI) rfl (wpAny_bind (wpAny_seqItems hTI rfl ?_)))
  show wpAny _ _ (Builtin.SmallTypes.ownedTupleIsFree (.ref z) >>= _) _ _ _
  refine wpAny_bind ?_
  unfold Builtin.SmallTypes.ownedTupleIsFree
  refine wpAny_bind (wpAny_field hz rfl (x := .none) rfl (wpAny_pure ?_))
  simp only [if_true]
  refine wpAny_bind (wpAny_rule (wpAny_bind (wpAny_field hz rfl (x := .ref TO) rfl (wpAny_bind (wpAny_setField_rec hz (by simp) fun g0 hz0 hs0 => ?_)))))
  replace hz0 : ZipT g0 z TI TO .ellipsis := hz0
  replace hs0 : Heap.SameBut z hp g0 := hs0
  refine wpAny_bind ?_
  simp only [List.zipIdx_cons, List.zipIdx_nil, List.forIn_cons, List.forIn_nil]
  refine wpAny_bind (wpAny_bind (wpAny_onRaise ?_))
  show wpAny _ _ (Builtin.SmallTypes.nextOrEnd (.ref i1)) _ _ ⟨g0, g, d, tk0, os⟩
  refine noe_item D1 l1 (D1.over st1 hs0 S.zf1) fun x1 p1 tk1 hx1 sn1 hp1 => ?_
  replace hp1 : Heap.SameBut i1 g0 p1 := hp1
  have hU1 : Pr2 p1 TO a1 a2 := hp1.extBut _ _ S.Ti1 (hs0.extBut _ _ S.TOz hTO)
  refine wpAny_bind (wpAny_seqItems (s := ⟨p1, g, d, tk1, os⟩) hU1 rfl (wpAny_bind (updateSeq_IsTupOf2 (s := ⟨p1, g, d, tk1, os⟩) hU1 fun g1 hT1 hs1 => ?_)))
  replace hT1 : Pr2 g1 TO x1 a2 := hT1
  replace hs1 : Heap.SameBut TO p1 g1 := hs1
  refine wpAny_bind (wpAny_letGo (wpAny_pure (wpAny_bind (wpAny_bind (wpAny_onRaise ?_)))))
  show wpAny _ _ (Builtin.SmallTypes.nextOrEnd (.ref i2)) _ _ ⟨g1, g, d, tk1, os⟩
  refine noe_item D2 l2 (D2.over (D2.over (D2.over st2 hs0 S.zf2) hp1 S.sep1_2) hs1 S.Tf2) fun x2 p2 tk2 hx2 sn2 hp2 => ?_
  replace hp2 : Heap.SameBut i2 g1 p2 := hp2
  have hU2 : Pr2 p2 TO x1 a2 := hp2.extBut _ _ S.Ti2 hT1
  refine wpAny_bind (wpAny_seqItems (s := ⟨p2, g, d, tk2, os⟩) hU2 rfl (wpAny_bind (updateSeq_IsTupOf2 (s := ⟨p2, g, d, tk2, os⟩) hU2 fun g2 hT2 hs2 => ?_)))
  replace hT2 : Pr2 g2 TO x1 x2 := hT2
  replace hs2 : Heap.SameBut TO p2 g2 := hs2
  refine wpAny_bind (wpAny_letGo (wpAny_pure (wpAny_pure (wpAny_bind (wpAny_seqItems (s := ⟨g2, g, d, tk2, os⟩) hT2 rfl (wpAny_bind (wpAny_newTuple ?_)))))))
  have hsz : g2.objs.size = hp.objs.size := by rw [hs2.1, hp2.1, hs1.1, hp1.1, hs0.1]
  have hzz : ZipT g2 z TI TO .ellipsis := (hs2.extBut _ _ S.TOz.symm (hp2.extBut _ _ S.zi2 (hs1.extBut _ _ S.TOz.symm (hp1.extBut _ _ S.zi1 hz0))))
  have hkk : ∀ c o, c ≠ z → c ≠ TO → c ≠ i1 → c ≠ i2 → hp.get? c = some o → g2.get? c = some o := fun c o cz cT c1 c2 e => (hs2.extBut _ _ cT (hp2.extBut _ _ c2 (hs1.extBut _ _ cT (hp1.extBut _ _ c1 (hs0.extBut _ _ cz e)))))
  have hj1 : S1 (i + 1) g2 := (D1.over (D1.over (D1.over sn1 hs1 S.Tf1) hp2 S.sep2_1) hs2 S.Tf1)
  have hj2 : S2 (i + 1) g2 := (D2.over sn2 hs2 S.Tf2)
  have hzlt : z < g2.objs.size := Heap.lt_size hzz
  show wpAny _ _ (Builtin.SmallTypes.ownedTupleHandOut (.ref z) (.ref g2.objs.size) >>= _) _ _ ⟨g2.push { cls := .type "tuple", data := .seq #[x1, x2] }, g, d, tk2, os⟩
  refine wpAny_bind ?_
  unfold Builtin.SmallTypes.ownedTupleHandOut
  have hz3 : ZipT (g2.push { cls := .type "tuple", data := .seq #[x1, x2] }) z TI TO .ellipsis := Heap.get?_push_of_some _ hzz
  refine wpAny_bind (wpAny_setField_rec hz3 (by simp) fun g4 hz4 hs4 => ?_)
  replace hz4 : ZipT g4 z TI TO (rawInt g2.objs.size) := hz4
  refine wpAny_setField_rec hz4 (by simp) fun g5 hz5 hs5 => ?_
  replace hz5 : ZipT g5 z TI TO (rawInt g2.objs.size) := hz5
  replace hs4 : Heap.SameBut z (g2.push { cls := .type "tuple", data := .seq #[x1, x2] }) g4 := hs4
  replace hs5 : Heap.SameBut z g4 g5 := hs5
  have up : ∀ c o, c ≠ z → g2.get? c = some o → g5.get? c = some o := fun c o c1 e => hs5.extBut _ _ c1 (hs4.extBut _ _ c1 (Heap.get?_push_of_some _ e))
  have hT5 : Pr2 g5 g2.objs.size x1 x2 := hs5.extBut _ _ (Nat.ne_of_gt hzlt) (hs4.extBut _ _ (Nat.ne_of_gt hzlt) (Heap.get?_push_size _ rfl))
  rw [hsz] at hz5 hT5
  refine wpAny_pure ⟨_, rfl, ?_⟩
  show Q (.ref g2.objs.size) ⟨g5, g, d, tk2, os⟩
  rw [hsz]
  exact hQ x1 x2 g5 tk2 hx1 hx2 hz5 (up _ _ S.TOz hT2) (D1.frame _ _ _ hj1 fun b hb o e => up b o (fun q => S.zf1 (q ▸ hb)) e) (D2.frame _ _ _ hj2 fun b hb o e => up b o (fun q => S.zf2 (q ▸ hb)) e) hT5 fun c o cz cT c1 c2 e => up c o cz (hkk c o cz cT c1 c2 e)
/-- both end together -/
theorem zt_end (S : ZipSep2 z TI TO i1 i2 fp1 fp2) (hh : A.handled = none) (D1 : Draws prog w A i1 fp1 n1 P1 S1) (D2 : Draws prog w A i2 fp2 n1 P2 S2) {Q : Fin → Shared → Prop}
    (hz : ZipT s.heap z TI TO .none) (hTI : Pr2 s.heap TI (.ref i1) (.ref i2)) (hTO : Pr2 s.heap TO a1 a2) (st1 : S1 n1 s.heap) (st2 : S2 n1 s.heap)
    (hE : ∀ g tk e, (∀ c o, c ≠ z → c ≠ TO → c ≠ i1 → c ≠ i2 → s.heap.get? c = some o → g.get? c = some o) → (∃ o, g.get? e = some o ∧ o.cls = .type "StopIteration") → E (.ref e) { s with heap := g, toks := tk }) :
    wpAny (model prog w) A (Builtin.«zip.__next__» ⟨[.ref z], []⟩) Q E s := by
  obtain ⟨hp, g, d, tk0, os⟩ := s
  show wpAny _ _ (field (.ref z) 2 >>= _) _ _ _
  refine wpAny_bind (wpAny_field hz rfl (x := .bool true) rfl ?_)
  show wpAny _ _ (field (.ref z) 3 >>= _) _ _ _
  refine wpAny_bind (wpAny_field hz rfl (x := .ref TI) rfl (wpAny_bind (wpAny_seqItems hTI rfl ?_)))
  show wpAny _ _ (Builtin.SmallTypes.ownedTupleIsFree (.ref z) >>= _) _ _ _
  refine wpAny_bind ?_
  unfold Builtin.SmallTypes.ownedTupleIsFree
  refine wpAny_bind (wpAny_field hz rfl (x := .none) rfl (wpAny_pure ?_))
  simp only [if_true]
  refine wpAny_bind (wpAny_rule (wpAny_bind (wpAny_field hz rfl (x := .ref TO) rfl (wpAny_bind (wpAny_setField_rec hz (by simp) fun g0 hz0 hs0 => ?_)))))
  replace hz0 : ZipT g0 z TI TO .ellipsis := hz0
  replace hs0 : Heap.SameBut z hp g0 := hs0
  refine wpAny_bind ?_
  simp only [List.zipIdx_cons, List.zipIdx_nil, List.forIn_cons, List.forIn_nil]
  refine wpAny_bind (wpAny_bind (wpAny_onRaise ?_))
  show wpAny _ _ (Builtin.SmallTypes.nextOrEnd (.ref i1)) _ _ ⟨g0, g, d, tk0, os⟩
  refine noe_done D1 (D1.over st1 hs0 S.zf1) fun p1 hp1 => ?_
  replace hp1 : Heap.ExtBut i1 g0 p1 := hp1
  have hz1 : ZipT p1 z TI TO .ellipsis := hp1 _ _ S.zi1 hz0
  refine wpAny_bind (wpAny_setField_rec (s := ⟨p1, g, d, tk0, os⟩) hz1 (by simp) fun g1 hz2 hs1 => ?_)
  replace hs1 : Heap.SameBut z p1 g1 := hs1
  refine wpAny_bind ?_
  wp_delta
  rw [if_neg (by decide)]
  have hz2' : ZipT g1 z TI TO .none := hz2
  refine wpAny_bind (m := forIn (([.ref i1, .ref i2] : List Value).drop 1 |>.zipIdx 1) _ _) ?_
  show wpAny _ _ (forIn ([((.ref i2 : Value), 1)] : List (Value × Nat)) _ _) _ _ _
  simp only [List.forIn_cons, List.forIn_nil]
  refine wpAny_bind (wpAny_bind ?_)
  refine noe_done (s := ⟨g1, g, d, tk0, os⟩) D2 (D2.over (D2.frame _ _ _ (D2.over st2 hs0 S.zf2) fun b hb o e => hp1 b o (fun q => S.sep1_2 (q ▸ hb)) e) hs1 S.zf2) fun p2 hp2 => ?_
  replace hp2 : Heap.ExtBut i2 g1 p2 := hp2
  show wpAny _ _ (if (none : Option Value).isSome = true then _ else _) _ _ _
  rw [if_neg (by decide)]
  refine wpAny_pure (wpAny_pure ?_)
  refine wpAny_bind (wpAny_rule ?_)
  show wpAny _ _ (newExc (.type "StopIteration") [] >>= _) _ _ _
  simp only [newExc, newTuple]
  refine wpAny_bind (wpAny_bind (wpAny_newObj_type ?_ (by size_fits)))
  refine wpAny_bind (m := firstArgMember _ _) (wpAny_of_eq (a := Value.none) (by first | rfl | (simp only [firstArgMember]; rfl)) (wpAny_newObj_type ?_ (by size_fits)))
  simp only [raiseNew]
  refine wpAny_bind (wpAny_handled ?_)
  rw [hh]
  refine wpAny_bind (wpAny_pure (wpAny_throw ?_))
  exact hE _ _ _ (fun c o cz cT c1 c2 e => Heap.get?_push_of_some _ (Heap.get?_push_of_some _ (hp2 _ _ c2 (hs1.extBut _ _ cz (hp1 _ _ c1 (hs0.extBut _ _ cz e)))))) ⟨_, Heap.get?_push_size _ rfl, rfl⟩
theorem zt_pyNext (S : ZipSep2 z TI TO i1 i2 fp1 fp2) (D1 : Draws prog w A.in1 i1 fp1 n1 P1 S1) (D2 : Draws prog w A.in1 i2 fp2 n2 P2 S2) {Q : Option Value → Shared → Prop}
    (hz : ZipT s.heap z TI TO .none) (hTI : Pr2 s.heap TI (.ref i1) (.ref i2)) (hTO : Pr2 s.heap TO a1 a2) (st1 : S1 i s.heap) (st2 : S2 i s.heap) (l1 : i < n1) (l2 : i < n2)
    (hQ : ∀ x y g tk, P1 i x → P2 i y → ZipT g z TI TO (rawInt s.heap.objs.size) → Pr2 g TO x y → S1 (i + 1) g → S2 (i + 1) g → Pr2 g s.heap.objs.size x y →
      (∀ c o, c ≠ z → c ≠ TO → c ≠ i1 → c ≠ i2 → s.heap.get? c = some o → g.get? c = some o) → Q (some (.ref s.heap.objs.size)) { s with heap := g, toks := tk }) : wpAny (model prog w) A (pyNext (.ref z)) Q E s := by
  have hT : s.TypeIs (.ref z) "zip" := ⟨_, hz, rfl⟩
  unfold pyNext
  exact wpAny_bind (wpAny_attempt (wpAny_callSpecial?_slot (name := Str.ofString "__next__") hT F.slot_zip_next (wpAny_call_entry F.slot_zip_next hT F.entry_zip_next
      (zt_next S D1 D2 hz hTI hTO st1 st2 l1 l2 fun x y g tk b1 b2 b3 b4 b5 b6 b7 b8 => wpAny_pure (hQ x y g tk b1 b2 b3 b4 b5 b6 b7 b8)) (F.args_zip_next_1 _))))
theorem zt_pyEnd (S : ZipSep2 z TI TO i1 i2 fp1 fp2) (hh : A.handled = none) (D1 : Draws prog w A.in1 i1 fp1 n1 P1 S1) (D2 : Draws prog w A.in1 i2 fp2 n1 P2 S2) {Q : Option Value → Shared → Prop}
    (hz : ZipT s.heap z TI TO .none) (hTI : Pr2 s.heap TI (.ref i1) (.ref i2)) (hTO : Pr2 s.heap TO a1 a2) (st1 : S1 n1 s.heap) (st2 : S2 n1 s.heap)
    (hQ : ∀ g tk, (∀ c o, c ≠ z → c ≠ TO → c ≠ i1 → c ≠ i2 → s.heap.get? c = some o → g.get? c = some o) → Q none { s with heap := g, toks := tk }) : wpAny (model prog w) A (pyNext (.ref z)) Q E s := by
  have hT : s.TypeIs (.ref z) "zip" := ⟨_, hz, rfl⟩
  unfold pyNext
  refine wpAny_bind (wpAny_attempt (wpAny_callSpecial?_slot (name := Str.ofString "__next__") hT F.slot_zip_next (wpAny_call_entry F.slot_zip_next hT F.entry_zip_next
    (zt_end (A := A.in1) S hh D1 D2 hz hTI hTO st1 st2 fun g tk e hk he => ?_) (F.args_zip_next_1 _))))
  obtain ⟨o, ho, hc⟩ := he
  refine wpAny_bind (wpAny_isInstance (T := "StopIteration") (b := true) ⟨o, ho, hc⟩ isSubtype_stop ?_)
  exact wpAny_pure (hQ _ _ hk)
theorem zt_go {elts : List Expr} {kk : Nat} {pos : Pos} {T : Addr} {Q : Unit → Shared → Prop} (hz : ZipT s.heap z TI TO (rawInt T)) (hQ : ∀ g, ZipT g z TI TO .none → Heap.SameBut z s.heap g → Q () { s with heap := g }) :
    wpAny (model prog w) A (letOwnedTupleGo (.Tuple elts kk pos) (.ref z) (.ref T)) Q E s := by
  unfold letOwnedTupleGo
  refine wpAny_bind (wpAny_load hz ?_)
  show wpAny _ _ (if (["enumerate", "zip", "dict_itemiterator", "dict_reverseitemiterator", "odict_iterator", "itertools.zip_longest", "itertools.pairwise"].contains "zip" && (#[rawInt T, .bool false, .bool true, .ref TI, .ref TO] : Array Value)[0]? == some (rawInt T)) = true then _ else _) Q E s
  rw [if_pos (by simp)]
  refine wpAny_bind (wpAny_rule ?_)
  show wpAny _ _ (setField (.ref z) 0 .none) Q E s
  exact wpAny_setField_rec hz (by simp) fun g gz gs => hQ g gz gs
theorem zt_iter {f0 : Value} {Q : Value → Shared → Prop} (hz : ZipT s.heap z TI TO f0) (h : Q (.ref z) s) : wpAny (model prog w) A (pyIter (.ref z)) Q E s := by
  have hT : s.TypeIs (.ref z) "zip" := ⟨_, hz, rfl⟩
  refine wpAny_pyIter_slot hT F.slot_zip_iter (wpAny_call_entry F.slot_zip_iter hT F.entry_zip_iter ?_ (F.args_zip_iter_1 _))
  show wpAny _ _ (ret (.ref z)) _ _ s
  exact wpAny_pure ⟨_, rfl, "zip", _, hT, F.slot_zip_next.lookup, h⟩
end
/-- a text's signs and the list at b -/
def ItzS (K : PySem.W.Frag) (x : Str) (b : Addr) : It :=
  ⟨fun i H => i < x.cps.size ∧ ∃ ys y, SqL K H b ys ∧ ys[i]? = some y,
    fun i H v H' => ∃ T c y, v = .ref T ∧ H T = none ∧ H' = upd H T (.tup [.str ⟨#[c]⟩, y]) ∧ x.cps[i]? = some c ∧ ∀ ys, SqL K H b ys → ys[i]? = some y,
    fun i H => i = x.cps.size ∧ ∃ ys, SqL K H b ys ∧ ys.length = x.cps.size⟩
theorem sep_zt {N b : Addr} (h : b < N) : ZipSep2 (N + 4) (N + 2) (N + 3) N (N + 1) [N] [N + 1, b] := by
  have a1 : ∀ j, b ≠ N + j := fun j => Nat.ne_of_lt (Nat.lt_of_lt_of_le h (Nat.le_add_right _ _))
  have a0 : N ≠ b := (Nat.ne_of_lt h).symm
  have n : ∀ i j : Nat, i ≠ j → N + i ≠ N + j := fun i j q e => q (Nat.add_left_cancel e)
  have n0 : ∀ i : Nat, 0 < i → N + i ≠ N := fun i q e => absurd (Nat.add_left_cancel (e.trans (Nat.add_zero N).symm)) (by omega)
  exact ⟨n _ _ (by decide), n _ _ (by decide), n _ _ (by decide), n0 _ (by decide), List.mem_cons_self .., fun m => n0 4 (by decide) (List.mem_singleton.mp m), fun m => n0 3 (by decide) (List.mem_singleton.mp m), n _ _ (by decide), List.mem_cons_self ..,
    fun m => (List.mem_cons.mp m).elim (n 4 1 (by decide)) fun m => a1 4 (List.mem_singleton.mp m).symm, fun m => (List.mem_cons.mp m).elim (n 3 1 (by decide)) fun m => a1 3 (List.mem_singleton.mp m).symm,
    fun m => (List.mem_cons.mp m).elim (fun e => n0 1 (by decide) e.symm) fun m => a0 (List.mem_singleton.mp m), fun m => n0 1 (by decide) (List.mem_singleton.mp m)⟩
theorem turn_zt {P : Program} {w : World} {K : PySem.W.Frag} {elts : List Expr} {kk : Nat} {tpos : Pos} {b z TI TO i1 i2 : Addr} {x : Str} {t : Tok} (D : ZipSep2 z TI TO i1 i2 [i1] [i2, b]) (n1 : b ≠ i2) :
    Turn P w K (.Tuple elts kk tpos) (ItzS K x b) [z, TI, TO, i1, i2] z (fun i h => ZipT h z TI TO .none ∧ Pr2 h TI (.ref i1) (.ref i2) ∧ (∃ x y, Pr2 h TO x y) ∧ h.IsStrIter i1 (strIterType x) x t i ∧ h.IsListIter i2 b i) where
  mem := by simp
  obj := fun i h st c hc => by
    obtain ⟨hz, hTI, ⟨x, y, hTO⟩, ⟨o1, e1, _, d1⟩, ⟨o2, e2, _, d2⟩⟩ := st
    have e' : c = z ∨ c = TI ∨ c = TO ∨ c = i1 ∨ c = i2 := by simpa using hc
    rcases e' with q | q | q | q | q
    · rw [q]; exact ⟨_, hz, fun v q => nomatch q⟩
    · rw [q]; exact ⟨_, hTI, fun v q => nomatch q⟩
    · rw [q]; exact ⟨_, hTO, fun v q => nomatch q⟩
    · rw [q]; exact ⟨o1, e1, fun v q => by rw [d1] at q; cases q⟩
    · rw [q]; exact ⟨o2, e2, fun v q => by rw [d2] at q; cases q⟩
  keep := fun i h h' st k => by
    obtain ⟨hz, hTI, ⟨x, y, hTO⟩, ⟨o1, e1, r1⟩, h2⟩ := st
    exact ⟨k z (by simp) _ hz, k TI (by simp) _ hTI, ⟨x, y, k TO (by simp) _ hTO⟩, ⟨o1, k i1 (by simp) _ e1, r1⟩, h2.at fun o q => k i2 (by simp) o q⟩
  item := by
    intro X hP hw hK hc i pins s σ H E I hf st hg
    subst hP hw hK
    obtain ⟨hz, hTI, ⟨x0, y0, hTO⟩, h1, h2⟩ := st
    obtain ⟨hlt, ys, y, hqy, hy⟩ := hg
    obtain ⟨its, rv, p, _⟩ := I.list hqy
    have il : i < its.toArray.size := by
      have := (List.getElem?_eq_some_iff.mp hy).1
      have := rv.length
      simp; omega
    have hzl : z < s.heap.objs.size := Heap.lt_size hz
    refine zt_pyNext D (Draws.text (A := X.A.in1) (I.ok.hd hc) i1 x t) (Draws.list (A := X.A.in1) (I.ok.hd hc) i2 b n1 its.toArray) hz hTI hTO h1 ⟨h2, p.isList⟩ hlt il fun u u2 g tk p1 p2 gz gO g1 g2 gT hk => ?_
    obtain ⟨c, tc, hcx, rfl⟩ := p1
    obtain ⟨y', hy', ry⟩ : ∃ y', ys[i]? = some y' ∧ RelV y' u2 := by
      obtain ⟨u3, hu3, r3⟩ := rv.get hy
      have e3 : u3 = u2 := by
        have p2' : its[i]? = some u2 := by simpa using p2
        rw [p2'] at hu3; cases hu3; rfl
      exact ⟨y, hy, e3 ▸ r3⟩
    refine ⟨_, rfl, zt_go (s := { s with heap := g, toks := tk }) gz fun h'' z'' sb => ?_⟩
    have hT2 : h''.get? s.heap.objs.size = some { cls := .type "tuple", data := .seq #[.str ⟨#[c]⟩ tc, u2] } := (sb.2 _ (Nat.ne_of_gt hzl)).trans gT
    have new : ObjOk X.prog X.w (upd H s.heap.objs.size (.tup [.str ⟨#[c]⟩, y'])) h'' s.heap.objs.size (.tup [.str ⟨#[c]⟩, y']) := ⟨by show 2 ≤ sizeLine; decide, [.str ⟨#[c]⟩ tc, u2], .cons ⟨_, rfl⟩ (.cons ry .nil), ⟨_, hT2, rfl, _, rfl⟩⟩
    have I1 : Inv X pins σ (upd H s.heap.objs.size (.tup [.str ⟨#[c]⟩, y'])) { s with heap := h'', toks := tk } :=
      I.turnedNew (ch := [z, TI, TO, i1, i2]) (fun d o hb q => (sb.2 d (fun q' => hb (by simp [q']))).trans (hk d o (fun q' => hb (by simp [q'])) (fun q' => hb (by simp [q'])) (fun q' => hb (by simp [q'])) (fun q' => hb (by simp [q'])) q)) hf (Nat.le_refl _) new
    refine ⟨.ref s.heap.objs.size, _, I1, rfl, ⟨_, c, y', rfl, I.hok.fresh (Nat.le_refl _), rfl, hcx, fun l hl => by rw [I.list_inj hl hqy]; exact hy'⟩, ⟨z'', ?_, ⟨.str ⟨#[c]⟩ tc, u2, ?_⟩, ?_, ?_⟩, fun d hcm => ?_⟩
    · exact (sb.2 _ D.TIz).trans (hk _ _ D.TIz D.TITO D.TIi1 D.TIi2 hTI)
    · exact (sb.2 _ D.TOz).trans gO
    · obtain ⟨o1, e1, r1⟩ := g1
      exact ⟨o1, (sb.2 _ D.zi1.symm).trans e1, r1⟩
    · exact g2.1.at fun o q => (sb.2 _ D.zi2.symm).trans q
    · have hlt : d < s.heap.objs.size := by
        have e' : d = z ∨ d = TI ∨ d = TO ∨ d = i1 ∨ d = i2 := by simpa using hcm
        rcases e' with q | q | q | q | q
        · rw [q]; exact hzl
        · rw [q]; exact Heap.lt_size hTI
        · rw [q]; exact Heap.lt_size hTO
        · rw [q]; obtain ⟨_, e1, _⟩ := h1; exact Heap.lt_size e1
        · rw [q]; obtain ⟨_, e2, _⟩ := h2; exact Heap.lt_size e2
      rw [upd_ne (Nat.ne_of_lt hlt)]
      exact (hf d hcm).1
  done := by
    intro X hP hw hK hc i pins s σ H E I hf st hg
    subst hP hw hK
    obtain ⟨hz, hTI, ⟨x0, y0, hTO⟩, h1, h2⟩ := st
    obtain ⟨rfl, ys, hqy, hly⟩ := hg
    obtain ⟨its, rv, p, _⟩ := I.list hqy
    have l2 : its.toArray.size = x.cps.size := by rw [List.size_toArray, ← hly]; exact rv.length.symm
    have D2 := Draws.list (prog := X.prog) (w := X.w) (A := X.A.in1) (I.ok.hd hc) i2 b n1 its.toArray
    rw [l2] at D2
    exact zt_pyEnd D (I.ok.hd hc) (Draws.text (A := X.A.in1) (I.ok.hd hc) i1 x t) D2 hz hTI hTO h1 ⟨h2, p.isList⟩ fun g tk hk => ⟨rfl, I.turnedL (t' := tk) (ch := [z, TI, TO, i1, i2]) (fun c o hb q =>
      hk c o (fun q' => hb (by simp [q'])) (fun q' => hb (by simp [q'])) (fun q' => hb (by simp [q'])) (fun q' => hb (by simp [q'])) q) hf⟩
  self := fun A i s Q E st h => zt_iter st.1 h
def iZipS (K : PySem.W.Frag) (ta : TA) : TI := fun σ H R => ta σ H fun vs H1 => ∃ x b ys, vs = [.str x, .ref b] ∧ SqL K H1 b ys ∧ R (ItzS K x b) H1
theorem callType_kw {M : Model} {A : Around} {E : Value → Shared → Prop} {s : Shared} {env : Env} {pos kp : Pos} {T : String} {e val : Expr} {rest : List Expr} {nm : Str} {Q : Value → Shared → Prop}
    (h : wpAny M A (spliced (backTo pos (starEach (e :: rest) env))) (fun vs s1 => wpAny M A (eval val env) (fun v s2 => wpAny M A (call (.type T) vs [(nm, v)]) Q E s2) E s1) E s)
    (he : backTo pos (starEach (e :: rest) env) = (false, eval e env) :: backTo pos (starEach rest env) := by rfl) (hpl : (backTo pos (starEach (e :: rest) env)).any (·.1) = false := by rfl) :
    wpAny M A (callWith pos (.type T) [] (backTo pos (starEach (e :: rest) env)) (backToKw pos (keywordEach [⟨some nm, val, kp⟩] env))) Q E s := by
  unfold callWith
  refine wpAny_bind (wpAny_holding (wpAny_mono (Q := fun a s1 => wpAny M A (call (.type T) ([] ++ a.pos) a.kw) Q E s1) ?_ (fun a s1 h1 => wpAny_bind (wpAny_standAt ?_)) fun _ _ z => z))
  · rw [he] at h ⊢
    refine evalArgs_kwB rfl (wpAny_mono h (fun vs s1 h1 => ?_) fun _ _ z => z)
    exact kws_cons (wpAny_mono h1 (fun v s2 h2 => kws_nil h2) fun _ _ z => z)
  · simp only [hpl]
    refine wpAny_bind (wpAny_pure ?_)
    exact wpAny_bind (wpAny_mono h1 (fun r s2 hr => wpAny_bind (wpAny_holding (wpAny_point (wpAny_pure hr)))) fun _ _ z => z)
theorem pi_zipS {X : Cx} {e e2 : Expr} {ta : TA} {p pos tpos kp q1 : Pos} {elts : List Expr} {kk k1 : Nat} (hg : Gl X "zip") (hm : X.mg "zip" = none) (ha : PA X [e, e2] ta) (hpl : (backTo pos (starEach [e, e2] X.env)).any (·.1) = false := by rfl)
    (he : backTo pos (starEach [e, e2] X.env) = (false, eval e X.env) :: backTo pos (starEach [e2] X.env) := by rfl) :
    PI X (.Tuple elts kk tpos) (.Call (.Name "zip" p) [e, e2] [⟨some "strict", .Constant (.bool true) k1 q1, kp⟩] pos) (iZipS X.K ta) := by
  refine ⟨fun pins s σ H R I h => ?_⟩
  show wpAny _ _ (eval (.Name "zip" p) X.env >>= fun f => callWith pos f [] (backTo pos (starEach [e, e2] X.env)) (backToKw pos (keywordEach [⟨some "strict", .Constant (.bool true) k1 q1, kp⟩] X.env))) _ _ s
  refine wpAny_bind (ld_blt I hg hm PyProof.Rows.boot_zip (callType_kw (thn (ha.run pos pins s σ H _ I h) fun us s1 ⟨vs, H1, I1, r1, q1⟩ => ?_) he hpl))
  obtain ⟨x, b, ys, ex, hqy, q⟩ := q1
  subst ex
  cases r1 with
  | cons r rr =>
    cases rr with
    | cons r' rr =>
      cases rr
      obtain ⟨t, rfl⟩ := r
      cases r'
      refine thn ((pe_bl (X := X) (b := true)).run pins s1 σ H1 (fun v G => v = .bl true ∧ G = H1) I1 ⟨rfl, rfl⟩) fun uv s2 ⟨v, G, I2, r2, ev, eG⟩ => ?_
      subst ev eG
      cases r2
      obtain ⟨its, rv, p1, _⟩ := I2.list hqy
      have lb : b < s2.heap.objs.size := p1.lt
      refine zt_begins (begins_text x t) (begins_list b its.toArray) trivial p1.isList fun g gz gT gO k1 k2 hk => zt_iter gz ?_
      have I3 : Inv X pins σ G { s2 with heap := g } := I2.kept (t' := s2.toks) hk
      refine ⟨s2.heap.objs.size + 4, [s2.heap.objs.size + 4, s2.heap.objs.size + 2, s2.heap.objs.size + 3, s2.heap.objs.size, s2.heap.objs.size + 1], _, _, G, rfl, I3, turn_zt (x := x) (t := t) (sep_zt lb) (Nat.ne_of_lt (Nat.lt_succ_of_lt lb)), ⟨gz, gT, ⟨_, _, gO⟩, ⟨_, k1, rfl, rfl⟩, ⟨_, k2, rfl, rfl⟩⟩, fun c hcm => ?_, q⟩
      have hle : s2.heap.objs.size ≤ c := by
        have e' : c = s2.heap.objs.size + 4 ∨ c = s2.heap.objs.size + 2 ∨ c = s2.heap.objs.size + 3 ∨ c = s2.heap.objs.size ∨ c = s2.heap.objs.size + 1 := by simpa using hcm
        rcases e' with z | z | z | z | z <;> rw [z] <;> first | exact Nat.le_refl _ | exact Nat.le_add_right _ _
      exact I2.fpOk hle (I2.hok.fresh hle)
end Kx

set_option Elab.async false
set_option linter.all false
set_option maxRecDepth 100000
set_option maxHeartbeats 4000000
namespace Kx
open PySem PySem.Spec PyProof.Rows L2 Evl HT
/-! ### sum(lists, start=list) -/
section
variable {prog : Program} {w : World} {A : Around} {E : Value → Shared → Prop} {s : Shared}
theorem ss_args (a b : Value) : argsOk "sum" ⟨[a], [(Str.ofString "start", b)]⟩ := by unfold argsOk; kernel_rfl
abbrev LsI (h : Heap) (a : Addr) (ys : List Value) : Prop := ∃ n, h.get? a = some { cls := .type "list", dict := none, data := .seq ys.toArray n, slots := #[] }
theorem ss_loop {R : Result → Shared → Prop} {N I S L n : Nat} {items : Array Value} {yss : List (List Value)} (hh : A.handled = none) (hI : N ≤ I) (hS : N ≤ S) (hIS : I ≠ S) (hL : L < N) (hn : items.size = n) :
    ∀ (k i : Nat) (s : Shared) (tot : Nat) (c : Nat) (acc : List Value), n - i = k → i ≤ n → s.heap.IsListIter I L i → s.heap.IsList L items → s.heap.get? S = some { cls := .type "list", dict := none, data := .seq #[Value.ref tot] c, slots := #[] } → LsI s.heap tot acc → tot ≠ S → tot ≠ I →
    (∀ (j : Nat) (v : Value), items[j]? = some v → ∃ (b : Nat) (ys : List Value), b < N ∧ v = .ref b ∧ LsI s.heap b ys ∧ yss[j]? = some ys) → acc.length + ((yss.drop i).flatten).length ≤ sizeLine → (N ≤ tot ∨ i < n) → yss.length = n →
    (∀ h' tk (q : Nat), N ≤ q → (∀ (b : Nat) o, b < N → s.heap.get? b = some o → h'.get? b = some o) → LsI h' q (acc ++ (yss.drop i).flatten) → R (.ok (.ret (.ref q))) { s with heap := h', toks := tk }) →
    codeAny (model prog w) A (.builtin "sum.loop" ⟨[.ref I, .ref S, rawInt 2, rawInt 0], []⟩) R s := by
  intro k
  induction k with
  | zero =>
    intro i s tot c acc hk hi it hLs hSt hT t1 t2 hits hz hor hyl hR
    have hin : i = n := by omega
    subst hin
    refine codeAny_builtin F.entry_sum_loop ?_
    rw [Around.under_plainId F.plain_sum_loop _]
    show wpAny _ A.in1 (seqItems? (.ref S) >>= _) _ _ s
    refine wpAny_bind (wpAny_seqItems hSt rfl ?_)
    show wpAny _ A.in1 (tryCatch (pyNext (.ref I)) _ >>= _) _ _ s
    have ne : L ≠ I := by omega
    have W := Walks.list (prog := prog) (w := w) (A := A.in1) hh I L ne items
    rw [hn] at W
    refine wpAny_bind (wpAny_tryCatch (W.done s _ _ ⟨it, hLs⟩ fun h' tk hk' => ?_))
    refine wpAny_pure (hR h' tk tot (by omega) (fun b o hb e => hk' b o (fun m => absurd (List.mem_singleton.mp m) (Nat.ne_of_lt (Nat.lt_of_lt_of_le hb hI))) e) ?_)
    rw [List.drop_of_length_le (by omega), List.flatten_nil, List.append_nil]
    obtain ⟨m, hm⟩ := hT
    exact ⟨m, hk' _ _ (by simp; exact t2) hm⟩
  | succ k ih =>
    intro i s tot c acc hk hi it hLs hSt hT t1 t2 hits hz hor hyl hR
    have hlt : i < n := by omega
    refine codeAny_builtin F.entry_sum_loop ?_
    rw [Around.under_plainId F.plain_sum_loop _]
    show wpAny _ A.in1 (seqItems? (.ref S) >>= _) _ _ s
    refine wpAny_bind (wpAny_seqItems hSt rfl ?_)
    show wpAny _ A.in1 (tryCatch (pyNext (.ref I)) _ >>= _) _ _ s
    have ne : L ≠ I := by omega
    have W := Walks.list (prog := prog) (w := w) (A := A.in1) hh I L ne items
    rw [hn] at W
    refine wpAny_bind (wpAny_tryCatch (W.item i s _ _ hlt ⟨it, hLs⟩ fun v h1 tk hP st1 hk' => ?_))
    obtain ⟨b, ys, hb, rfl, hys, hyi⟩ := hits i v hP
    have kp : ∀ (b : Nat) o, b ≠ I → s.heap.get? b = some o → h1.get? b = some o := fun b o hb e => hk' b o (by simp; exact hb) e
    obtain ⟨m1, hm1⟩ := hT
    obtain ⟨m2, hm2⟩ := hys
    have hm1' := kp _ _ t2 hm1
    have hm2' := kp _ _ (by omega) hm2
    have hS' := kp _ _ (Ne.symm hIS) hSt
    have ed : (yss.drop i).flatten = ys ++ (yss.drop (i + 1)).flatten := by
      obtain ⟨hj, e⟩ := List.getElem?_eq_some_iff.mp hyi
      rw [List.drop_eq_getElem_cons hj, e]; rfl
    rw [ed, List.length_append] at hz
    show wpAny _ A.in1 ((holding [Value.ref b] (binaryOp .Add (.ref tot) (.ref b))).attempt >>= _) _ _ _
    refine wpAny_bind (wpAny_attempt (wpAny_holding (PySem.P.add_list (s := { s with heap := h1, toks := tk }) hm1' hm2' ?_ (by rw [List.size_toArray, List.size_toArray]; omega))))
    have lS : S < h1.objs.size := Heap.lt_size hS'
    have lI : I < h1.objs.size := by obtain ⟨_, e, _⟩ := st1.1; exact Heap.lt_size e
    have hS2 : (h1.push { cls := .type "list", data := .seq (acc.toArray ++ ys.toArray) }).get? S = _ := Heap.get?_push_of_some _ hS'
    show wpAny _ A.in1 (updateSeq S (fun _ => #[.ref h1.objs.size]) >>= _) _ _ _
    refine wpAny_bind (wpAny_updateSeq hS2 rfl ?_)
    have hS3 := Heap.get?_update_self (Obj.mapSeq fun _ => #[Value.ref h1.objs.size]) hS2 rfl
    refine wpAny_bind (wpAny_letGo ?_)
    refine wpAny_bind (wpAny_updateSeq hS3 rfl (wpAny_pure ⟨plainId_quiet F.plain_sum_loop _, ?_⟩))
    have up : ∀ (b : Nat) o, b ≠ S → h1.get? b = some o → (((h1.push { cls := .type "list", data := .seq (acc.toArray ++ ys.toArray) }).update S (Obj.mapSeq fun _ => #[Value.ref h1.objs.size])).update S (Obj.mapSeq fun _ => #[Value.ref h1.objs.size])).get? b = some o :=
      fun b o hb e => (Heap.get?_update_other _ _ (Ne.symm hb)).trans ((Heap.get?_update_other _ _ (Ne.symm hb)).trans (Heap.get?_push_of_some _ e))
    refine ih (i + 1) _ h1.objs.size _ (acc ++ ys) (by omega) hlt ?_ ?_ (Heap.get?_update_self _ hS3 rfl) ⟨0, ?_⟩ (by omega) (by omega) (fun j v hj => ?_) (by rw [List.length_append]; omega) (.inl (by omega)) hyl fun h' tk' q hq kk hl => ?_
    · obtain ⟨o, e, r⟩ := st1.1
      exact ⟨o, up _ _ hIS e, r⟩
    · obtain ⟨o, e, r⟩ := st1.2
      exact ⟨o, up _ _ (by omega) e, r⟩
    · refine (Heap.get?_update_other _ _ (Nat.ne_of_lt lS)).trans ((Heap.get?_update_other _ _ (Nat.ne_of_lt lS)).trans ?_)
      rw [show (acc ++ ys).toArray = acc.toArray ++ ys.toArray by simp]
      exact Heap.get?_push_size _ rfl
    · obtain ⟨b', ys', hb', ev, ⟨m, hm⟩, hy⟩ := hits j v hj
      exact ⟨b', ys', hb', ev, ⟨m, up _ _ (by omega) (kp _ _ (by omega) hm)⟩, hy⟩
    · rw [ed, ← List.append_assoc] at hR
      exact hR h' tk' q hq (fun b o hb e => kk b o hb (up _ _ (by omega) (kp _ _ (by omega) e))) hl
theorem call_fn_kw {id : String} {b : Builtin} {vs : List Value} {kw : List (Str × Value)} {Q : Value → Shared → Prop} (hk : builtinKind id = none) (hp : plainId id = true) (hb : entryFor table id = some b) (ha : argsOk id ⟨vs, kw⟩)
    (hc : wpAny (model prog w) A.in1 (b ⟨vs, kw⟩) (fun fin s' => match fin with
      | .done f => (match (Except.ok f : Result) with | .ok (.ret v) => Q v s' | .ok _ => False | .error e => E e s')
      | .again c => c.quiet = true ∧ codeAny (model prog w) A c (fun r s' => match r with | .ok (.ret v) => Q v s' | .ok _ => False | .error e => E e s') s') E s) : wpAny (model prog w) A (call (.builtin id) vs kw) Q E s := by
  refine wpAny_call (codeAny_call_builtin hp hb ?_)
  simp only [checkBuiltinCall, hk]
  cases hsig : Manifest.signature? id with
  | none => exact wpAny_pure hc
  | some sig =>
    simp only [argsOk, hsig] at ha
    have h2 : Bind.checkArgs id sig ⟨vs, kw⟩ = pure () := ha
    show wpAny _ A.in1 (Bind.checkArgs id sig ⟨vs, kw⟩) _ _ s
    rw [h2]; exact wpAny_pure hc
theorem ss_call {Q : Value → Shared → Prop} {L st : Addr} {items : Array Value} {yss : List (List Value)} (hh : A.handled = none) (hL : s.heap.IsList L items) (h0 : LsI s.heap st []) (hy : yss.length = items.size) (hpos : 0 < items.size)
    (hits : ∀ (j : Nat) (v : Value), items[j]? = some v → ∃ b ys, v = .ref b ∧ LsI s.heap b ys ∧ yss[j]? = some ys) (hz : yss.flatten.length ≤ sizeLine)
    (h : ∀ h' tk (q : Nat), s.heap.objs.size ≤ q → (∀ b o, s.heap.get? b = some o → h'.get? b = some o) → LsI h' q yss.flatten → Q (.ref q) { s with heap := h', toks := tk }) :
    wpAny (model prog w) A (call (.builtin "sum") [.ref L] [(Str.ofString "start", .ref st)]) Q E s := by
  refine call_fn_kw F.kind_sum F.plain_sum F.entry_sum (ss_args _ _) ?_
  unfold Builtin.«sum»
  simp only [List.length_cons, List.length_nil]
  rw [if_neg (by decide)]
  refine wpAny_bind (wpAny_of_eq (show Builtin.Builtins.bindParams "sum" ["start"] 0 ⟨[], [(Str.ofString "start", .ref st)]⟩ = pure [some (.ref st)] from rfl) ?_)
  refine wpAny_bind (wpAny_pyIter_list hL ?_)
  refine wpAny_bind (wpAny_pure ?_)
  obtain ⟨n0, e0⟩ := h0
  have lL : L < s.heap.objs.size := by obtain ⟨_, e, _⟩ := hL; exact Heap.lt_size e
  have ls : st < s.heap.objs.size := Heap.lt_size e0
  have et := Heap.get?_push_of_some { cls := .type "list_iterator", data := .fields #[.ref L, .int 0 0] } e0
  simp only [List.forIn_cons, List.forIn_nil]
  refine wpAny_bind (wpAny_bind (wpAny_bind (wpAny_isInstance (T := "list") (b := false) ⟨_, et, rfl⟩ F.sub_list_str ?_)))
  simp only [Bool.false_eq_true, if_false]
  refine wpAny_pure (wpAny_bind (wpAny_bind (wpAny_isInstance (T := "list") (b := false) ⟨_, et, rfl⟩ F.sub_list_bytes ?_)))
  simp only [Bool.false_eq_true, if_false]
  refine wpAny_pure (wpAny_bind (wpAny_bind (wpAny_isInstance (T := "list") (b := false) ⟨_, et, rfl⟩ F.sub_list_bytearray ?_)))
  simp only [Bool.false_eq_true, if_false]
  refine wpAny_pure (wpAny_pure (wpAny_bind (wpAny_newObj_type ?_)))
  have z1 : (s.heap.push { cls := .type "list_iterator", data := .fields #[.ref L, .int 0 0] }).objs.size = s.heap.objs.size + 1 := Heap.size_push ..
  have up : ∀ b o, s.heap.get? b = some o → ((s.heap.push { cls := .type "list_iterator", data := .fields #[.ref L, .int 0 0] }).push { cls := .type "list", data := .seq ([.ref st] : List Value).toArray }).get? b = some o := fun b o e => Heap.get?_push_of_some _ (Heap.get?_push_of_some _ e)
  refine wpAny_pure ⟨plainId_quiet F.plain_sum_loop _, ?_⟩
  have gS : ((s.heap.push { cls := .type "list_iterator", data := .fields #[.ref L, .int 0 0] }).push { cls := .type "list", data := .seq ([.ref st] : List Value).toArray }).get? (s.heap.push { cls := .type "list_iterator", data := .fields #[.ref L, .int 0 0] }).objs.size = _ := Heap.get?_push_size _ rfl
  have b1 : s.heap.objs.size ≤ (s.heap.push { cls := .type "list_iterator", data := .fields #[.ref L, .int 0 0] }).objs.size := by rw [z1]; omega
  have b2 : s.heap.objs.size ≠ (s.heap.push { cls := .type "list_iterator", data := .fields #[.ref L, .int 0 0] }).objs.size := by rw [z1]; omega
  have b3 : st ≠ (s.heap.push { cls := .type "list_iterator", data := .fields #[.ref L, .int 0 0] }).objs.size := Nat.ne_of_lt (Nat.lt_of_lt_of_le ls b1)
  refine ss_loop (N := s.heap.objs.size) (I := s.heap.objs.size) (S := (s.heap.push { cls := .type "list_iterator", data := .fields #[.ref L, .int 0 0] }).objs.size) (A := A) (yss := yss) (L := L) (items := items) hh (Nat.le_refl _) b1 b2 lL rfl items.size 0
    { s with heap := (s.heap.push { cls := .type "list_iterator", data := .fields #[.ref L, .int 0 0] }).push { cls := .type "list", data := .seq ([.ref st] : List Value).toArray } } st 0 [] rfl (Nat.zero_le _) ?_ ?_ gS ⟨n0, up _ _ e0⟩ b3 (Nat.ne_of_lt ls) (fun j v hj => ?_) ?_ (.inr hpos) hy fun h' tk q hq kk hl => ?_
  · exact ⟨_, Heap.get?_push_of_some _ (Heap.get?_push_size _ rfl), rfl, rfl⟩
  · obtain ⟨o, e, r⟩ := hL
    exact ⟨o, up _ _ e, r⟩
  · obtain ⟨b, ys, ev, ⟨m, e⟩, hy'⟩ := hits j v hj
    exact ⟨b, ys, Heap.lt_size e, ev, ⟨m, up _ _ e⟩, hy'⟩
  · simpa using hz
  · refine h h' tk q hq (fun b o e => kk b o (Heap.lt_size e) (up _ _ e)) ?_
    simpa using hl
end
section
variable {X : Cx}
/-- the lists in a list, one after the other -/
def tSumL (ta : TA) (ts : TE) : TE := fun σ H Q => ta σ H fun vs H1 => ts σ H1 fun u H2 => ∃ (L st : Addr) (ls : List Addr) (yss : List (List V)), vs = [.ref L] ∧ u = .ref st ∧ H2 L = some (.lst (ls.map V.ref)) ∧ H2 st = some (.lst []) ∧ 0 < ls.length ∧ ls.length = yss.length ∧
  (∀ (j : Nat) (b : Addr) (ys : List V), ls[j]? = some b → yss[j]? = some ys → H2 b = some (.lst ys)) ∧ yss.flatten.length ≤ sizeLine ∧ ∀ (q : Addr), H2 q = none → Q (.ref q) (upd H2 q (.lst yss.flatten))
theorem vals_all {H : Hp} {h : Heap} {prog : Program} {w : World} (hok : HOk prog w H h) : ∀ (ls : List Addr) (yss : List (List V)), ls.length = yss.length → (∀ (j : Nat) (b : Addr) (ys : List V), ls[j]? = some b → yss[j]? = some ys → H b = some (.lst ys)) →
    ∃ zss : List (List Value), zss.length = ls.length ∧ Vals yss.flatten zss.flatten ∧ ∀ (j : Nat) (b : Addr), ls[j]? = some b → ∃ zs, zss[j]? = some zs ∧ LsI h b zs := by
  intro ls
  induction ls with
  | nil =>
    intro yss hl _
    cases yss with
    | nil => exact ⟨[], rfl, .nil, fun j b hj => by simp at hj⟩
    | cons a b => simp at hl
  | cons a ls ih =>
    intro yss hl hf
    cases yss with
    | nil => simp at hl
    | cons ys yss =>
      obtain ⟨zss, h1, h2, h3⟩ := ih yss (by simpa using hl) fun j b zs e1 e2 => hf (j + 1) b zs (by simpa using e1) (by simpa using e2)
      obtain ⟨z, its, n, r, e⟩ := hok a _ (hf 0 a ys rfl rfl)
      refine ⟨its :: zss, by simp [h1], r.append h2, fun j b hj => ?_⟩
      cases j with
      | zero =>
        simp at hj
        subst hj
        exact ⟨its, rfl, n, e⟩
      | succ j => 
        obtain ⟨zs, q1, q2⟩ := h3 j b (by simpa using hj)
        exact ⟨zs, by simpa using q1, q2⟩
theorem pe_sumL {e val : Expr} {ta : TA} {ts : TE} {p pos kp : Pos} (hc : X.calm = true) (hg : Gl X "sum") (hm : X.mg "sum" = none) (ha : PA X [e] ta) (hs : PE X val ts)
    (he : backTo pos (starEach [e] X.env) = (false, eval e X.env) :: backTo pos (starEach [] X.env) := by rfl) (hpl : (backTo pos (starEach [e] X.env)).any (·.1) = false := by rfl) :
    PE X (.Call (.Name "sum" p) [e] [⟨some "start", val, kp⟩] pos) (tSumL ta ts) := by
  refine ⟨fun pins s σ H Q I h => ?_⟩
  show wpAny _ _ (eval (.Name "sum" p) X.env >>= fun f => callWith pos f [] (backTo pos (starEach [e] X.env)) (backToKw pos (keywordEach [⟨some "start", val, kp⟩] X.env))) _ _ s
  refine wpAny_bind (ld_blt I hg hm (by first | exact PyProof.Rows.boot_sum | decide +kernel) (PyProof.Rows.callWith_kw (thn (ha.run pos pins s σ H _ I h) fun us s1 ⟨vs, H1, I1, r1, q1⟩ => ?_) he hpl))
  refine PyProof.Rows.kws_cons (thn (hs.run pins s1 σ H1 _ I1 q1) fun uv s2 ⟨v, H2, I2, r2, q2⟩ => PyProof.Rows.kws_nil ?_)
  obtain ⟨L, st, ls, yss, e1, e2, hL, h0, hpos, hlen, hit, hz, q⟩ := q2
  subst e1 e2
  cases r1 with
  | cons r rr =>
    cases rr
    cases r
    cases r2
    obtain ⟨zL, its, nL, rL, eL⟩ := I2.hok L _ hL
    obtain ⟨z0, its0, n0, r0, e0⟩ := I2.hok st _ h0
    cases r0
    obtain ⟨zss, k1, k2, k3⟩ := vals_all I2.hok ls yss hlen hit
    have ll : its.length = ls.length := by rw [← rL.length, List.length_map]
    refine ss_call (yss := zss) (I.ok.hd hc) (L := L) (items := its.toArray) ⟨_, eL, rfl, nL, rfl⟩ ⟨n0, e0⟩ (by rw [k1, List.size_toArray, ll]) (by rw [List.size_toArray, ll]; exact hpos) (fun j v hj => ?_) (by rw [← k2.length]; exact hz) fun h' tk q' hq kk hl => ?_
    · have hj' : its[j]? = some v := by simpa using hj
      have jl : j < ls.length := by rw [← ll]; exact (List.getElem?_eq_some_iff.mp hj').1
      have hb : ls[j]? = some ls[j] := List.getElem?_eq_getElem jl
      obtain ⟨u, hu, ru⟩ := rL.get (i := j) (x := .ref ls[j]) (by rw [List.getElem?_map, hb]; rfl)
      rw [hj'] at hu
      cases hu
      obtain ⟨zs, q1, q2⟩ := k3 j _ hb
      exact ⟨ls[j], zs, ru, q2, q1⟩
    · obtain ⟨m, hm⟩ := hl
      refine ⟨.ref q', _, I2.laid (t' := tk) (o := .lst yss.flatten) kk hq ⟨hz, zss.flatten, m, k2, hm⟩, rfl, q q' (I2.hok.fresh hq)⟩
end
end Kx

set_option Elab.async false
set_option linter.all false
set_option maxRecDepth 100000
set_option maxHeartbeats 4000000
/-! ### isinstance of a caught error that has its dict -/
namespace PySem.W
open PySem PySem.Spec PySem.Calls PyProof.Rows
section
variable {prog : Program} {w : World} {A : Around} {E : Value → Shared → Prop} {s : Shared} {K : Frag} {x D : Addr} {ox od : Obj}
theorem kx_classE {Q : Option Value → Shared → Prop} (C : L2.ExcC K D) (X : K.In s.heap) (I : InstAt s.heap x ox D (some od)) (h : Q (some (.ref D)) { s with toks := s.toks + 1 }) : wpAny (model prog w) A (getAttr? (.ref x) "__class__") Q E s := by
  have hf : findObj K D (some od) "__class__" = some (.bind (.builtin "getset_descriptor.__get__") (.builtin "object.__class__")) := findObj_data (by obtain ⟨cd, hc, _⟩ := any_some C.hd; rw [hc]; rfl) C.ha C.hn C.ht
  obtain ⟨hp, g, d, t, os⟩ := s
  have L0 := I.type (M := model prog w)
  have L1 := looks_findIn (M := model prog w) X C.hg
  have L2' := looks_findIn (M := model prog w) X C.hk
  have L3 := looks_find (M := model prog w) X I hf
  have sub : Looks (model prog w) hp (isInstance (.ref x) (.type "BaseException")) true := L0.andThen (looks_subIn X C.hs)
  have z0 : (false && onTheHeap (Value.builtin "BaseException.__getattribute__")) = false := rfl
  have z2 : (Value.builtin "BaseException.__getattribute__" == Value.builtin "object.__getattribute__") = false := by decide +kernel
  have z1 : (onTheHeap (Value.ref D) && Value.builtin "BaseException.__getattribute__" == Value.builtin "object.__getattribute__") = false := by rw [z2]; rfl
  unfold getAttr? getAttrBy? getAttrBy
  refine wpAny_bind (wpAny_mkText (wpAny_bind (wpAny_attempt (wpAny_holding (wpAny_bind (L0.at (wpAny_bind (L1.at ?_))))))))
  show wpAny _ _ (if (onTheHeap (Value.ref D) && Value.builtin "BaseException.__getattribute__" == Value.builtin "object.__getattribute__") = true then _ else _) _ _ _
  rw [z1, if_neg Bool.false_ne_true]
  unfold getAttrByItsOwn hookBefore
  refine wpAny_bind ?_
  rw [if_pos (show onTheHeap (Value.ref D) = true from rfl)]
  refine L2'.at (wpAny_bind (wpAny_attempt (wpAny_holding ?_)))
  unfold callGetattribute
  rw [z0, if_neg Bool.false_ne_true]
  unfold boundAndCalled
  rw [PySem.F.excAttr_ValueError.ga.bind (.ref x)]
  refine wpAny_bind (wpAny_pure ?_)
  show wpAny _ _ (call (.builtin "BaseException.__getattribute__") [.ref x, .str "__class__" t]) _ _ _
  refine wpAny_call (codeAny_call_builtin PySem.F.excAttr_ValueError.ga.plain PySem.F.entry_bexc_ga ?_)
  refine @check_slot (model prog w) _ _ ⟨hp, g, d, t + 1, os⟩ "BaseException.__getattribute__" "BaseException" "__getattribute__" (.ref x) [.str "__class__" t] [] _ (by decide +kernel) (by decide +kernel) sub (PySem.F.args_bexc_ga (.ref x) (.str "__class__" t)) ?_
  unfold Builtin.«object.__getattribute__»
  refine wpAny_bind (wpAny_of_eq (a := ((Value.ref x : Value), [Value.str "__class__" t])) (by first | rfl | (simp only [slotArgs]; rfl)) (wpAny_bind (wpAny_pure (wpAny_bind (L0.at (wpAny_bind (L3.at ?_)))))))
  show wpAny _ _ (holding [Value.builtin "object.__class__"] (call (.builtin "getset_descriptor.__get__") [.builtin "object.__class__", .ref x, .ref D]) >>= ret) _ _ _
  refine wpAny_bind (wpAny_holding (wpAny_call (class_get (s := ⟨hp, g, d, t + 1, os⟩) (ox := ox) (od := some od) X I C.hm (wpAny_pure ?_))))
  show wpAny _ _ (handedOut (.ref D)) _ _ _
  rw [handedOut_of (v := .ref D) rfl]
  first
    | exact wpAny_pure (wpAny_pure h)
    | exact wpAny_pure h
    | exact wpAny_pure (wpAny_bind (wpAny_pure (wpAny_pure h)))
theorem kx_kit (C : L2.ExcC K D) : KitX K (.ref x) (.ref D) (fun h => InstAt h x ox D (some od)) where
  ty := fun _ _ _ I => I.type
  it := fun _ _ X _ => by
    obtain ⟨cdD, hcD, _⟩ := any_some C.hd
    unfold clsIn at hcD
    split at hcD
    · rename_i c' d' cd' sl' ho
      intro A' Q' E' s' k q
      unfold isType loadHead
      exact wpAny_bind (wpAny_loadPart (k _ _ (X _ _ ho)) (wpAny_pure q))
    · cases hcD
  ne := fun h tp dd its n sl X htp => by
    obtain ⟨cdD, hcD, _⟩ := any_some C.hd
    refine Bool.eq_false_iff.mpr fun q => ?_
    have e : D = tp := Value.ref.inj (beq_iff_eq.mp q)
    subst e
    unfold clsIn at hcD
    split at hcD
    · rename_i c' d' cd' sl' ho
      have z := (X _ _ ho).symm.trans htp
      cases z
    · cases hcD
  ca := fun X I k => kx_classE C X I k
end
end PySem.W
namespace Kx
open PySem PySem.Spec PyProof.Rows L2 Evl HT
/-- isinstance(e, c), e the exception that the suite holds, d its dict; c a class or a tuple of classes -/
def rIsD (K : PySem.W.Frag) (D a d : Addr) : List V → Hp → VK → Prop := fun xs H Q => (∃ fs, H d = some (.xd fs)) ∧ ∃ (c : V) (b : Bool), xs = [.ref a, c] ∧
  ((∃ cv, (∀ u, RelV c u → u = cv) ∧ PySem.W.kitOne K (.ref D) cv = some b) ∨ (∃ (p : Addr) (cs : List V) (vs : List Value), c = .ref p ∧ SqT K H p cs ∧ (∀ us, Vals cs us → us = vs) ∧ PySem.W.kitAny K (.ref D) vs = some b)) ∧ Q (.bl b) H
theorem call_isD {X : Cx} {a D d : Addr} {oe : Obj} {pn : List (Addr × Obj)} (C : ExcC X.K D) (hz : Zc (.ref D) (some d) oe) (hf : ∃ vs, oe.data = .fields vs) : CallR (X.suite a ((a, oe) :: pn)) (.builtin "isinstance") (rIsD X.K D a d) := by
  intro pins s σ H xs us Q I r h
  obtain ⟨⟨fs, hd⟩, c, b, rfl, hc, q⟩ := h
  cases r with
  | cons rx rr =>
    cases rr with
    | cons rt rr =>
      cases rr
      cases rx
      obtain ⟨hget, _⟩ := I.pin (a, oe) (List.mem_append.mpr (.inl List.mem_cons_self))
      obtain ⟨vs, hv⟩ := hf
      have hx : ObjOk X.prog X.w H s.heap d (.xd fs) := I.hok d _ hd
      obtain ⟨mA, hns, hr⟩ := hx
      obtain ⟨od, ho, hl⟩ := lookIn_ns hns
      have J : PySem.W.InstAt s.heap a oe D (some od) := by
        obtain ⟨oc, od', oda, osl⟩ := oe
        obtain ⟨h1, h2⟩ := hz
        dsimp only at h1 h2 hv
        subst h1 h2 hv
        exact ⟨hget, rfl, rfl, ho⟩
      rcases hc with ⟨cv, hcv, e⟩ | ⟨p, cs, vs', rfl, hq, hvs, e⟩
      · have ec := hcv _ rt
        subst ec
        exact PySem.W.kia_one (PySem.W.kx_kit C) I.kIn J e (fun z => nomatch z) fun tk => ⟨.bl b, H, I.kept (t' := tk) fun _ _ z => z, rfl, q⟩
      · cases rt
        obtain ⟨its, rv, ht, _⟩ := I.tuple hq
        have ev := hvs _ rv
        subst ev
        obtain ⟨⟨oc, odd, oda, osl⟩, h1, h2, n, h3⟩ := ht
        dsimp only at h2 h3
        subst h2 h3
        exact PySem.W.kia_tup (PySem.W.kx_kit C) I.kIn J h1 e (fun z => nomatch z) fun tk => ⟨.bl b, H, I.kept (t' := tk) fun _ _ z => z, rfl, q⟩
end Kx

set_option Elab.async false
set_option linter.all false
set_option maxRecDepth 100000
set_option maxHeartbeats 4000000
namespace Kx
open PySem PySem.Spec PyProof.Rows L2 Evl HT
/-! ### [e for x in a list for y in what it holds] -/
structure JOk (J : It) (ys : List V) (H : Hp) : Prop where
  go : ∀ i H1, Ex H H1 → i < ys.length → J.go i H1
  stop : ∀ i H1, Ex H H1 → i = ys.length → J.stop i H1
  yld : ∀ i H1 v H2, Ex H H1 → J.yld i H1 v H2 → i < ys.length → H2 = H1 ∧ ys[i]? = some v
theorem jok_l {K : PySem.W.Frag} {H : Hp} {a : Addr} {ys : List V} (h : SqL K H a ys) : JOk (Itl K a) ys H where
  go := fun i H1 e hi => ⟨ys, ys[i], ex_l e h, by simp [hi]⟩
  stop := fun i H1 e hi => ⟨ys, ex_l e h, by omega⟩
  yld := fun i H1 v H2 e y hi => ⟨y.1, y.2 ys (ex_l e h)⟩
theorem jok_t {K : PySem.W.Frag} {H : Hp} {a : Addr} {ys : List V} (h : SqT K H a ys) : JOk (Itt K a) ys H where
  go := fun i H1 e hi => ⟨ys, ys[i], ex_t e h, by simp [hi]⟩
  stop := fun i H1 e hi => ⟨ys, ex_t e h, by omega⟩
  yld := fun i H1 v H2 e y hi => ⟨y.1, y.2 ys (ex_t e h)⟩
section
variable {K : PySem.W.Frag} {σ : L2.St} {H H' : Hp} {te tl ta : TE} {tt : TT}
theorem acc_next {α : Type} {H1 : Hp} {Dl : Addr} {σ3 : L2.St} {pre : List PyData} {ds : List α} {d : α} {i : Nat} {f : α → Bool} {g : α → PyData} (hz : pre.length + ds.length ≤ 50000) (hD : H1 Dl = none) (hd : ds[i]? = some d)
    (ht : EvT tt σ3 H' (f d)) (he : ∀ H2, Ex H' H2 → f d = true → EvD K te σ3 H2 (g d)) (p : Ex H1 H' ∧ ∃ acc, H' Dl = some (.lst acc) ∧ DtL K H' acc (pre ++ ((ds.take i).filter f).map g)) :
    tt σ3 H' fun b H3 => if b = true then te σ3 H3 fun y H4 => ∃ acc, H4 Dl = some (.lst acc) ∧ acc.length < sizeLine ∧
      (Ex H1 (upd H4 Dl (.lst (acc ++ [y]))) ∧ ∃ acc', (upd H4 Dl (.lst (acc ++ [y]))) Dl = some (.lst acc') ∧ DtL K (upd H4 Dl (.lst (acc ++ [y]))) acc' (pre ++ ((ds.take (i + 1)).filter f).map g))
    else (Ex H1 H3 ∧ ∃ acc, H3 Dl = some (.lst acc) ∧ DtL K H3 acc (pre ++ ((ds.take (i + 1)).filter f).map g)) := by
  obtain ⟨e1, acc, h1, h2⟩ := p
  have hi := (List.getElem?_eq_some_iff.mp hd).1
  refine ht H' (Ex.refl _) _ fun H3 e3 => ?_
  rw [take_step hd f g, ← List.append_assoc]
  cases q : f d with
  | false =>
    rw [if_neg (by decide), if_neg (by decide), List.append_nil]
    exact ⟨e1.trans e3, acc, e3 _ _ h1, h2.ex e3⟩
  | true =>
    rw [if_pos rfl, if_pos rfl]
    refine he H3 e3 q H3 (Ex.refl _) _ fun y H4 e4 hy => ?_
    have h4 : H4 Dl = some (.lst acc) := e4 _ _ (e3 _ _ h1)
    have len : acc.length ≤ pre.length + ds.length := by
      rw [h2.len, List.length_append, List.length_map]
      have := List.length_filter_le f (ds.take i)
      have : (ds.take i).length ≤ ds.length := by rw [List.length_take]; omega
      omega
    have tk : TK H4 (upd H4 Dl (.lst (acc ++ [y]))) := TK.upd h4 trivial
    refine ⟨acc, h4, sz_lt (by omega), Ex.mut ((e1.trans e3).trans e4) hD, acc ++ [y], upd_same, ?_⟩
    exact ((h2.ex (e3.trans e4)).append (.cons hy .nil)).tk tk
def flatN (n : Nat) (es : Nat → List PyData) : List PyData := ((List.range n).map es).flatten
theorem flatN_succ {n : Nat} {es : Nat → List PyData} : flatN (n + 1) es = flatN n es ++ es n := by
  unfold flatN
  rw [List.range_succ, List.map_append, List.flatten_append]; simp
theorem flatN_le {n m : Nat} {es : Nat → List PyData} (h : n ≤ m) : (flatN n es).length ≤ (flatN m es).length := by
  induction m with
  | zero => rw [show n = 0 by omega]; exact Nat.le_refl _
  | succ m ih =>
    by_cases e : n = m + 1
    · rw [e]; exact Nat.le_refl _
    · rw [flatN_succ, List.length_append]
      have := ih (by omega)
      omega
theorem n_lc2 {a : Addr} {xs : List V} {vs vs1 : List Nat} {j j1 : Nat} {wi1 : TI} {tt1 : TT} {es : Nat → List PyData} {f : Nat → PyData → Bool} {g : Nat → PyData → PyData} (hl : Ev tl σ H (.ref a)) (hx : SqL K H a xs) (hz : (flatN xs.length es).length ≤ 50000)
    (hw : ∀ x, wipe ((wipe σ vs).set j (some x)) vs = wipe σ vs) (hw1 : ∀ x y, wipe ((wipe ((wipe σ vs).set j (some x)) vs1).set j1 (some y)) vs1 = wipe ((wipe σ vs).set j (some x)) vs1)
    (hin : ∀ i x, xs[i]? = some x → ∃ (J : It) (ys : List V), DtL K H ys (es i) ∧ JOk J ys H ∧ ∀ H1 (R : It → Hp → Prop), Ex H H1 → R J H1 → wi1 ((wipe σ vs).set j (some x)) H1 R)
    (ht : ∀ i x y d H1, Ex H H1 → xs[i]? = some x → d ∈ es i → Dt K H1 y d → EvT tt1 ((wipe ((wipe σ vs).set j (some x)) vs1).set j1 (some y)) H1 (f i d))
    (he : ∀ i x y d H1, Ex H H1 → xs[i]? = some x → d ∈ es i → Dt K H1 y d → f i d = true → EvD K te ((wipe ((wipe σ vs).set j (some x)) vs1).set j1 (some y)) H1 (g i d)) :
    EvN K (tLc2 (iList K tl) (gName j) tYes wi1 (gName j1) tt1 te vs vs1) σ H (flatN xs.length fun i => ((es i).filter (f i)).map (g i)) := fun H0 e0 Q q => hl H0 e0 _ fun H1 e1 => by
  have e01 := e0.trans e1
  refine ⟨a, rfl, ⟨xs, ex_l e01 hx⟩, fun Dl hD => ?_⟩
  have hle : ∀ i, (flatN i fun i => ((es i).filter (f i)).map (g i)).length ≤ (flatN i es).length := fun i => by
    induction i with
    | zero => exact Nat.le_refl _
    | succ i ih =>
      rw [flatN_succ, flatN_succ, List.length_append, List.length_append, List.length_map]
      have := List.length_filter_le (f i) (es i)
      omega
  refine ⟨fun i m H' => m = xs.length - i ∧ i ≤ xs.length ∧ Ex H1 H' ∧ ∃ acc, H' Dl = some (.lst acc) ∧ DtL K H' acc (flatN i fun i => ((es i).filter (f i)).map (g i)), ⟨xs.length, by simp, Nat.zero_le _, Ex.new hD, [], upd_same, .nil⟩, ?_⟩
  rintro i m H' ⟨rfl, hi, ex1, hacc⟩
  by_cases hlt : i < xs.length
  · refine .inr ⟨⟨xs, xs[i], ex_l (e01.trans ex1) hx, by simp [hlt]⟩, fun H' => Ex H1 H' ∧ ∃ acc, H' Dl = some (.lst acc) ∧ DtL K H' acc (flatN (i + 1) fun i => ((es i).filter (f i)).map (g i)), fun H'' p => ⟨xs.length - (i + 1), by omega, rfl, hlt, p⟩, fun x H'' y => ?_⟩
    obtain ⟨rfl, y⟩ := y
    have hx' := y xs (ex_l (e01.trans ex1) hx)
    refine ⟨hw x, ?_⟩
    dsimp only [tYes]
    rw [if_pos rfl]
    obtain ⟨J, ys, hys, jok, hwi⟩ := hin i x hx'
    refine hwi H'' _ (e01.trans ex1) ?_
    have hE : ∀ i, Ex H1 i → Ex H i := fun _ e => e01.trans e
    refine ⟨fun k m H' => m = ys.length - k ∧ k ≤ ys.length ∧ Ex H1 H' ∧ ∃ acc, H' Dl = some (.lst acc) ∧ DtL K H' acc ((flatN i fun i => ((es i).filter (f i)).map (g i)) ++ (((es i).take k).filter (f i)).map (g i)), ⟨ys.length, by simp, Nat.zero_le _, ex1, by simpa using hacc⟩, ?_⟩
    rintro k m H3 ⟨rfl, hk, ex3, hac3⟩
    by_cases hkl : k < ys.length
    · refine .inr ⟨jok.go k H3 (hE _ ex3) hkl, fun H' => Ex H1 H' ∧ ∃ acc, H' Dl = some (.lst acc) ∧ DtL K H' acc ((flatN i fun i => ((es i).filter (f i)).map (g i)) ++ (((es i).take (k + 1)).filter (f i)).map (g i)), fun H'' p => ⟨ys.length - (k + 1), by omega, rfl, hkl, p⟩, fun z H4 y4 => ?_⟩
      obtain ⟨eH, hz4⟩ := jok.yld k H3 z H4 (hE _ ex3) y4 hkl
      subst eH
      obtain ⟨d, hd, hzd⟩ := hys.get' hz4
      refine ⟨hw1 x z, ?_⟩
      have hm := List.mem_of_getElem? hd
      have b1 : (flatN i fun i => ((es i).filter (f i)).map (g i)).length + (es i).length ≤ 50000 := by
        have h1 := hle i
        have h2 := flatN_le (es := es) hlt
        rw [flatN_succ, List.length_append] at h2
        omega
      exact acc_next b1 hD hd (ht i x z d H4 (hE H4 ex3) hx' hm (hzd.ex (hE H4 ex3))) (fun H5 e5 q => he i x z d H5 ((hE H4 ex3).trans e5) hx' hm (hzd.ex ((hE H4 ex3).trans e5)) q) ⟨ex3, hac3⟩
    · have ke : k = ys.length := by omega
      subst ke
      refine .inl ⟨jok.stop _ H3 (hE _ ex3) rfl, ex3, ?_⟩
      rw [hys.len, List.take_length] at hac3
      rw [flatN_succ]
      exact hac3
  · have ie : i = xs.length := by omega
    subst ie
    obtain ⟨acc, h1, h2⟩ := hacc
    exact .inl ⟨⟨xs, ex_l (e01.trans ex1) hx, Nat.le_refl _⟩, q Dl acc H' (fresh_back e1 hD) (e1.trans ex1) h1 h2⟩
/-- over a range -/
theorem n_lcR {lo : Int} {n : Nat} {wi : TI} {j : Nat} {vs : List Nat} {f : Nat → Bool} {g : Nat → PyData} (h : ∀ H1, Ex H H1 → ∀ R : It → Hp → Prop, (∀ H2, Ex H1 H2 → R (Itr lo n) H2) → wi σ H1 R) (hz : n ≤ 50000) (hw : ∀ x, wipe ((wipe σ vs).set j (some x)) vs = wipe σ vs)
    (ht : ∀ (i : Nat) H1, Ex H H1 → i < n → EvT tt ((wipe σ vs).set j (some (.int (lo + i)))) H1 (f i)) (he : ∀ (i : Nat) H1, Ex H H1 → i < n → f i = true → EvD K te ((wipe σ vs).set j (some (.int (lo + i)))) H1 (g i)) :
    EvN K (tLc wi (gName j) tt te vs) σ H (((List.range n).filter f).map g) := fun H0 e0 Q q => h H0 e0 _ fun H1 e1 Dl hD => by
  have e01 := e0.trans e1
  refine lc_range (lo := lo) (n := n) (fun i H' => Ex H1 H' ∧ ∃ acc, H' Dl = some (.lst acc) ∧ DtL K H' acc ([] ++ (((List.range n).take i).filter f).map g)) ⟨Ex.new hD, [], upd_same, by simp; exact .nil⟩ (fun i H' hi p => ⟨hw _, ?_⟩) fun H' p => ?_
  · have hd : (List.range n)[i]? = some i := by rw [List.getElem?_range hi]
    exact acc_next (pre := []) (by simp; exact hz) hD hd (ht i H' (e01.trans p.1) hi) (fun H2 e2 hf => he i H2 ((e01.trans p.1).trans e2) hi hf) p
  · obtain ⟨x1, acc, h1, h2⟩ := p
    rw [List.take_of_length_le (by simp)] at h2
    exact q Dl acc H' (fresh_back e1 hD) (e1.trans x1) h1 h2
end
end Kx

set_option Elab.async false
set_option linter.all false
set_option maxRecDepth 100000
set_option maxHeartbeats 4000000
namespace Kx
open PySem PySem.Spec PyProof.Rows L2 Evl
/-! ### rows, and the going through them, plainly -/
inductive Row where
  | hop (x y : Option Nu) | cut (x y : Option Nu) | run (p q : Int) (l : Nu) | arc (lf : Bool) (x y : Option Nu) (p q : Int)
  | mode (b : Bool) | pace (g : Int) | side (r : Nu) | frame (f : Fr) | back | piece (n : Str) | fin | call (n : Str) (t : Nat)
  deriving DecidableEq
def oD : Option Nu → PyData
  | none => .none
  | some u => nD u
def wordR : Row → Str
  | .hop .. => "hop" | .cut .. => "cut" | .run .. => "run" | .arc true .. => "left" | .arc false .. => "right" | .mode true => "by" | .mode false => "from" | .pace _ => "pace" | .side _ => "side"
  | .frame (.shift ..) => "shift" | .frame (.turn ..) => "turn" | .frame .flip => "flip" | .back => "back" | .piece _ => "piece" | .fin => "end" | .call .. => "call"
def valsR : Row → List PyData
  | .hop x y => [oD x, oD y] | .cut x y => [oD x, oD y] | .run p q l => [.int p, .int q, nD l] | .arc _ x y p q => [oD x, oD y, .int p, .int q] | .mode _ => [] | .pace g => [.int g] | .side r => [nD r]
  | .frame (.shift a b) => [nD a, nD b] | .frame (.turn p q) => [.int p, .int q] | .frame .flip => [] | .back => [] | .piece n => [.str n] | .fin => [] | .call n t => [.str n, .int t]
def rowD (r : Row) : PyData := .tuple (.str (wordR r) :: valsR r)
theorem rowD_frame (f : Fr) : rowD (.frame f) = frD f := by cases f <;> rfl
def isStep : Row → Bool
  | .hop .. | .cut .. | .run .. | .arc .. => true
  | _ => false
def plain : Row → Bool
  | .piece _ | .fin => false
  | _ => true
def nest : Bool → List Row → Bool
  | o, [] => !o
  | o, .piece _ :: r => !o && nest true r
  | o, .fin :: r => o && nest false r
  | o, _ :: r => nest o r
def openS : Bool → Row → Bool
  | _, .piece _ => true
  | _, .fin => false
  | o, _ => o
def openAt (o : Bool) (rs : List Row) : Bool := rs.foldl openS o
def namesR (rs : List Row) : List Str := rs.filterMap fun | Row.piece n => some n | _ => none
theorem openS_plain {o : Bool} {r : Row} (h : plain r = true) : openS o r = o := by cases r <;> first | rfl | cases h
theorem nest_plain {o : Bool} {r : Row} {rs : List Row} (h : plain r = true) : nest o (r :: rs) = nest o rs := by cases r <;> first | rfl | cases h
theorem nest_cons {o : Bool} {r : Row} {rs : List Row} (h : nest o (r :: rs) = true) : nest (openS o r) rs = true := by
  cases r with
  | piece n => exact (Bool.and_eq_true_iff.mp h).2
  | fin => exact (Bool.and_eq_true_iff.mp h).2
  | _ => exact h
theorem nest_app {o : Bool} {a b : List Row} (h : nest o (a ++ b) = true) : nest (openAt o a) b = true := by
  induction a generalizing o with
  | nil => exact h
  | cons r a ih => exact ih (nest_cons h)
/-- a piece's end -/
theorem nest_end {b : List Row} (h : nest true b = true) : ∃ e, b.findIdx (fun r => decide (r = .fin)) = e ∧ b[e]? = some .fin ∧ (∀ j r, j < e → b[j]? = some r → plain r = true) ∧ e < b.length ∧ (∀ j, j ≤ e → openAt true (b.take j) = true) ∧ openAt true (b.take (e + 1)) = false := by
  induction b with
  | nil => cases h
  | cons r b ih =>
    cases hr : plain r with
    | true =>
      rw [nest_plain hr] at h
      obtain ⟨e, h1, h2, h3, h4, h5, h6⟩ := ih h
      have nf : decide (r = .fin) = false := by cases r <;> first | rfl | cases hr
      refine ⟨e + 1, by rw [List.findIdx_cons, nf, h1]; rfl, by simpa using h2, fun j r' hj hg => ?_, by simpa using h4, fun j hj => ?_, ?_⟩
      · cases j with
        | zero => simp at hg; rw [← hg]; exact hr
        | succ j => exact h3 j r' (by omega) (by simpa using hg)
      · cases j with
        | zero => rfl
        | succ j =>
          show openAt (openS true r) (b.take j) = true
          rw [openS_plain hr]
          exact h5 j (by omega)
      · show openAt (openS true r) (b.take (e + 1)) = false
        rw [openS_plain hr]
        exact h6
    | false =>
      have e : r = .fin := by
        cases r with
        | piece n => simp [nest] at h
        | fin => rfl
        | _ => cases hr
      subst e
      refine ⟨0, by rw [List.findIdx_cons]; simp, rfl, fun j r' hj => absurd hj (by omega), by simp, fun j hj => ?_, rfl⟩
      have : j = 0 := by omega
      subst this
      rfl
theorem openAt_succ {rs : List Row} {k : Nat} {r : Row} {o : Bool} (h : rs[k]? = some r) : openAt o (rs.take (k + 1)) = openS (openAt o (rs.take k)) r := by
  unfold openAt
  rw [List.take_add_one, h, List.foldl_append]; rfl
theorem openAt_add {rs : List Row} {k j : Nat} {o : Bool} : openAt o (rs.take (k + j)) = openAt (openAt o (rs.take k)) ((rs.drop k).take j) := by
  unfold openAt
  rw [List.take_add, List.foldl_append]
/-- well made -/
structure WfR (rs : List Row) : Prop where
  nest : nest false rs = true
  dup : (namesR rs).Nodup
  calls : ∀ nm n, Row.call nm n ∈ rs → Row.piece nm ∈ rs ∧ 1 ≤ n
def begOf (rs : List Row) (nm : Str) : Nat := rs.findIdx (fun r => decide (r = Row.piece nm)) + 1
def endOf (rs : List Row) (b : Nat) : Nat := b + (rs.drop b).findIdx (fun r => decide (r = .fin))
def outs (rs : List Row) (k : Nat) : Prop := openAt false (rs.take k) = false ∧ k ≤ rs.length
theorem outs_plain {rs : List Row} {k : Nat} {r : Row} (o : outs rs k) (h : rs[k]? = some r) (p : plain r = true) : outs rs (k + 1) := by
  refine ⟨?_, (List.getElem?_eq_some_iff.mp h).1⟩
  rw [openAt_succ h, o.1, openS_plain p]
theorem nest_drop {rs : List Row} (W : nest false rs = true) (k : Nat) : nest (openAt false (rs.take k)) (rs.drop k) = true := nest_app (by rw [List.take_append_drop]; exact W)
theorem outs_nofin {rs : List Row} {k : Nat} (W : nest false rs = true) (o : outs rs k) (h : rs[k]? = some .fin) : False := by
  have n := nest_drop W k
  rw [o.1, List.drop_eq_getElem_cons (List.getElem?_eq_some_iff.mp h).1, (List.getElem?_eq_some_iff.mp h).2] at n
  simp [Kx.nest] at n
/-- a piece at k: its rows, its end -/
theorem piece_at {rs : List Row} {k : Nat} {nm : Str} (W : nest false rs = true) (h : rs[k]? = some (.piece nm)) : outs rs k ∧ rs[endOf rs (k + 1)]? = some .fin ∧ (∀ j r, k + 1 ≤ j → j < endOf rs (k + 1) → rs[j]? = some r → plain r = true) ∧ k + 1 ≤ endOf rs (k + 1) ∧ outs rs (endOf rs (k + 1) + 1) := by
  have hk := (List.getElem?_eq_some_iff.mp h).1
  have n := nest_drop W k
  rw [List.drop_eq_getElem_cons hk, (List.getElem?_eq_some_iff.mp h).2] at n
  have o : openAt false (rs.take k) = false := by
    have := (Bool.and_eq_true_iff.mp n).1
    simpa using this
  obtain ⟨e, h1, h2, h3, h4, h5, h6⟩ := nest_end (nest_cons n)
  have ee : endOf rs (k + 1) = k + 1 + e := by unfold endOf; rw [h1]
  rw [ee]
  rw [List.getElem?_drop] at h2
  refine ⟨⟨o, by omega⟩, h2, fun j r h7 h8 h9 => h3 (j - (k + 1)) r (by omega) (by rw [List.getElem?_drop, show k + 1 + (j - (k + 1)) = j by omega]; exact h9), by omega, ?_, ?_⟩
  · rw [show k + 1 + e + 1 = (k + 1) + (e + 1) by omega, openAt_add, openAt_succ h]
    exact h6
  · simp at h4; omega
theorem beg_at {rs : List Row} {nm : Str} (h : Row.piece nm ∈ rs) : ∃ k, rs[k]? = some (.piece nm) ∧ begOf rs nm = k + 1 := by
  have hlt : rs.findIdx (fun r => decide (r = Row.piece nm)) < rs.length := List.findIdx_lt_length_of_exists ⟨_, h, by simp⟩
  have := List.findIdx_getElem (p := fun r => decide (r = Row.piece nm)) (w := hlt)
  exact ⟨_, by rw [List.getElem?_eq_getElem hlt]; simpa using this, rfl⟩
/-- the first piece of that name is the only one -/
theorem dup_at {rs : List Row} {nm : Str} (D : (namesR rs).Nodup) {i k : Nat} (h : rs[i]? = some (.piece nm)) (h' : rs[k]? = some (.piece nm)) : i = k := by
  induction rs generalizing i k with
  | nil => simp at h
  | cons r rs ih =>
    have D' : (namesR rs).Nodup := by
      unfold namesR at D
      rw [List.filterMap_cons] at D
      split at D
      · exact D
      · exact (List.nodup_cons.mp D).2
    have mem : ∀ j : Nat, rs[j]? = some (.piece nm) → nm ∈ namesR rs := fun j hj => List.mem_filterMap.mpr ⟨_, List.mem_of_getElem? hj, rfl⟩
    have no : r = .piece nm → nm ∉ namesR rs := fun e => by
      subst e
      exact (List.nodup_cons.mp D).1
    cases i with
    | zero =>
      cases k with
      | zero => rfl
      | succ k =>
        simp at h h'
        exact absurd (mem k h') (no h)
    | succ i =>
      cases k with
      | zero =>
        simp at h h'
        exact absurd (mem i h) (no h')
      | succ k => exact congrArg Nat.succ (ih D' (i := i) (k := k) (by simpa using h) (by simpa using h'))
theorem beg_of {rs : List Row} {nm : Str} (D : (namesR rs).Nodup) {k : Nat} (h : rs[k]? = some (.piece nm)) : begOf rs nm = k + 1 := by
  obtain ⟨j, h1, h2⟩ := beg_at (List.mem_of_getElem? h)
  rw [h2, dup_at D h1 h]
/-! ### the machine -/
structure Lv where
  row : Nat
  turn : Nat
  frs : List Fr
structure Ms where
  stk : List Lv
  place : Pl
  by_ : Bool
  pace : Int
  side : Nu
  many : Nat
  made : List PyData
inductive Bad where
  | uneven (k : Nat) | frame (k : Nat) | deep (k : Nat) | many (k : Nat)
def pass1 (rs : List Row) : List Lv → Option (List Lv)
  | [] => none
  | l :: rest => match rs[l.row]? with
    | some (.piece nm) => some (⟨endOf rs (begOf rs nm) + 1, 0, l.frs⟩ :: rest)
    | some .fin => match rest with
      | [] => none
      | c :: rest' => match rs[c.row]? with
        | some (.call nm n) => if c.turn + 1 < n then some (⟨begOf rs nm, 0, []⟩ :: ⟨c.row, c.turn + 1, c.frs⟩ :: rest') else some (⟨c.row + 1, 0, c.frs⟩ :: rest')
        | _ => none
    | _ => none
def allF (st : List Lv) : List Fr := (st.reverse.map (·.frs)).flatten
def trailD (st : List Lv) : List PyData := st.reverse.map fun l => .tuple [.int l.row, .int l.turn]
def atEnd (rs : List Row) (st : List Lv) : Bool := match st with
  | [l] => decide (l.row = rs.length)
  | _ => false
def spotM (s : Ms) (fs : List Fr) (x y : Option Nu) : Pl :=
  if s.by_ = true then addP s.place (ledD fs (x.getD (0, 1), y.getD (0, 1))) else ledP fs (x.getD (fromP fs s.place).1, y.getD (fromP fs s.place).2)
def farP (p q : Pl) : Bool := farN (dotN (subP p q) (subP p q))
def stepOf (s : Ms) (fs : List Fr) : Row → Option (PyData × Pl)
  | .hop x y => some (.tuple [.str "hop", pD s.place, pD (spotM s fs x y)], spotM s fs x y)
  | .cut x y => if farP s.place (spotM s fs x y) = true then some (.tuple [.str "line", pD s.place, pD (spotM s fs x y)], spotM s fs x y) else none
  | .run p q l => some (.tuple [.str "line", pD s.place, pD (addP s.place (sclP (ledD fs (headP p q)) l))], addP s.place (sclP (ledD fs (headP p q)) l))
  | .arc lf x y p q =>
    let c := spotM s fs x y
    let way : Int := if (lf != aboutF fs) = true then 1 else -1
    let t := addP c (trnP (subP s.place c) (headP (way * p) q))
    if farP s.place c = true then some (.tuple [.str "arc", pD s.place, pD t, pD c, .int way], t) else none
  | _ => none
def sideM (s : Ms) (fs : List Fr) : Nu := if aboutF fs = true then oppN s.side else s.side
def entD (s : Ms) (step : PyData) : PyData := .tuple [step, .int s.pace, nD (sideM s (allF s.stk)), .tuple (trailD s.stk)]
/-- what a row that is done leaves: the levels not yet gone on -/
def deedM (rs : List Row) (s : Ms) (l : Lv) (rest : List Lv) (r : Row) : Except Bad Ms :=
  match r with
  | .mode b => .ok { s with by_ := b }
  | .pace g => .ok { s with pace := g }
  | .side u => .ok { s with side := u }
  | .frame f => if (allF s.stk).length = 8 then .error (.frame l.row) else .ok { s with stk := { l with frs := l.frs ++ [f] } :: rest }
  | .back => if l.frs = [] then .error (.frame l.row) else .ok { s with stk := { l with frs := l.frs.dropLast } :: rest }
  | .call nm _ => if 8 < s.stk.length then .error (.deep l.row) else .ok { s with stk := ⟨begOf rs nm, 0, []⟩ :: l :: rest }
  | r => match stepOf s (allF s.stk) r with
    | some (d, t) => .ok { s with place := t, made := s.made ++ [entD s d] }
    | none => .error (.uneven l.row)
/-- .. gone on -/
def onM (r : Row) (s : Ms) : Ms := match r with
  | .call _ _ => { s with many := s.many + 1 }
  | _ => match s.stk with
    | l :: rest => { s with many := s.many + 1, stk := ⟨l.row + 1, 0, l.frs⟩ :: rest }
    | [] => s
def doRow (rs : List Row) (s : Ms) (l : Lv) (rest : List Lv) (r : Row) : Except Bad Ms :=
  if s.many = 2000 then .error (.many 2000) else if isStep r = true ∧ s.made.length = 100 then .error (.many 100) else
  match deedM rs s l rest r with
  | .error b => .error b
  | .ok s1 => .ok (onM r s1)
inductive Sett (rs : List Row) : Nat → List Lv → List Lv → Prop
  | done {st : List Lv} (h : pass1 rs st = none) : Sett rs 0 st st
  | step {n : Nat} {st st1 st2 : List Lv} (h : pass1 rs st = some st1) (t : Sett rs n st1 st2) : Sett rs (n + 1) st st2
inductive Run (rs : List Row) : Nat → Ms → Except Bad (List PyData) → Prop
  | fin {s : Ms} (h : atEnd rs s.stk = true) : Run rs 0 s (.ok s.made)
  | bad {s : Ms} {l : Lv} {rest : List Lv} {r : Row} {b : Bad} (h : atEnd rs s.stk = false) (e : s.stk = l :: rest) (hr : rs[l.row]? = some r) (hd : doRow rs s l rest r = .error b) : Run rs 0 s (.error b)
  | go {s s1 : Ms} {l : Lv} {rest st : List Lv} {r : Row} {n m : Nat} {o : Except Bad (List PyData)} (h : atEnd rs s.stk = false) (e : s.stk = l :: rest) (hr : rs[l.row]? = some r) (hd : doRow rs s l rest r = .ok s1)
    (ht : Sett rs n s1.stk st) (t : Run rs m { s1 with stk := st } o) : Run rs (m + 1) s o
end Kx

set_option Elab.async false
set_option linter.all false
set_option maxRecDepth 100000
set_option maxHeartbeats 4000000
namespace Kx
open PySem PySem.Spec PyProof.Rows L2 Evl
/-! ### where the machine may stand -/
def Chain (rs : List Row) : Lv → List Lv → Prop
  | l, [] => outs rs l.row
  | l, c :: rest => (∃ nm n, rs[c.row]? = some (.call nm n) ∧ c.turn < n ∧ begOf rs nm ≤ l.row ∧ l.row ≤ endOf rs (begOf rs nm)) ∧ Chain rs c rest
theorem pass1_cons {rs : List Row} {l : Lv} {rest : List Lv} : pass1 rs (l :: rest) = match rs[l.row]? with
    | some (.piece nm) => some (⟨endOf rs (begOf rs nm) + 1, 0, l.frs⟩ :: rest)
    | some .fin => match rest with
      | [] => none
      | c :: rest' => match rs[c.row]? with
        | some (.call nm n) => if c.turn + 1 < n then some (⟨begOf rs nm, 0, []⟩ :: ⟨c.row, c.turn + 1, c.frs⟩ :: rest') else some (⟨c.row + 1, 0, c.frs⟩ :: rest')
        | _ => none
    | _ => none := rfl
theorem Chain.same {rs : List Row} {l k : Lv} {rest : List Lv} (h : Chain rs l rest) (e : k.row = l.row) : Chain rs k rest := by
  cases rest with
  | nil => unfold Chain at h ⊢; rw [e]; exact h
  | cons c rest =>
    obtain ⟨⟨nm, n, a, b, c', d⟩, q⟩ := h
    exact ⟨⟨nm, n, a, b, by rw [e]; exact c', by rw [e]; exact d⟩, q⟩
structure Sp1 (rs : List Row) (nm : Str) : Prop where
  fin : rs[endOf rs (begOf rs nm)]? = some .fin
  inn : ∀ j r, begOf rs nm ≤ j → j < endOf rs (begOf rs nm) → rs[j]? = some r → plain r = true
  le : begOf rs nm ≤ endOf rs (begOf rs nm)
theorem sp_of {rs : List Row} (W : WfR rs) {nm : Str} (h : Row.piece nm ∈ rs) : Sp1 rs nm := by
  obtain ⟨k, h1, h2⟩ := beg_at h
  obtain ⟨_, a, b, c, _⟩ := piece_at W.nest h1
  rw [← h2] at a b c
  exact ⟨a, b, c⟩
theorem Wf.call {rs : List Row} (W : WfR rs) {k : Nat} {nm : Str} {n : Nat} (h : rs[k]? = some (.call nm n)) : Sp1 rs nm ∧ 1 ≤ n :=
  let q := W.calls nm n (List.mem_of_getElem? h)
  ⟨sp_of W q.1, q.2⟩
/-- where nothing is to be passed: a plain row, or the end -/
theorem settled {rs : List Row} (W : WfR rs) {l : Lv} {rest : List Lv} (h : Chain rs l rest) (p : pass1 rs (l :: rest) = none) :
    (rest = [] ∧ l.row = rs.length) ∨ ∃ r, rs[l.row]? = some r ∧ plain r = true ∧ l.row < rs.length ∧ ∀ c rest', rest = c :: rest' → ∀ nm n, rs[c.row]? = some (.call nm n) → l.row < endOf rs (begOf rs nm) := by
  cases rest with
  | nil =>
    by_cases hl : l.row = rs.length
    · exact .inl ⟨rfl, hl⟩
    · have lt : l.row < rs.length := by have := h.2; omega
      have e : rs[l.row]? = some rs[l.row] := List.getElem?_eq_getElem lt
      refine .inr ⟨_, e, ?_, lt, fun c rest' q => by cases q⟩
      cases hp : plain rs[l.row] with
      | true => rfl
      | false =>
        exfalso
        cases hr : rs[l.row] with
        | piece nm => rw [hr] at e; simp [pass1, e] at p
        | fin => rw [hr] at e; exact outs_nofin W.nest h e
        | _ => rw [hr] at hp; cases hp
  | cons c rest' =>
    obtain ⟨⟨nm, n, a, b, d, f⟩, q⟩ := h
    obtain ⟨S, _⟩ := Wf.call W a
    by_cases he : l.row = endOf rs (begOf rs nm)
    · exfalso
      have hf := S.fin
      rw [← he] at hf
      rw [pass1_cons] at p
      simp only [hf, a] at p
      try (split at p <;> cases p)
    · have lt : l.row < endOf rs (begOf rs nm) := by omega
      have ll : l.row < rs.length := Nat.lt_trans lt (List.getElem?_eq_some_iff.mp S.fin).1
      have e : rs[l.row]? = some rs[l.row] := List.getElem?_eq_getElem ll
      refine .inr ⟨_, e, S.inn _ _ d lt e, ll, fun c' r' z nm' n' z2 => ?_⟩
      cases z
      rw [a] at z2
      cases z2
      exact lt
/-- passing keeps the place -/
theorem pass_chain {rs : List Row} (W : WfR rs) {l : Lv} {rest st : List Lv} (h : Chain rs l rest) (p : pass1 rs (l :: rest) = some st) : ∃ l' rest', st = l' :: rest' ∧ Chain rs l' rest' ∧ l'.turn = 0 ∧ st.length ≤ (l :: rest).length := by
  rw [pass1_cons] at p
  split at p
  · rename_i nm hr
    cases p
    refine ⟨_, _, rfl, ?_, rfl, by simp⟩
    cases rest with
    | nil =>
      have q := piece_at W.nest hr
      rw [← beg_of W.dup hr] at q
      exact q.2.2.2.2
    | cons c rest' =>
      exfalso
      obtain ⟨⟨nm', n, a, b, d, f⟩, q⟩ := h
      obtain ⟨S, _⟩ := Wf.call W a
      rcases Nat.lt_or_eq_of_le f with lt | e
      · have := S.inn _ _ d lt hr
        cases this
      · rw [e, S.fin] at hr
        cases hr
  · rename_i hr
    split at p
    · cases p
    · rename_i c rest'
      obtain ⟨⟨nm, n, a, b, d, f⟩, q⟩ := h
      obtain ⟨S, hn⟩ := Wf.call W a
      simp only [a] at p
      split at p
      · rename_i lt
        cases p
        exact ⟨_, _, rfl, ⟨⟨nm, n, a, lt, Nat.le_refl _, S.le⟩, Chain.same q rfl⟩, rfl, by simp⟩
      · cases p
        refine ⟨_, _, rfl, ?_, rfl, by simp⟩
        cases rest' with
        | nil => exact outs_plain q a rfl
        | cons c' r' =>
          obtain ⟨⟨nm', n', a', b', d', f'⟩, q'⟩ := q
          obtain ⟨S', _⟩ := Wf.call W a'
          refine ⟨⟨nm', n', a', b', by show _ ≤ c.row + 1; omega, ?_⟩, q'⟩
          rcases Nat.lt_or_eq_of_le f' with lt' | e
          · exact lt'
          · rw [e, S'.fin] at a
            cases a
  · cases p
theorem Sett.chain {rs : List Row} (W : WfR rs) {n : Nat} {st st2 : List Lv} (S : Sett rs n st st2) : ∀ {l : Lv} {rest : List Lv}, st = l :: rest → Chain rs l rest → l.turn = 0 → ∃ l' rest', st2 = l' :: rest' ∧ Chain rs l' rest' ∧ l'.turn = 0 ∧ st2.length ≤ st.length ∧ pass1 rs st2 = none := by
  induction S with
  | done h => 
    intro l rest e c t
    subst e
    exact ⟨l, rest, rfl, c, t, Nat.le_refl _, h⟩
  | step h S ih =>
    intro l rest e c t
    subst e
    obtain ⟨l', rest', e', c', t', le⟩ := pass_chain W c h
    obtain ⟨l2, r2, e2, c2, t2, le2, p2⟩ := ih e' c' t'
    exact ⟨l2, r2, e2, c2, t2, Nat.le_trans le2 le, p2⟩
theorem Sett.frs {rs : List Row} {n : Nat} {st st2 : List Lv} (S : Sett rs n st st2) : ∃ f, allF st2 ++ f = allF st ∨ True := ⟨[], .inr trivial⟩
/-- the passing ends -/
theorem sett_total {rs : List Row} (W : WfR rs) : ∀ (rest : List Lv) (l : Lv), Chain rs l rest → l.turn = 0 → ∃ n st, Sett rs n (l :: rest) st := by
  intro rest
  induction rest with
  | nil =>
    have key : ∀ k (l : Lv), rs.length - l.row = k → Chain rs l [] → l.turn = 0 → ∃ n st, Sett rs n [l] st := by
      intro k
      induction k using Nat.strongRecOn with
      | ind k ih =>
        intro l hk c t
        cases hp : pass1 rs [l] with
        | none => exact ⟨0, _, .done hp⟩
        | some st =>
          obtain ⟨l', rest', rfl, c', t', le⟩ := pass_chain W c hp
          have : rest' = [] := by
            cases rest' with
            | nil => rfl
            | cons a b => simp at le
          subst this
          have lt : l.row < l'.row := by
            rw [pass1_cons] at hp
            split at hp
            · rename_i nm hr
              cases hp
              have q := piece_at W.nest hr
              rw [← beg_of W.dup hr] at q
              have := beg_of W.dup hr
              have := q.2.2.2.1
              show l.row < endOf rs (begOf rs nm) + 1
              omega
            · cases hp
            · cases hp
          have le2 : l'.row ≤ rs.length := c'.2
          obtain ⟨n, st, S⟩ := ih (rs.length - l'.row) (by omega) l' rfl c' t'
          exact ⟨n + 1, st, .step hp S⟩
    exact fun l c t => key _ l rfl c t
  | cons c rest ih =>
    have key : ∀ m (l c : Lv), (∃ nm n, rs[c.row]? = some (.call nm n) ∧ n - c.turn = m) → Chain rs l (c :: rest) → l.turn = 0 → (∀ c', Chain rs c' rest → c'.turn = 0 → ∃ n st, Sett rs n (c' :: rest) st) → ∃ n st, Sett rs n (l :: c :: rest) st := by
      intro m
      induction m using Nat.strongRecOn with
      | ind m ihm =>
        intro l c hm ch t ih
        cases hp : pass1 rs (l :: c :: rest) with
        | none => exact ⟨0, _, .done hp⟩
        | some st =>
          obtain ⟨l', rest', e', c', t', le⟩ := pass_chain W ch hp
          obtain ⟨nm, n, hr, hn⟩ := hm
          rw [pass1_cons] at hp
          split at hp
          · rename_i nm' hr'
            exfalso
            obtain ⟨⟨nm', n', a, b, d, f⟩, q⟩ := ch
            obtain ⟨S, _⟩ := Wf.call W a
            rcases Nat.lt_or_eq_of_le f with lt | e
            · have := S.inn _ _ d lt hr'
              cases this
            · rw [e, S.fin] at hr'
              cases hr'
          · rename_i hr'
            simp only [hr] at hp
            split at hp
            · rename_i lt
              cases hp
              cases e'
              obtain ⟨k, st2, S2⟩ := ihm (n - (c.turn + 1)) (by omega) _ ⟨c.row, c.turn + 1, c.frs⟩ ⟨nm, n, hr, rfl⟩ c' rfl ih
              refine ⟨k + 1, st2, .step (st1 := ⟨begOf rs nm, 0, []⟩ :: ⟨c.row, c.turn + 1, c.frs⟩ :: rest) ?_ S2⟩
              rw [pass1_cons]
              simp only [hr', hr, if_pos lt]
            · rename_i lt
              cases hp
              cases e'
              obtain ⟨k, st2, S2⟩ := ih _ c' rfl
              refine ⟨k + 1, st2, .step (st1 := ⟨c.row + 1, 0, c.frs⟩ :: rest) ?_ S2⟩
              rw [pass1_cons]
              simp only [hr', hr, if_neg lt]
          · cases hp
    intro l ch t
    obtain ⟨⟨nm, n, a, b⟩, q⟩ := id ch
    exact key _ l c ⟨nm, n, a, rfl⟩ ch t ih
end Kx

set_option Elab.async false
set_option linter.all false
set_option maxRecDepth 100000
set_option maxHeartbeats 4000000
namespace Kx
open PySem PySem.Spec PyProof.Rows L2 Evl
/-! ### a row done: where the machine stands then -/
def isCall : Row → Bool
  | .call .. => true
  | _ => false
theorem deed_stk {rs : List Row} {s s1 : Ms} {l : Lv} {rest : List Lv} {r : Row} (hst : s.stk = l :: rest) (hd : deedM rs s l rest r = .ok s1) : s1.many = s.many ∧ s1.made.length ≤ s.made.length + 1 ∧
    (isCall r = false → ∃ f, s1.stk = ⟨l.row, l.turn, f⟩ :: rest) ∧ ∀ nm n, r = .call nm n → s.stk.length ≤ 8 ∧ s1 = { s with stk := ⟨begOf rs nm, 0, []⟩ :: l :: rest } := by
  have st : ∀ r', (∀ nm n, r' ≠ .call nm n) → (match stepOf s (allF s.stk) r' with
    | some (d, t) => Except.ok ({ s with place := t, made := s.made ++ [entD s d] } : Ms)
    | none => Except.error (Bad.uneven l.row)) = .ok s1 → s1.many = s.many ∧ s1.made.length ≤ s.made.length + 1 ∧ (isCall r' = false → ∃ f, s1.stk = ⟨l.row, l.turn, f⟩ :: rest) ∧ ∀ nm n, r' = .call nm n → s.stk.length ≤ 8 ∧ s1 = { s with stk := ⟨begOf rs nm, 0, []⟩ :: l :: rest } := fun r' hn h => by
    split at h
    · cases h
      exact ⟨rfl, by simp, fun _ => ⟨l.frs, hst⟩, fun nm n e => absurd e (hn nm n)⟩
    · cases h
  cases r with
  | mode b => cases hd; exact ⟨rfl, by simp, fun _ => ⟨l.frs, hst⟩, fun nm n e => by cases e⟩
  | pace b => cases hd; exact ⟨rfl, by simp, fun _ => ⟨l.frs, hst⟩, fun nm n e => by cases e⟩
  | side b => cases hd; exact ⟨rfl, by simp, fun _ => ⟨l.frs, hst⟩, fun nm n e => by cases e⟩
  | frame f =>
    simp only [deedM] at hd
    split at hd
    · cases hd
    · cases hd; exact ⟨rfl, by simp, fun _ => ⟨_, rfl⟩, fun nm n e => by cases e⟩
  | back =>
    simp only [deedM] at hd
    split at hd
    · cases hd
    · cases hd; exact ⟨rfl, by simp, fun _ => ⟨_, rfl⟩, fun nm n e => by cases e⟩
  | call nm n =>
    simp only [deedM] at hd
    split at hd
    · cases hd
    · rename_i h8
      cases hd
      exact ⟨rfl, by simp, fun h => Bool.noConfusion h, fun nm' n' e => by cases e; exact ⟨by omega, rfl⟩⟩
  | hop x y => exact st _ (fun _ _ e => by cases e) hd
  | cut x y => exact st _ (fun _ _ e => by cases e) hd
  | run x y z => exact st _ (fun _ _ e => by cases e) hd
  | arc x y z p q => exact st _ (fun _ _ e => by cases e) hd
  | piece x => exact st _ (fun _ _ e => by cases e) hd
  | fin => exact st _ (fun _ _ e => by cases e) hd
theorem chain_next {rs : List Row} (W : WfR rs) {l : Lv} {rest : List Lv} {r : Row} {f : List Fr} (hc : Chain rs l rest) (hr : rs[l.row]? = some r) (hp : plain r = true) : Chain rs ⟨l.row + 1, 0, f⟩ rest := by
  cases rest with
  | nil => exact outs_plain hc hr hp
  | cons c rest' =>
    obtain ⟨⟨nm, n, a, b, d, e⟩, q⟩ := hc
    obtain ⟨S, _⟩ := Wf.call W a
    refine ⟨⟨nm, n, a, b, by show _ ≤ l.row + 1; omega, ?_⟩, q⟩
    rcases Nat.lt_or_eq_of_le e with lt | e'
    · exact lt
    · rw [e', S.fin] at hr
      cases hr
      cases hp
theorem on_not {r : Row} {s : Ms} {l : Lv} {rest : List Lv} (h : isCall r = false) (e : s.stk = l :: rest) : onM r s = { s with many := s.many + 1, stk := ⟨l.row + 1, 0, l.frs⟩ :: rest } := by
  unfold onM
  cases r <;> first | (simp only [e]; done) | (cases h; done) | simp only [e]
theorem do_chain {rs : List Row} (W : WfR rs) {s : Ms} {l : Lv} {rest : List Lv} {r : Row} (hst : s.stk = l :: rest) (hc : Chain rs l rest) (ht : l.turn = 0) (hr : rs[l.row]? = some r) (hp : plain r = true) {s1 : Ms} (hd : deedM rs s l rest r = .ok s1) :
    ∃ l' rest', (onM r s1).stk = l' :: rest' ∧ Chain rs l' rest' ∧ l'.turn = 0 ∧ ((onM r s1).stk.length ≤ s.stk.length ∨ (onM r s1).stk.length ≤ 9) := by
  obtain ⟨h1, h2, h3, h4⟩ := deed_stk hst hd
  cases hcall : isCall r with
  | false =>
    obtain ⟨f, hf⟩ := h3 hcall
    rw [on_not hcall hf]
    exact ⟨_, _, rfl, chain_next (l := ⟨l.row, l.turn, f⟩) W (Chain.same hc rfl) hr hp, rfl, .inl (by rw [hst]; simp)⟩
  | true =>
    cases r with
    | call nm n =>
      obtain ⟨g1, g2⟩ := h4 nm n rfl
      subst g2
      refine ⟨⟨begOf rs nm, 0, []⟩, l :: rest, rfl, ⟨⟨nm, n, hr, ?_, Nat.le_refl _, (Wf.call W hr).1.le⟩, hc⟩, rfl, .inr ?_⟩
      · rw [ht]; exact (Wf.call W hr).2
      · show (_ :: l :: rest : List Lv).length ≤ 9
        rw [hst] at g1
        simp at g1 ⊢
        omega
    | _ => cases hcall
end Kx

set_option Elab.async false
set_option linter.all false
set_option maxRecDepth 100000
set_option maxHeartbeats 4000000
namespace Kx
open PySem PySem.Spec PyProof.Rows L2 Evl HT
/-! ### data that may be compared; tuples joined and cut -/
def Shp (n : Nat) (d : PyData) : Prop := d.canLay0 = true ∧ d.depth ≤ n
theorem Shp.shaped {n : Nat} {d : PyData} (h : Shp n d) (l : n ≤ 64) : SeqAt.shaped d = true := by
  unfold SeqAt.shaped
  rw [h.1, decide_eq_true (Nat.le_trans h.2 l)]; rfl
theorem Shp.mono {n m : Nat} {d : PyData} (h : Shp n d) (l : n ≤ m) : Shp m d := ⟨h.1, Nat.le_trans h.2 l⟩
theorem shp_all {n : Nat} {ds : List PyData} (h : ∀ d ∈ ds, Shp n d) : PyData.canLayAll0 ds = true ∧ PyData.depthAll ds ≤ n := by
  induction ds with
  | nil => simp [PyData.canLayAll0, PyData.depthAll]
  | cons d ds ih =>
    obtain ⟨a, b⟩ := ih fun e he => h e (List.mem_cons_of_mem _ he)
    obtain ⟨c, e⟩ := h d (List.mem_cons_self ..)
    refine ⟨by simp [PyData.canLayAll0, a, c], ?_⟩
    simp only [PyData.depthAll]
    omega
theorem shp_tup {n : Nat} {ds : List PyData} (h : ∀ d ∈ ds, Shp n d) : Shp (n + 1) (.tuple ds) := by
  obtain ⟨a, b⟩ := shp_all h
  exact ⟨by simp only [PyData.canLay0]; exact a, by simp only [PyData.depth]; omega⟩
theorem shp_lst {n : Nat} {ds : List PyData} (h : ∀ d ∈ ds, Shp n d) : Shp (n + 1) (.list ds) := by
  obtain ⟨a, b⟩ := shp_all h
  exact ⟨by simp only [PyData.canLay0]; exact a, by simp only [PyData.depth]; omega⟩
theorem shp_int (i : Int) : Shp 0 (.int i) := ⟨by simp [PyData.canLay0], by simp [PyData.depth]⟩
theorem shp_bool (i : Bool) : Shp 0 (.bool i) := ⟨by simp [PyData.canLay0], by simp [PyData.depth]⟩
theorem shp_non : Shp 0 .none := ⟨by simp [PyData.canLay0], by simp [PyData.depth]⟩
theorem shp_str {x : Str} (h : PyData.strOk x = true) : Shp 0 (.str x) := ⟨by simp only [PyData.canLay0]; exact h, by simp [PyData.depth]⟩
theorem shp_nD (u : Nu) : Shp 1 (nD u) := shp_tup (n := 0) fun d hd => by
  simp at hd
  rcases hd with rfl | rfl
  · exact shp_int _
  · exact shp_int _
theorem shp_pD (p : Pl) : Shp 2 (pD p) := shp_tup (n := 1) fun d hd => by
  simp at hd
  rcases hd with rfl | rfl
  · exact shp_nD _
  · exact shp_nD _
theorem shp_frD (f : Fr) : Shp 2 (frD f) := by
  cases f with
  | shift a b =>
    refine shp_tup (n := 1) fun d hd => ?_
    simp at hd
    rcases hd with rfl | rfl | rfl
    · exact (shp_str (by decide +kernel)).mono (by decide)
    · exact shp_nD _
    · exact shp_nD _
  | turn a b =>
    refine shp_tup (n := 1) fun d hd => ?_
    simp at hd
    rcases hd with rfl | rfl | rfl
    · exact (shp_str (by decide +kernel)).mono (by decide)
    · exact (shp_int _).mono (by decide)
    · exact (shp_int _).mono (by decide)
  | flip =>
    refine shp_tup (n := 1) fun d hd => ?_
    simp at hd
    subst hd
    exact (shp_str (by decide +kernel)).mono (by decide)
theorem shp_frsD (fs : List Fr) : Shp 3 (frsD fs) := shp_tup (n := 2) fun d hd => by
  obtain ⟨f, _, rfl⟩ := List.mem_map.mp hd
  exact shp_frD f
theorem eqv_frs (fs : List Fr) : PyData.eqv (frsD fs) (.tuple []) = decide (fs = []) := by
  cases fs with
  | nil => simp [frsD, PyData.eqv, PyData.eqvAll]
  | cons f fs => simp [frsD, PyData.eqv, PyData.eqvAll]
section
variable {K : PySem.W.Frag} {H H' : Hp} {σ : L2.St} {ta tb te : TE} {ds es : List PyData}
theorem DtL.nil_iff {xs : List V} (h : DtL K H xs ds) : xs = [] ↔ ds = [] := by
  cases h <;> simp
theorem d_catT (ha : EvD K ta σ H (.tuple ds)) (hb : EvD K tb σ H (.tuple es)) (hz : ds.length + es.length ≤ 100000) : EvD K (tOp (rCatA K) ta tb) σ H (.tuple (ds ++ es)) := fun H1 e Q q =>
  ha H1 e _ fun v H2 e2 hv => hb H2 (e.trans e2) _ fun w H3 e3 hw => by
    obtain ⟨a, xs, rfl, h1, h2⟩ := (hv.ex e3).tup_eq
    obtain ⟨b, ys, rfl, h3, h4⟩ := hw.tup_eq
    refine ⟨a, b, xs, ys, rfl, rfl, h1, h3, by rw [h2.len, h4.len]; exact sz_of hz, fun hx => ?_, fun hx hy => ?_, fun hx hy p hp => ?_⟩
    · have : ds = [] := h2.nil_iff.mp hx
      subst this
      exact q _ _ (e2.trans e3) (.tup h3 h4)
    · have : es = [] := h4.nil_iff.mp hy
      subst this
      rw [List.append_nil] at q
      exact q _ _ (e2.trans e3) (.tup h1 h2)
    · exact q _ _ ((e2.trans e3).trans (Ex.new hp)) (.tup (SqT.of upd_same) ((h2.append h4).ex (Ex.new hp)))
/-- t[lo:hi] -/
def cutD (ds : List PyData) (lo hi : Option Int) : List PyData := (ds.drop (HT.sIx ds.length 0 lo)).take (HT.sIx ds.length ds.length hi - HT.sIx ds.length 0 lo)
theorem DtL.cut {xs : List V} (h : DtL K H xs ds) (lo hi : Option Int) : DtL K H (cutV xs lo hi) (cutD ds lo hi) := by
  unfold cutV cutD
  rw [h.len]
  exact (h.drop _).take _
theorem d_slT {tl th : TO} {lo hi : Option Int} (ha : EvD K ta σ H (.tuple ds)) (hl : EvO tl σ H lo) (hh : EvO th σ H hi) : EvD K (tSl (rSlA K) ta tl th) σ H (.tuple (cutD ds lo hi)) := fun H1 e Q q =>
  ha H1 e _ fun v H2 e2 hv => hl H2 (e.trans e2) _ fun H3 e3 => hh H3 ((e.trans e2).trans e3) _ fun H4 e4 => by
    obtain ⟨a, xs, rfl, h1, h2⟩ := ((hv.ex e3).ex e4).tup_eq
    refine ⟨a, xs, rfl, h1, fun hw => ?_, fun _ p hp => q _ _ (((e2.trans e3).trans e4).trans (Ex.new hp)) (.tup (SqT.of upd_same) ((h2.cut lo hi).ex (Ex.new hp)))⟩
    have : cutD ds lo hi = ds := by
      rw [h2.len] at hw
      unfold cutD
      rw [hw.1, hw.2]; simp
    rw [this] at q
    exact q _ _ ((e2.trans e3).trans e4) (.tup h1 h2)
theorem cut_last (ds : List PyData) : cutD ds none (some (-1)) = ds.dropLast := by
  have e : HT.sIx ds.length ds.length (some (-1)) = ds.length - 1 := by
    show (if (-1 : Int) < 0 then ((-1 : Int) + (ds.length : Int)).toNat else min (-1 : Int).toNat ds.length) = _
    rw [if_pos (by decide)]
    omega
  unfold cutD
  rw [e, List.dropLast_eq_take]
  show (ds.drop 0).take (ds.length - 1 - 0) = _
  rw [List.drop_zero, Nat.sub_zero]
end
theorem sm_trn {a c : Nat} {p h : Pl} (hp : SmP a p) (hh : SmP c h) : SmP (a + c + (a + c) + 1) (trnP p h) := ⟨(hp.1.mul hh.1).sub (hp.2.mul hh.2), (hp.1.mul hh.2).add (hp.2.mul hh.1)⟩
theorem rat_neg {t b : Int} : rat (-t) b = (-(rat t b).1, (rat t b).2) := by
  have g : gcdI (-t) b = gcdI t b := by unfold gcdI; rw [Int.neg_gcd]
  unfold rat
  rw [g, Int.neg_ediv_of_dvd (by unfold gcdI; exact Int.gcd_dvd_left ..)]
theorem sub_flip (u v : Nu) : subN v u = (-(subN u v).1, (subN u v).2) := by
  unfold subN addN oppN
  dsimp only
  rw [← rat_neg]
  congr 1
  · rw [Int.neg_add, Int.sub_mul, Int.sub_mul, Int.zero_mul, Int.zero_mul, Int.zero_sub, Int.zero_sub, Int.neg_neg, Int.add_comm]
  · exact Int.mul_comm _ _
theorem mul_flip (u : Nu) : mulN (-u.1, u.2) (-u.1, u.2) = mulN u u := by
  unfold mulN
  dsimp only
  rw [Int.neg_mul_neg]
theorem far_sym (p q : Pl) : farP p q = farP q p := by
  unfold farP dotN subP
  dsimp only
  rw [sub_flip q.1 p.1, sub_flip q.2 p.2, mul_flip, mul_flip]
end Kx

set_option Elab.async false
set_option linter.all false
set_option maxRecDepth 100000
set_option maxHeartbeats 4000000
namespace Kx
open PySem PySem.Spec PyProof.Rows L2 Evl HT
/-! ### the runner -/
abbrev CR (K : PySem.W.Frag) : Addr := He.ga K "Runner"
def rf (r sp t pl mo pa si fr mn md : V) : List (Str × V) := [("rows", r), ("spans", sp), ("trail", t), ("place", pl), ("mode", mo), ("pace", pa), ("side", si), ("frames", fr), ("many", mn), ("made", md)]
abbrev rowsD (rs : List Row) : PyData := .tuple (rs.map rowD)
def frssD (st : List Lv) : List PyData := st.reverse.map fun l => frsD l.frs
def modeS (b : Bool) : Str := if b = true then "by" else "from"
def SpanOk (K : PySem.W.Frag) (H : Hp) (S : Addr) (rs : List Row) : Prop := ∃ kvs : List (Key × V), H S = some (.dK kvs) ∧ ∀ nm, Row.piece nm ∈ rs → ∃ v, valV kvs (.inr nm) = some v ∧ Dt K H v (.tuple [.int (begOf rs nm), .int (endOf rs (begOf rs nm))])
structure RunB (K : PySem.W.Frag) (H : Hp) (a tr fr md : Addr) (rs : List Row) (s : Ms) (dx S : Addr) (rv plv siv : V) (tvs fvs mvs : List V) (tds fds : List PyData) : Prop where
  self : H a = some (.ins (CR K) dx (rf rv (.ref S) (.ref tr) plv (.str (modeS s.by_)) (.int s.pace) siv (.ref fr) (.int s.many) (.ref md)))
  rows : Dt K H rv (rowsD rs)
  spans : SpanOk K H S rs
  place : Dt K H plv (pD s.place)
  side : Dt K H siv (nD s.side)
  trail : H tr = some (.lst tvs)
  trailD : DtL K H tvs tds
  frames : H fr = some (.lst fvs)
  framesD : DtL K H fvs fds
  made : H md = some (.lst mvs)
  madeD : DtL K H mvs s.made
  n1 : tr ≠ fr
  n2 : tr ≠ md
  n3 : fr ≠ md
def RunAt (K : PySem.W.Frag) (H : Hp) (a tr fr md : Addr) (rs : List Row) (s : Ms) : Prop := ∃ dx S rv plv siv tvs fvs mvs, RunB K H a tr fr md rs s dx S rv plv siv tvs fvs mvs (trailD s.stk) (frssD s.stk)
theorem SpanOk.ex {K : PySem.W.Frag} {H H' : Hp} {S : Addr} {rs : List Row} (h : SpanOk K H S rs) (e : Ex H H') : SpanOk K H' S rs :=
  let ⟨kvs, h1, h2⟩ := h
  ⟨kvs, e _ _ h1, fun nm hn => let ⟨v, a, b⟩ := h2 nm hn; ⟨v, a, b.ex e⟩⟩
theorem RunB.ex {K : PySem.W.Frag} {H H' : Hp} {a tr fr md : Addr} {rs : List Row} {s : Ms} {dx S : Addr} {rv plv siv : V} {tvs fvs mvs : List V} {tds fds : List PyData} (h : RunB K H a tr fr md rs s dx S rv plv siv tvs fvs mvs tds fds) (e : Ex H H') : RunB K H' a tr fr md rs s dx S rv plv siv tvs fvs mvs tds fds :=
  ⟨e _ _ h.self, h.rows.ex e, h.spans.ex e, h.place.ex e, h.side.ex e, e _ _ h.trail, h.trailD.ex e, e _ _ h.frames, h.framesD.ex e, e _ _ h.made, h.madeD.ex e, h.n1, h.n2, h.n3⟩
theorem RunAt.ex {K : PySem.W.Frag} {H H' : Hp} {a tr fr md : Addr} {rs : List Row} {s : Ms} (h : RunAt K H a tr fr md rs s) (e : Ex H H') : RunAt K H' a tr fr md rs s :=
  let ⟨dx, S, rv, plv, siv, tvs, fvs, mvs, b⟩ := h
  ⟨dx, S, rv, plv, siv, tvs, fvs, mvs, b.ex e⟩
/-- what stood elsewhere stands -/
def Kp (L : List Addr) (H H' : Hp) : Prop := ∀ b o, b ∉ L → H b = some o → H' b = some o
theorem Kp.refl (L : List Addr) (H : Hp) : Kp L H H := fun _ _ _ h => h
theorem Kp.trans {L : List Addr} {H H1 H2 : Hp} (a : Kp L H H1) (b : Kp L H1 H2) : Kp L H H2 := fun c o n h => b c o n (a c o n h)
theorem Kp.ex {L : List Addr} {H H' : Hp} (e : Ex H H') : Kp L H H' := fun _ _ _ h => e _ _ h
theorem Kp.wr {L : List Addr} {H : Hp} {b : Addr} {o : HO} (h : b ∈ L) : Kp L H (L2.upd H b o) := fun c u n hc => by
  rw [upd_ne (fun e : c = b => n (by rw [e]; exact h))]
  exact hc
theorem Kp.tk {L : List Addr} {H H' : Hp} (k : Kp L H H') (m : ∀ b ∈ L, ∀ o, H b = some o → Mut (some o)) : TK H H' := fun b xs r => by
  have n : b ∉ L := fun hb => by
    rcases r with r | ⟨o, r⟩
    · exact m b hb _ r
    · exact m b hb _ r
  rcases r with r | ⟨o, r⟩
  · exact .inl (k _ _ n r)
  · exact .inr ⟨o, k _ _ n r⟩
section
variable {K : PySem.W.Frag} {H H' : Hp} {a tr fr md : Addr} {rs : List Row} {s : Ms} {dx S : Addr} {rv plv siv : V} {tvs fvs mvs : List V} {tds fds : List PyData}
theorem RunB.mu (h : RunB K H a tr fr md rs s dx S rv plv siv tvs fvs mvs tds fds) : ∀ b ∈ [a, tr, fr, md], ∀ o, H b = some o → Mut (some o) := fun b hb o e => by
  have e' : b = a ∨ b = tr ∨ b = fr ∨ b = md := by simpa using hb
  rcases e' with q | q | q | q
  · rw [q, h.self] at e; cases e; exact trivial
  · rw [q, h.trail] at e; cases e; exact trivial
  · rw [q, h.frames] at e; cases e; exact trivial
  · rw [q, h.made] at e; cases e; exact trivial
theorem RunAt.tk (h : RunAt K H a tr fr md rs s) (k : Kp [a, tr, fr, md] H H') : TK H H' := let ⟨_, _, _, _, _, _, _, _, b⟩ := h; k.tk b.mu
theorem SpanOk.kp {L : List Addr} (h : SpanOk K H S rs) (k : Kp L H H') (t : TK H H') (n : S ∉ L) : SpanOk K H' S rs :=
  let ⟨kvs, h1, h2⟩ := h
  ⟨kvs, k _ _ n h1, fun nm hn => let ⟨v, a, b⟩ := h2 nm hn; ⟨v, a, b.tk t⟩⟩
theorem RunB.sn (h : RunB K H a tr fr md rs s dx S rv plv siv tvs fvs mvs tds fds) : S ∉ [a, tr, fr, md] := fun hb => by
  obtain ⟨kvs, h1, _⟩ := h.spans
  have e' : S = a ∨ S = tr ∨ S = fr ∨ S = md := by simpa using hb
  rcases e' with q | q | q | q
  · rw [q, h.self] at h1; cases h1
  · rw [q, h.trail] at h1; cases h1
  · rw [q, h.frames] at h1; cases h1
  · rw [q, h.made] at h1; cases h1
theorem RunB.an (h : RunB K H a tr fr md rs s dx S rv plv siv tvs fvs mvs tds fds) : a ≠ tr ∧ a ≠ fr ∧ a ≠ md :=
  ⟨fun q => (by have z := h.self; rw [q, h.trail] at z; cases z), fun q => (by have z := h.self; rw [q, h.frames] at z; cases z), fun q => (by have z := h.self; rw [q, h.made] at z; cases z)⟩
theorem RunB.core {H' : Hp} (h : RunB K H a tr fr md rs s dx S rv plv siv tvs fvs mvs tds fds) (t : TK H H') (k : Kp [a, tr, fr, md] H H') : Dt K H' rv (rowsD rs) ∧ SpanOk K H' S rs ∧ Dt K H' plv (pD s.place) ∧ Dt K H' siv (nD s.side) ∧ DtL K H' tvs tds ∧ DtL K H' fvs fds ∧ DtL K H' mvs s.made :=
  ⟨h.rows.tk t, h.spans.kp k t h.sn, h.place.tk t, h.side.tk t, h.trailD.tk t, h.framesD.tk t, h.madeD.tk t⟩
/-- the lists written -/
theorem RunB.wTrail {us : List V} {uds : List PyData} (h : RunB K H a tr fr md rs s dx S rv plv siv tvs fvs mvs tds fds) (hu : DtL K H us uds) : RunB K (upd H tr (.lst us)) a tr fr md rs s dx S rv plv siv us fvs mvs uds fds := by
  have k : Kp [a, tr, fr, md] H (upd H tr (.lst us)) := .wr (by simp)
  have t : TK H (upd H tr (.lst us)) := k.tk h.mu
  obtain ⟨n1, n2, n3⟩ := h.an
  obtain ⟨c1, c2, c3, c4, c5, c6, c7⟩ := h.core t k
  exact ⟨by rw [upd_ne n1]; exact h.self, c1, c2, c3, c4, upd_same, hu.tk t, by rw [upd_ne h.n1.symm]; exact h.frames, c6, by rw [upd_ne h.n2.symm]; exact h.made, c7, h.n1, h.n2, h.n3⟩
theorem RunB.wFrames {us : List V} {uds : List PyData} (h : RunB K H a tr fr md rs s dx S rv plv siv tvs fvs mvs tds fds) (hu : DtL K H us uds) : RunB K (upd H fr (.lst us)) a tr fr md rs s dx S rv plv siv tvs us mvs tds uds := by
  have k : Kp [a, tr, fr, md] H (upd H fr (.lst us)) := .wr (by simp)
  have t : TK H (upd H fr (.lst us)) := k.tk h.mu
  obtain ⟨n1, n2, n3⟩ := h.an
  obtain ⟨c1, c2, c3, c4, c5, c6, c7⟩ := h.core t k
  exact ⟨by rw [upd_ne n2]; exact h.self, c1, c2, c3, c4, by rw [upd_ne h.n1]; exact h.trail, c5, upd_same, hu.tk t, by rw [upd_ne h.n3.symm]; exact h.made, c7, h.n1, h.n2, h.n3⟩
theorem RunB.wMade {us : List V} {uds : List PyData} (h : RunB K H a tr fr md rs s dx S rv plv siv tvs fvs mvs tds fds) (hu : DtL K H us uds) : RunB K (upd H md (.lst us)) a tr fr md rs { s with made := uds } dx S rv plv siv tvs fvs us tds fds := by
  have k : Kp [a, tr, fr, md] H (upd H md (.lst us)) := .wr (by simp)
  have t : TK H (upd H md (.lst us)) := k.tk h.mu
  obtain ⟨n1, n2, n3⟩ := h.an
  obtain ⟨c1, c2, c3, c4, c5, c6, c7⟩ := h.core t k
  exact ⟨by rw [upd_ne n3]; exact h.self, c1, c2, c3, c4, by rw [upd_ne h.n2]; exact h.trail, c5, by rw [upd_ne h.n3]; exact h.frames, c6, upd_same, hu.tk t, h.n1, h.n2, h.n3⟩
/-- the fields written -/
theorem RunB.wSelf {plv' siv' : V} {s' : Ms} (h : RunB K H a tr fr md rs s dx S rv plv siv tvs fvs mvs tds fds) (hp : Dt K H plv' (pD s'.place)) (hs : Dt K H siv' (nD s'.side)) (hm : s'.made = s.made) :
    RunB K (upd H a (.ins (CR K) dx (rf rv (.ref S) (.ref tr) plv' (.str (modeS s'.by_)) (.int s'.pace) siv' (.ref fr) (.int s'.many) (.ref md)))) a tr fr md rs s' dx S rv plv' siv' tvs fvs mvs tds fds := by
  have k : Kp [a, tr, fr, md] H (upd H a (.ins (CR K) dx (rf rv (.ref S) (.ref tr) plv' (.str (modeS s'.by_)) (.int s'.pace) siv' (.ref fr) (.int s'.many) (.ref md)))) := .wr (by simp)
  have t := k.tk h.mu
  obtain ⟨n1, n2, n3⟩ := h.an
  obtain ⟨c1, c2, c3, c4, c5, c6, c7⟩ := h.core t k
  exact ⟨upd_same, c1, c2, hp.tk t, hs.tk t, by rw [upd_ne n1.symm]; exact h.trail, c5, by rw [upd_ne n2.symm]; exact h.frames, c6, by rw [upd_ne n3.symm]; exact h.made, by rw [hm]; exact c7, h.n1, h.n2, h.n3⟩
end
section
variable {X : Cx} {CX : CXT} {k : Nat} {f C : Addr} {ps : List Str} {sp : Sp} {E : XK} {m : Str} {pos apos : Pos} {e o : Expr} {es : List Expr} {t : TA} {ta : TE}
theorem pe_m0 (O : Ok X.prog X.w X.K X.mg X.base CX k f ps sp) (hr : Room k X.A) (c : Cls X.K C) (hm : Meth X.K C m f) (hx : Passes CX X E) (he : PE X o ta) {pl : Sem Bool}
    (ht : eval (.Call (.Attribute o m apos) [] [] pos) X.env = (do
      let ov ← eval o X.env
      standAt apos.atName
      let (f, first) ← holding [ov] (getMethod ov m pl)
      callWith pos f first (backTo pos (starEach [] X.env)) (backToKw pos (keywordEach [] X.env))) := by rfl) : PE X (.Call (.Attribute o m apos) [] [] pos) (tMeth C m sp [] E ta tNil) := let ⟨fd, F, b⟩ := O.ex; pe_meth0 he c hm F hr b .nil hx ht
theorem pe_m (O : Ok X.prog X.w X.K X.mg X.base CX k f ps sp) (hr : Room k X.A) (c : Cls X.K C) (hm : Meth X.K C m f) (hx : Passes CX X E) (he : PE X o ta) (ha : PA X (e :: es) t) {pl : Sem Bool}
    (hst : starEach (e :: es) X.env = (false, eval e X.env) :: starEach es X.env := by rfl) (hpl : (backTo pos (starEach es X.env)).any (·.1) = false := by rfl)
    (ht : eval (.Call (.Attribute o m apos) (e :: es) [] pos) X.env = (do
      let ov ← eval o X.env
      standAt apos.atName
      let (f, first) ← holding [ov] (getMethod ov m pl)
      callWith pos f first (backTo pos (starEach (e :: es) X.env)) (backToKw pos (keywordEach [] X.env))) := by rfl) : PE X (.Call (.Attribute o m apos) (e :: es) [] pos) (tMeth C m sp [] E ta t) := let ⟨fd, F, b⟩ := O.ex; pe_meth he c hm F hr b .nil hx ha hst hpl ht
end
theorem atI_last {α : Type} (xs : List α) (x : α) : atI (xs ++ [x]) (-1) = some x := by
  have h0 : ¬ (0 : Int) ≤ -1 := by decide
  have h1 : -((xs ++ [x]).length : Int) ≤ -1 := by rw [List.length_append]; simp; omega
  unfold atI ixN
  rw [if_neg h0, if_pos h1]
  have e : ((-1 : Int) + ((xs ++ [x]).length : Int)).toNat = xs.length := by rw [List.length_append]; simp; omega
  show (xs ++ [x])[((-1 : Int) + ((xs ++ [x]).length : Int)).toNat]? = some x
  rw [e]; simp
theorem ixN_last {n : Nat} : ixN (n + 1) (-1) = some n := by
  have h0 : ¬ (0 : Int) ≤ -1 := by decide
  have h1 : -((n + 1 : Nat) : Int) ≤ -1 := by omega
  unfold ixN
  rw [if_neg h0, if_pos h1]
  congr 1; omega
section
variable {K : PySem.W.Frag} {H H' : Hp} {σ : L2.St} {ta tb te : TE} {tt : TT} {d : PyData} {v : V}
theorem ev_fld {a dx C : Addr} {fs : List (Str × V)} {f : Str} (h : Ev ta σ H (.ref a)) (ha : H a = some (.ins C dx fs)) (c : Cls K C) (n : NoAttr K C f) (l : fs.lookup f = some v) : Ev (tFld K ta f) σ H v := fun H1 e Q q =>
  h H1 e _ fun H2 e2 => ⟨a, C, dx, fs, v, rfl, e2 _ _ (e _ _ ha), c, n, l, q H2 e2⟩
theorem d_ixL {p : Addr} {xs : List V} {i : Int} (ha : Ev ta σ H (.ref p)) (hs : SqL K H p xs) (hb : EvD K tb σ H (.int i)) (hv : atI xs i = some v) (hd : Dt K H v d) : EvD K (tOp (rIxL K) ta tb) σ H d := fun H1 e Q q =>
  ha H1 e _ fun H2 e2 => hb H2 (e.trans e2) _ fun w H3 e3 hw => by
    rw [hw.int_eq]
    exact ⟨p, xs, i, v, rfl, rfl, ex_l ((e.trans e2).trans e3) hs, hv, q v H3 (e2.trans e3) (hd.ex ((e.trans e2).trans e3))⟩
theorem d_m1 : EvD K (tUn (rU fun i => .int (-i)) (tC (.int 1))) σ H (.int (-1)) := d_neg d_int
theorem d_dget {S : Addr} {kvs : List (Key × V)} {nm : Str} (ha : Ev ta σ H (.ref S)) (hs : H S = some (.dK kvs)) (hb : EvD K tb σ H (.str nm)) (hv : valV kvs (.inr nm) = some v) (hd : Dt K H v d) : EvD K (tDGet ta tb) σ H d := fun H1 e Q q =>
  ha H1 e _ fun H2 e2 => hb H2 (e.trans e2) _ fun w H3 e3 hw => by
    rw [hw.str_eq]
    have g := DGet.k (k := Sum.inr nm) (((e.trans e2).trans e3) _ _ hs)
    rw [hv] at g
    exact ⟨S, v, rfl, g, q v H3 (e2.trans e3) (hd.ex ((e.trans e2).trans e3))⟩
end
theorem trailD_cons (l : Lv) (rest : List Lv) : trailD (l :: rest) = trailD rest ++ [.tuple [.int l.row, .int l.turn]] := by
  unfold trailD; rw [List.reverse_cons, List.map_append]; rfl
theorem frssD_cons (l : Lv) (rest : List Lv) : frssD (l :: rest) = frssD rest ++ [frsD l.frs] := by
  unfold frssD; rw [List.reverse_cons, List.map_append]; rfl
section
variable {w : World} {K : PySem.W.Frag} {mg : Str → Option Value} {base : Heap}
/-- a method that only looks -/
def spR (K : PySem.W.Frag) (g : List Row → Ms → PyData → Prop) : Sp := fun vs H Q _ => ∃ a tr fr md rs s d, vs = [.ref a] ∧ RunAt K H a tr fr md rs s ∧ g rs s d ∧ ∀ v H', Ex H H' → Dt K H' v d → Q v H'
theorem d_mR {g : List Row → Ms → PyData → Prop} {σ : L2.St} {H : Hp} {a tr fr md : Addr} {rs : List Row} {s : Ms} {d : PyData} {m : Str} {E : XK} {ta : TE} (ha : Ev ta σ H (.ref a)) (hR : RunAt K H a tr fr md rs s) (hg : g rs s d) (hn : ∀ a b c d e f g h i j, (rf a b c d e f g h i j).lookup m = none) : EvD K (tMeth (CR K) m (spR K g) [] E ta tNil) σ H d := fun H1 e Q q =>
  ha H1 e _ fun H2 e2 => by
    obtain ⟨dx, S, rv, plv, siv, tvs, fvs, mvs, b⟩ := (hR.ex e).ex e2
    exact ⟨a, dx, _, rfl, b.self, hn .., ⟨a, tr, fr, md, rs, s, d, rfl, (hR.ex e).ex e2, hg, fun v H3 e3 hd => q v H3 (e2.trans e3) hd⟩⟩
def gRowAt : List Row → Ms → PyData → Prop := fun _ s d => ∃ l rest, s.stk = l :: rest ∧ d = .int l.row
theorem sc_row_at : FnScope ["self"] ["self"] (defScope Kd.s_Runner_row_at) := ⟨rfl, rfl, rfl, by decide +kernel, rfl, by decide +kernel, by decide +kernel⟩
theorem ok_row_at (T : Tx w K mg) : Ok Pg w K mg base CX0 1 (He.ma K (CR K) "row_at") ["self"] (spR K gRowAt) := by
  refine ok_of T.f_Runner_row_at sc_row_at (fun vs H Q E h => by obtain ⟨a, _, _, _, _, _, _, rfl, _⟩ := h; rfl) (fun _ _ _ _ _ _ us hl => match us, hl with | [_], _ => rfl) fun cdv A outer s0 H vs Q E hr h => ?_
  obtain ⟨a, tr, fr, md, rs, s, d, rfl, hR, ⟨l, rest, hst, rfl⟩, hk⟩ := h
  refine ⟨_, pss_one (ps_ret (px (pe_ix ix_list (pe_fld (pv 0) (by rfl)) (pe_un un_neg pe_int) fun _ _ => rfl))), ?_⟩
  obtain ⟨dx, S, rv, plv, siv, tvs, fvs, mvs, b⟩ := hR
  have ht := b.trailD
  rw [hst, trailD_cons] at ht
  obtain ⟨tv, h1, h2⟩ := ht.at (atI_last _ _)
  exact s_retD (K := K) (d := .int l.row) (d_ix (d_ixL (ev_fld (ev_var rfl) b.self T.c_Runner T.a_Runner_trail rfl) (sq_of b.trail) d_m1 h1 h2) d_int rfl) fun v H1 e hd => hk v H1 e hd
end
end Kx

set_option Elab.async false
set_option linter.all false
set_option maxRecDepth 100000
set_option maxHeartbeats 4000000
namespace Kx
open PySem PySem.Spec PyProof.Rows L2 Evl HT
/-! ### lists that are written -/
theorem DtL.pop {K : PySem.W.Frag} {H : Hp} {xs : List V} {ds : List PyData} {d : PyData} (h : DtL K H xs (ds ++ [d])) : DtL K H xs.dropLast ds ∧ ∃ y, xs[xs.length - 1]? = some y ∧ Dt K H y d := by
  have l := h.len
  rw [List.length_append] at l
  simp at l
  have t := h.take ds.length
  rw [List.take_left] at t
  refine ⟨by rw [List.dropLast_eq_take, show xs.length - 1 = ds.length by omega]; exact t, ?_⟩
  have e : (ds ++ [d])[xs.length - 1]? = some d := by rw [show xs.length - 1 = ds.length by omega]; simp
  exact h.get e
theorem DtL.set {K : PySem.W.Frag} {H : Hp} {xs : List V} {ds : List PyData} {v : V} {d : PyData} (h : DtL K H xs ds) (j : Nat) (hv : Dt K H v d) : DtL K H (xs.set j v) (ds.set j d) := by
  induction xs generalizing ds j with
  | nil => cases h; exact .nil
  | cons x xs ih =>
    cases h with
    | cons a b =>
      cases j with
      | zero => exact .cons hv b
      | succ j => exact .cons a (ih b j)
theorem DtL.setLast {K : PySem.W.Frag} {H : Hp} {xs : List V} {ds : List PyData} {v : V} {d d' : PyData} (h : DtL K H xs (ds ++ [d])) (hv : Dt K H v d') : ixN xs.length (-1) = some ds.length ∧ DtL K H (xs.set ds.length v) (ds ++ [d']) := by
  have l := h.len
  rw [List.length_append] at l
  refine ⟨by rw [l]; exact ixN_last, ?_⟩
  have q := h.set ds.length hv
  rw [List.set_append] at q
  simpa using q
section
variable {K : PySem.W.Frag} {H H' : Hp} {σ : L2.St} {ta tb te : TE} {d : PyData} {v : V} {D : Ends} {tz tu : TS} {l : Addr} {xs : List V} {ds : List PyData}
theorem s_appD (hl : H l = some (.lst xs)) (ha : Ev ta σ H (.ref l)) (h : EvD K te σ H d) (hz : xs.length < 100000) (k : ∀ v H1, Ex H H1 → Dt K H1 v d → H1 l = some (.lst xs) → D.nx σ (upd H1 l (.lst (xs ++ [v])))) : tDrop (tBM K "list" rAppend ta (tCons te tNil)) D σ H := ha H (Ex.refl H) _ fun H1 e1 =>
  ⟨Or.inl ⟨rfl, xs, sq_of (e1 l _ hl)⟩, h H1 e1 _ fun v H2 e2 hv => ⟨l, xs, v, rfl, rfl, e2 l _ (e1 l _ hl), sz_lt hz, k v H2 (e1.trans e2) hv (e2 l _ (e1 l _ hl))⟩⟩
theorem q_appD (hl : H l = some (.lst xs)) (ha : Ev ta σ H (.ref l)) (h : EvD K te σ H d) (hz : xs.length < 100000) (k : ∀ v H1, Ex H H1 → Dt K H1 v d → H1 l = some (.lst xs) → tz D σ (upd H1 l (.lst (xs ++ [v])))) : tSeq (tDrop (tBM K "list" rAppend ta (tCons te tNil))) tz D σ H := s_appD (D := { D with nx := tz D }) hl ha h hz k
theorem q_popD (hl : H l = some (.lst xs)) (ha : Ev ta σ H (.ref l)) (hd : DtL K H xs (ds ++ [d])) (k : ∀ H1, Ex H H1 → H1 l = some (.lst xs) → DtL K H1 xs.dropLast ds → tz D σ (upd H1 l (.lst xs.dropLast))) : tSeq (tDrop (tBM0 K "list" rPop ta)) tz D σ H := ha H (Ex.refl H) _ fun H1 e1 => by
  obtain ⟨h1, y, h2, h3⟩ := hd.pop
  exact ⟨Or.inl ⟨rfl, xs, sq_of (e1 l _ hl)⟩, l, xs, y, rfl, rfl, e1 l _ hl, h2, k H1 e1 (e1 l _ hl) (h1.ex e1)⟩
/-- xs[-1] = e -/
theorem s_lastD {d' : PyData} (h : EvD K te σ H d') (ha : Ev ta σ H (.ref l)) (hb : EvD K tb σ H (.int (-1))) (hl : H l = some (.lst xs)) (hd : DtL K H xs (ds ++ [d])) (k : ∀ v H1, Ex H H1 → H1 l = some (.lst xs) → DtL K H1 (xs.set ds.length v) (ds ++ [d']) → D.nx σ (upd H1 l (.lst (xs.set ds.length v)))) :
    tAsg te (gSub ta tb rSetL) D σ H := h H (Ex.refl H) _ fun v H1 e1 hv => ha H1 e1 _ fun H2 e2 => hb H2 (e1.trans e2) _ fun w H3 e3 hw => by
  rw [hw.int_eq]
  have e := (e1.trans e2).trans e3
  obtain ⟨h1, h2⟩ := (hd.ex e).setLast (hv.ex (e2.trans e3))
  exact ⟨l, xs, -1, ds.length, rfl, rfl, e _ _ hl, h1, k v H3 e (e _ _ hl) h2⟩
theorem q_lastD {d' : PyData} (h : EvD K te σ H d') (ha : Ev ta σ H (.ref l)) (hb : EvD K tb σ H (.int (-1))) (hl : H l = some (.lst xs)) (hd : DtL K H xs (ds ++ [d])) (k : ∀ v H1, Ex H H1 → H1 l = some (.lst xs) → DtL K H1 (xs.set ds.length v) (ds ++ [d']) → tz D σ (upd H1 l (.lst (xs.set ds.length v)))) :
    tSeq (tAsg te (gSub ta tb rSetL)) tz D σ H := s_lastD (D := { D with nx := tz D }) h ha hb hl hd k
/-- a, b = a pair -/
theorem q_pairD {i j : Nat} {d1 d2 : PyData} (h : EvD K te σ H (.tuple [d1, d2])) (k : ∀ v w H1, Ex H H1 → Dt K H1 v d1 → Dt K H1 w d2 → tz D ((σ.set i (some v)).set j (some w)) H1) : tSeq (tAsg te (gTup K 2 (gCons (gName i) (gCons (gName j) gNil)))) tz D σ H := h H (Ex.refl H) _ fun v H1 e hv => by
  obtain ⟨p, xs, rfl, hs, hl⟩ := hv.tup_eq
  cases hl with
  | cons h1 h2 =>
    cases h2 with
    | cons h2 h3 =>
      cases h3
      exact ⟨p, _, rfl, hs, rfl, _, _, rfl, _, _, rfl, rfl, k _ _ H1 e h1 h2⟩
theorem d_lenK {p : Addr} (ha : Ev ta σ H (.ref p)) (hs : SqL K H p xs) (hd : xs.length = ds.length) : EvD K (tCB (rLenS K) (tCons ta tNil)) σ H (.int (ds.length : Int)) := d_of (by have q := ev_len ha hs; rw [hd] at q; exact q) (.int _)
end
section
variable {K : PySem.W.Frag} {σ : L2.St} {H : Hp} {a tr fr md : Addr} {rs : List Row} {s s' : Ms} {m : Str} {E : XK} {ta : TE} {D : Ends} {tz : TS}
/-- a method that goes on -/
def spW (K : PySem.W.Frag) (g : List Row → Ms → Ms → Prop) : Sp := fun vs H Q _ => ∃ a tr fr md rs s s', vs = [.ref a] ∧ RunAt K H a tr fr md rs s ∧ g rs s s' ∧ ∀ H', RunAt K H' a tr fr md rs s' → Kp [a, tr, fr, md] H H' → Q .non H'
theorem s_mW {g : List Row → Ms → Ms → Prop} (ha : Ev ta σ H (.ref a)) (hR : RunAt K H a tr fr md rs s) (hg : g rs s s') (hn : ∀ a b c d e f g h i j, (rf a b c d e f g h i j).lookup m = none) (k : ∀ H1, RunAt K H1 a tr fr md rs s' → Kp [a, tr, fr, md] H H1 → D.nx σ H1) :
    tDrop (tMeth (CR K) m (spW K g) [] E ta tNil) D σ H := ha H (Ex.refl H) _ fun H2 e2 => by
  obtain ⟨dx, S, rv, plv, siv, tvs, fvs, mvs, b⟩ := hR.ex e2
  exact ⟨a, dx, _, rfl, b.self, hn .., a, tr, fr, md, rs, s, s', rfl, hR.ex e2, hg, fun H3 h3 k3 => k H3 h3 ((Kp.ex e2).trans k3)⟩
theorem q_mW {g : List Row → Ms → Ms → Prop} (ha : Ev ta σ H (.ref a)) (hR : RunAt K H a tr fr md rs s) (hg : g rs s s') (hn : ∀ a b c d e f g h i j, (rf a b c d e f g h i j).lookup m = none) (k : ∀ H1, RunAt K H1 a tr fr md rs s' → Kp [a, tr, fr, md] H H1 → tz D σ H1) :
    tSeq (tDrop (tMeth (CR K) m (spW K g) [] E ta tNil)) tz D σ H := s_mW (D := { D with nx := tz D }) ha hR hg hn k
end
theorem dtl_has {K : PySem.W.Frag} {H : Hp} : ∀ {xs : List V} {fs : List (List Fr)}, DtL K H xs (fs.map frsD) → ∀ (i : Nat) (x : V), xs[i]? = some x → ∃ (a : Addr) (ys : List V) (f : List Fr), x = .ref a ∧ SqT K H a ys ∧ fs[i]? = some f ∧ DtL K H ys (f.map frD) := fun {xs fs} h i x hx => by
  obtain ⟨d, h1, h2⟩ := h.get' hx
  rw [List.getElem?_map] at h1
  cases hf : fs[i]? with
  | none => rw [hf] at h1; cases h1
  | some f =>
    rw [hf] at h1
    cases h1
    obtain ⟨a, ys, rfl, q1, q2⟩ := h2.tup_eq
    exact ⟨a, ys, f, rfl, q1, rfl, q2⟩
theorem flatN_list {α : Type} (fs : List (List α)) (g : α → PyData) : flatN fs.length (fun i => ((fs.getD i []).map g)) = fs.flatten.map g := by
  unfold flatN
  rw [List.map_flatten]
  congr 1
  refine List.ext_getElem? fun i => ?_
  rw [List.getElem?_map, List.getElem?_map]
  by_cases h : i < fs.length
  · rw [List.getElem?_range h, List.getElem?_eq_getElem h]
    simp [List.getD, h]
  · rw [List.getElem?_eq_none (by simp; omega), List.getElem?_eq_none (by omega)]; rfl
theorem atEnd_eq {rs : List Row} {l : Lv} {rest : List Lv} : atEnd rs (l :: rest) = (decide ((((trailD (l :: rest)).length : Nat) : Int) = 1) && decide ((l.row : Int) = ((rs.length : Nat) : Int))) := by
  have hl : (trailD (l :: rest)).length = rest.length + 1 := by unfold trailD; simp
  rw [hl]
  cases rest with
  | nil =>
    show decide (l.row = rs.length) = _
    by_cases h : l.row = rs.length
    · simp [h]
    · have : ¬ ((l.row : Int) = ((rs.length : Nat) : Int)) := by omega
      simp [h, this]
  | cons c r =>
    have : ¬ ((((c :: r).length + 1 : Nat) : Int) = 1) := by simp; omega
    show false = _
    rw [decide_eq_false this]; rfl
section
variable {w : World} {K : PySem.W.Frag} {mg : Str → Option Value} {base : Heap}
def gAll : List Row → Ms → PyData → Prop := fun _ s d => (allF s.stk).length ≤ 1000 ∧ d = frsD (allF s.stk)
theorem sc_all_frames : FnScope ["self", "some", "frame"] ["self"] (defScope Kd.s_Runner_all_frames) := ⟨rfl, rfl, rfl, by decide +kernel, rfl, by decide +kernel, by decide +kernel⟩
theorem ok_all_frames (T : Tx w K mg) : Ok Pg w K mg base CX0 1 (He.ma K (CR K) "all_frames") ["self"] (spR K gAll) := by
  refine ok_of T.f_Runner_all_frames sc_all_frames (fun vs H Q E h => by obtain ⟨a, _, _, _, _, _, _, rfl, _⟩ := h; rfl) (fun _ _ _ _ _ _ us hl => match us, hl with | [_], _ => rfl) fun cdv A outer s0 H vs Q E hr h => ?_
  obtain ⟨a, tr, fr, md, rs, s, d, rfl, hR, ⟨hz, rfl⟩, hk⟩ := h
  refine ⟨_, pss_one (ps_ret (pe_callTy call_tuple_of (by rfl) T.b_tuple PyProof.Rows.boot_tuple (pa_cons (pe_lc2 (own := [("some", 1), ("frame", 2)]) (vs1 := [2]) (g := gName 1) (tt := tYes) (wi1 := iTup K (tVar 1)) (g1 := gName 2) (tt1 := tYes) (by rfl) sc_all_frames.nd (pi_list (pe_fld (pv 0) (by rfl))) (blkOk_by (own := [("some", 1), ("frame", 2)]) (N := ["self", "some", "frame"]) (sc := defScope Kd.s_Runner_all_frames) (by decide +kernel)) (by decide)
    (fun _ _ _ _ _ => pg_name (i := 1) sc_all_frames.nd rfl (Or.inl rfl)) (fun _ _ _ _ _ => pts_nil) (fun _ _ _ _ _ => pi_tup (pv 1)) (fun _ _ _ _ _ => pg_name (i := 2) sc_all_frames.nd rfl (Or.inl rfl)) (fun _ _ _ _ _ => pts_nil) (fun _ _ _ _ _ => pv 2)) pa_nil))), ?_⟩
  obtain ⟨dx, S, rv, plv, siv, tvs, fvs, mvs, b⟩ := hR
  have fd : DtL K H fvs ((s.stk.reverse.map (·.frs)).map frsD) := by
    have q := b.framesD
    unfold frssD at q
    rw [List.map_map]; exact q
  have lf : fvs.length = (s.stk.reverse.map (·.frs)).length := by rw [fd.len, List.length_map]
  refine s_retD (K := K) (d := frsD (allF s.stk)) ?_ fun v H1 e hd => hk v H1 e hd
  refine d_tupN ?_
  have fl : flatN fvs.length (fun i => ((s.stk.reverse.map (·.frs)).getD i []).map frD) = (allF s.stk).map frD := by rw [lf]; exact flatN_list _ _
  have key := n_lc2 (K := K) (σ := start ["self", "some", "frame"] [.ref a]) (H := H) (te := tVar 2) (tt1 := tYes) (wi1 := iTup K (tVar 1)) (j := 1) (j1 := 2) (vs := [1, 2]) (vs1 := [2]) (f := fun _ _ => true) (g := fun _ d => d) (es := fun i => ((s.stk.reverse.map (·.frs)).getD i []).map frD)
    (ev_fld (ta := tVar 0) (ev_var rfl) b.self T.c_Runner T.a_Runner_frames rfl) (sq_of b.frames) (by rw [fl, List.length_map]; omega) (fun x => rfl) (fun x y => rfl) (fun i x hx => by
      obtain ⟨p, ys, f, rfl, h1, h2, h3⟩ := dtl_has fd i x hx
      refine ⟨Itt K p, ys, ?_, jok_t h1, fun H1 R e r => ⟨.ref p, rfl, p, rfl, ⟨ys, ex_t e h1⟩, r⟩⟩
      have : (s.stk.reverse.map (·.frs)).getD i [] = f := by unfold List.getD; rw [h2]; rfl
      show DtL K H ys (((s.stk.reverse.map (·.frs)).getD i []).map frD)
      rw [this]; exact h3) (fun i x y d H1 e hx hd hy => t_yes) fun i x y d H1 e hx hd hy _ => d_var hy rfl
  refine key.is (Eq.trans ?_ fl)
  congr 1
  funext i
  rw [List.filter_eq_self.mpr fun _ _ => rfl]
  exact List.map_id' _
def gEnd : List Row → Ms → PyData → Prop := fun rs s d => s.stk ≠ [] ∧ d = .bool (atEnd rs s.stk)
theorem sc_is_at_end : FnScope ["self"] ["self"] (defScope Kd.s_Runner_is_at_end) := ⟨rfl, rfl, rfl, by decide +kernel, rfl, by decide +kernel, by decide +kernel⟩
theorem lk_none {m : Str} (h : ∀ x ∈ (["rows", "spans", "trail", "place", "mode", "pace", "side", "frames", "many", "made"] : List Str), (m == x) = false) (a b c d e f g i j k : V) : (rf a b c d e f g i j k).lookup m = none := by
  simp only [List.mem_cons, List.not_mem_nil, or_false, forall_eq_or_imp, forall_eq] at h
  obtain ⟨h1, h2, h3, h4, h5, h6, h7, h8, h9, h10⟩ := h
  simp [rf, List.lookup, h1, h2, h3, h4, h5, h6, h7, h8, h9, h10]
theorem ok_is_at_end (T : Tx w K mg) : Ok Pg w K mg base CX0 2 (He.ma K (CR K) "is_at_end") ["self"] (spR K gEnd) := by
  refine ok_of T.f_Runner_is_at_end sc_is_at_end (fun vs H Q E h => by obtain ⟨a, _, _, _, _, _, _, rfl, _⟩ := h; rfl) (fun _ _ _ _ _ _ us hl => match us, hl with | [_], _ => rfl) fun cdv A outer s0 H vs Q E hr h => ?_
  obtain ⟨a, tr, fr, md, rs, s, d, rfl, hR, ⟨hne, rfl⟩, hk⟩ := h
  refine ⟨_, pss_one (ps_ret (pe_and (pe_cmpR op_eq (pe_callB call_len_seq (by rfl) T.b_len PySem.boot_len (pa_cons (pe_fld (pv 0) (by rfl)) pa_nil)) pe_int (nomark _)) (pe_one (pe_cmpR op_eq (pe_m0 (ok_row_at T) (hr.mono (by decide)) T.c_Runner T.m_Runner_row_at pass0 (pv 0)) (pe_callB call_len_seq (by rfl) T.b_len PySem.boot_len (pa_cons (pe_fld (pv 0) (by rfl)) pa_nil)) (nomark _))))), ?_⟩
  cases hst : s.stk with
  | nil => exact absurd hst hne
  | cons l rest =>
    rw [hst] at hk
    obtain ⟨dx, S, rv, plv, siv, tvs, fvs, mvs, b⟩ := id hR
    refine s_retD (K := K) (d := .bool (atEnd rs (l :: rest))) ?_ fun v H1 e hd => hk v H1 e hd
    rw [atEnd_eq]
    refine d_andV (d_eqI (d_lenK (ev_fld (ev_var rfl) b.self T.c_Runner T.a_Runner_trail rfl) (sq_of b.trail) (by rw [← hst]; exact b.trailD.len)) d_int) fun _ => d_eqI (d_mR (ev_var rfl) hR ⟨l, rest, hst, rfl⟩ (lk_none (by decide +kernel))) ?_
    have q := d_lenT (K := K) (σ := start ["self"] [.ref a]) (H := H) (ta := tFld K (tVar 0) "rows") (ds := rs.map rowD) (d_of (ev_fld (ev_var rfl) b.self T.c_Runner T.a_Runner_rows rfl) b.rows)
    rw [List.length_map] at q
    exact q
end
end Kx

set_option Elab.async false
set_option linter.all false
set_option maxRecDepth 100000
set_option maxHeartbeats 4000000
namespace Kx
open PySem PySem.Spec PyProof.Rows L2 Evl HT
section
variable {w : World} {K : PySem.W.Frag} {mg : Str → Option Value} {base : Heap}
theorem atI_nat' {α : Type} {xs : List α} {j : Nat} {x : α} (h : xs[j]? = some x) : atI xs (j : Int) = some x := by
  unfold atI
  rw [ixN_nat (List.getElem?_eq_some_iff.mp h).1]
  exact h
theorem rows_at {rs : List Row} {j : Nat} {r : Row} (h : rs[j]? = some r) : atI (rs.map rowD) (j : Int) = some (rowD r) := atI_nat' (by rw [List.getElem?_map, h]; rfl)
/-- self.rows[self.row_at()] -/
theorem d_rowH (T : Tx w K mg) {σ : L2.St} {H : Hp} {a tr fr md : Addr} {rs : List Row} {s : Ms} {l : Lv} {rest : List Lv} {r : Row} {E : XK} {ta tb : TE} (ha : Ev ta σ H (.ref a)) (hb : Ev tb σ H (.ref a)) (hR : RunAt K H a tr fr md rs s) (hs : s.stk = l :: rest) (hr : rs[l.row]? = some r) :
    EvD K (tOp (rIxT K) (tFld K ta "rows") (tMeth (CR K) "row_at" (spR K gRowAt) [] E tb tNil)) σ H (rowD r) := by
  obtain ⟨dx, S, rv, plv, siv, tvs, fvs, mvs, b⟩ := id hR
  exact d_ix (d_of (ev_fld ha b.self T.c_Runner T.a_Runner_rows rfl) b.rows) (d_mR hb hR ⟨l, rest, hs, rfl⟩ (lk_none (by decide +kernel))) (rows_at hr)
theorem runAt_of {K : PySem.W.Frag} {H : Hp} {a tr fr md : Addr} {rs : List Row} {s : Ms} {st : List Lv} {dx S : Addr} {rv plv siv : V} {tvs fvs mvs : List V} {tds fds : List PyData} (b : RunB K H a tr fr md rs s dx S rv plv siv tvs fvs mvs tds fds) (ht : tds = Kx.trailD st) (hf : fds = frssD st) : RunAt K H a tr fr md rs { s with stk := st } :=
  ⟨dx, S, rv, plv, siv, tvs, fvs, mvs, b.self, b.rows, b.spans, b.place, b.side, b.trail, ht ▸ b.trailD, b.frames, hf ▸ b.framesD, b.made, b.madeD, b.n1, b.n2, b.n3⟩
def gEnter : List Row → Ms → Ms → Prop := fun rs s s' => ∃ l rest nm n, s.stk = l :: rest ∧ rs[l.row]? = some (.call nm n) ∧ Row.piece nm ∈ rs ∧ s.stk.length ≤ 1000 ∧ s' = { s with stk := ⟨begOf rs nm, 0, []⟩ :: s.stk }
theorem sc_enter : FnScope ["self", "begin", "end"] ["self"] (defScope Kd.s_Runner_enter) := ⟨rfl, rfl, rfl, by decide +kernel, rfl, by decide +kernel, by decide +kernel⟩
theorem ok_enter (T : Tx w K mg) : Ok Pg w K mg base CX0 2 (He.ma K (CR K) "enter") ["self"] (spW K gEnter) := by
  refine ok_of T.f_Runner_enter sc_enter (fun vs H Q E h => by obtain ⟨a, _, _, _, _, _, _, rfl, _⟩ := h; rfl) (fun _ _ _ _ _ _ us hl => match us, hl with | [_], _ => rfl) fun cdv A outer s0 H vs Q E hr h => ?_
  obtain ⟨a, tr, fr, md, rs, s, s', rfl, hR, ⟨l, rest, nm, n, hst, hrow, hp, hz, rfl⟩, hk⟩ := h
  refine ⟨_, (pss_cons (ps_asg (pe_dget (hu_of hr) (pe_fld (pv 0) (by rfl)) (px (pe_ix ix_tup (pe_fld (pv 0) (by rfl)) (pe_m0 (ok_row_at T) (hr.mono (by decide)) T.c_Runner T.m_Runner_row_at pass0 (pv 0)) fun _ _ => rfl)) fun _ _ => rfl) (pg_tup (by rfl) (pgs_cons (pg_name (i := 1) sc_enter.nd rfl (.inl rfl)) (pgs_cons (pg_name (i := 2) sc_enter.nd rfl (.inl rfl)) pgs_nil))))
    (pss_cons (ps_expr (pe_bm PySem.F.plainAttrs_list PySem.F.slot_list_append PySem.F.type_list_append mt_append (pe_fld (pv 0) (by rfl)) (pa_cons (pe_tup (pa_cons (pv 1) (pa_cons pe_int pa_nil))) pa_nil)))
    (pss_one (ps_expr (pe_bm PySem.F.plainAttrs_list PySem.F.slot_list_append PySem.F.type_list_append mt_append (pe_fld (pv 0) (by rfl)) (pa_cons (pe_tup pa_nil) pa_nil)))))), ?_⟩
  obtain ⟨dx, S, rv, plv, siv, tvs, fvs, mvs, b⟩ := id hR
  obtain ⟨kvs, h1, h2⟩ := b.spans
  obtain ⟨v, h3, h4⟩ := h2 nm hp
  refine q_pairD (K := K) (i := 1) (j := 2) (d_dget (ev_fld (ev_var rfl) b.self T.c_Runner T.a_Runner_spans rfl) h1 (d_ix (d_rowH T (ev_var rfl) (ev_var rfl) hR hst hrow) d_int rfl) h3 h4) fun v1 v2 H1 e1 x1 x2 => ?_
  replace b := b.ex e1
  have ltd : tvs.length ≤ 1000 := by
    have := b.trailD.len
    unfold trailD at this
    simp at this
    omega
  have lfd : fvs.length ≤ 1000 := by
    have := b.framesD.len
    unfold frssD at this
    simp at this
    omega
  refine q_appD (K := K) (l := tr) (xs := tvs) (d := .tuple [.int (begOf rs nm), .int 0]) b.trail (ev_fld (ta := tVar 0) (ev_var rfl) b.self T.c_Runner T.a_Runner_trail rfl) (d_tup2 (ds_cons (d_var x1 rfl) (ds_cons d_int ds_nil))) (by omega) fun u H2 e2 hu _ => ?_
  replace b := (b.ex e2).wTrail ((b.ex e2).trailD.append (.cons hu .nil))
  have k2 : Kp [a, tr, fr, md] H (upd H2 tr (.lst (tvs ++ [u]))) := (Kp.ex (e1.trans e2)).trans (.wr (by simp))
  refine s_appD (K := K) (l := fr) (xs := fvs) (d := .tuple []) b.frames (ev_fld (ta := tVar 0) (ev_var rfl) b.self T.c_Runner T.a_Runner_frames rfl) (d_tup ds_nil (by show 0 ≤ 100000; decide)) (by omega) fun u2 H3 e3 hu2 _ => ?_
  replace b := (b.ex e3).wFrames ((b.ex e3).framesD.append (.cons hu2 .nil))
  refine hk _ (runAt_of b (st := ⟨begOf rs nm, 0, []⟩ :: s.stk) (by rw [trailD_cons]; rfl) (by rw [frssD_cons]; rfl)) ((k2.trans (Kp.ex e3)).trans (.wr (by simp)))
def gLeave : List Row → Ms → Ms → Prop := fun rs s s' => ∃ l c rest nm n, s.stk = l :: c :: rest ∧ rs[c.row]? = some (.call nm n) ∧ Row.piece nm ∈ rs ∧ s.stk.length ≤ 1000 ∧
  s' = { s with stk := if c.turn + 1 < n then ⟨begOf rs nm, 0, []⟩ :: ⟨c.row, c.turn + 1, c.frs⟩ :: rest else ⟨c.row + 1, 0, c.frs⟩ :: rest }
theorem sc_leave : FnScope ["self", "row", "turn"] ["self"] (defScope Kd.s_Runner_leave) := ⟨rfl, rfl, rfl, by decide +kernel, rfl, by decide +kernel, by decide +kernel⟩
theorem ok_leave (T : Tx w K mg) : Ok Pg w K mg base CX0 3 (He.ma K (CR K) "leave") ["self"] (spW K gLeave) := by
  refine ok_of T.f_Runner_leave sc_leave (fun vs H Q E h => by obtain ⟨a, _, _, _, _, _, _, rfl, _⟩ := h; rfl) (fun _ _ _ _ _ _ us hl => match us, hl with | [_], _ => rfl) fun cdv A outer s0 H vs Q E hr h => ?_
  obtain ⟨a, tr, fr, md, rs, s, s', rfl, hR, ⟨l, c, rest, nm, n, hst, hrow, hp, hz, rfl⟩, hk⟩ := h
  refine ⟨_, (pss_cons (ps_expr (pe_bm0 PySem.F.plainAttrs_list PySem.F.slot_list_pop PySem.F.type_list_pop mt_pop (pe_fld (pv 0) (by rfl))))
    (pss_cons (ps_expr (pe_bm0 PySem.F.plainAttrs_list PySem.F.slot_list_pop PySem.F.type_list_pop mt_pop (pe_fld (pv 0) (by rfl))))
    (pss_cons (ps_asg (pe_ix ix_list (pe_fld (pv 0) (by rfl)) (pe_un un_neg pe_int) fun _ _ => rfl) (pg_tup (by rfl) (pgs_cons (pg_name (i := 1) sc_leave.nd rfl (.inl rfl)) (pgs_cons (pg_name (i := 2) sc_leave.nd rfl (.inl rfl)) pgs_nil))))
    (pss_one (ps_if (pt_cmpR op_lt (pe_op op_add (pv 2) pe_int) (px (pe_ix ix_tup (pe_fld (pv 0) (by rfl)) (pv 1) fun _ _ => rfl)) (nomark _))
      (pss_cons (ps_asg (pe_tup (pa_cons (pv 1) (pa_cons (pe_op op_add (pv 2) pe_int) pa_nil))) (pg_sub (pe_fld (pv 0) (by rfl)) (pe_un un_neg pe_int) set_list)) (pss_one (ps_expr (pe_m0 (ok_enter T) (hr.mono (by decide)) T.c_Runner T.m_Runner_enter pass0 (pv 0)))))
      (pss_one (ps_asg (pe_tup (pa_cons (pe_op op_add (pv 1) pe_int) (pa_cons pe_int pa_nil))) (pg_sub (pe_fld (pv 0) (by rfl)) (pe_un un_neg pe_int) set_list)))))))), ?_⟩
  obtain ⟨dx, S, rv, plv, siv, tvs, fvs, mvs, b⟩ := id hR
  rw [hst, trailD_cons, frssD_cons] at b
  refine q_popD (K := K) (l := tr) (xs := tvs) b.trail (ev_fld (ta := tVar 0) (ev_var rfl) b.self T.c_Runner T.a_Runner_trail rfl) b.trailD fun H1 e1 _ h1 => ?_
  replace b := (b.ex e1).wTrail h1
  have k1 : Kp [a, tr, fr, md] H (upd H1 tr (.lst tvs.dropLast)) := (Kp.ex e1).trans (.wr (by simp))
  refine q_popD (K := K) (l := fr) (xs := fvs) b.frames (ev_fld (ta := tVar 0) (ev_var rfl) b.self T.c_Runner T.a_Runner_frames rfl) b.framesD fun H2 e2 _ h2 => ?_
  replace b := (b.ex e2).wFrames h2
  have k2 := (k1.trans (Kp.ex e2)).trans (.wr (b := fr) (o := .lst fvs.dropLast) (by simp))
  have htl := b.trailD
  rw [trailD_cons] at htl
  obtain ⟨y, hy1, hy2⟩ := htl.at (atI_last _ _)
  refine q_pairD (K := K) (i := 1) (j := 2) (d_ixL (ev_fld (ta := tVar 0) (ev_var rfl) b.self T.c_Runner T.a_Runner_trail rfl) (sq_of b.trail) d_m1 hy1 hy2) fun v1 v2 H3 e3 x1 x2 => ?_
  rw [x1.int_eq, x2.int_eq]
  replace b := b.ex e3
  have k3 := k2.trans (Kp.ex e3)
  refine s_if (b := decide ((c.turn : Int) + 1 < (n : Int))) (t_test (K := K) (d_ib (f := fun i j => decide (i < j)) (d_ii (f := fun i j => i + j) (d_vint rfl) d_int) (d_ix (d_ix (d_of (ev_fld (ev_var rfl) b.self T.c_Runner T.a_Runner_rows rfl) b.rows) (d_vint rfl) (rows_at hrow)) d_int rfl))) (fun hb H4 e4 => ?_) fun hb H4 e4 => ?_
  · have hlt : c.turn + 1 < n := by have := of_decide_eq_true hb; omega
    rw [if_pos hlt] at hk
    replace b := b.ex e4
    have htl := b.trailD
    rw [trailD_cons] at htl
    refine q_lastD (K := K) (l := tr) (d' := .tuple [.int c.row, .int ((c.turn : Int) + 1)]) (d_tup2 (ds_cons (d_vint rfl) (ds_cons (d_ii (f := fun i j => i + j) (d_vint rfl) d_int) ds_nil))) (ev_fld (ta := tVar 0) (ev_var rfl) b.self T.c_Runner T.a_Runner_trail rfl) d_m1 b.trail htl fun v H5 e5 _ h5 => ?_
    replace b := (b.ex e5).wTrail h5
    have k5 := ((k3.trans (Kp.ex e4)).trans (Kp.ex e5)).trans (.wr (b := tr) (o := .lst (tvs.dropLast.set (trailD rest).length v)) (by simp))
    have b' : RunAt K _ a tr fr md rs { s with stk := ⟨c.row, c.turn + 1, c.frs⟩ :: rest } := runAt_of b (st := ⟨c.row, c.turn + 1, c.frs⟩ :: rest) (by rw [trailD_cons]; rfl) (by rw [frssD_cons, frssD_cons])
    refine s_mW (K := K) (ev_var rfl) b' ⟨⟨c.row, c.turn + 1, c.frs⟩, rest, nm, n, rfl, hrow, hp, by rw [hst] at hz; simp at hz ⊢; omega, rfl⟩ (lk_none (by decide +kernel)) fun H6 h6 k6 => ?_
    exact hk H6 h6 (k5.trans k6)
  · have hge : ¬ c.turn + 1 < n := by have := of_decide_eq_false hb; omega
    rw [if_neg hge] at hk
    replace b := b.ex e4
    have htl := b.trailD
    rw [trailD_cons] at htl
    refine s_lastD (K := K) (l := tr) (d' := .tuple [.int ((c.row : Int) + 1), .int 0]) (d_tup2 (ds_cons (d_ii (f := fun i j => i + j) (d_vint rfl) d_int) (ds_cons d_int ds_nil))) (ev_fld (ta := tVar 0) (ev_var rfl) b.self T.c_Runner T.a_Runner_trail rfl) d_m1 b.trail htl fun v H5 e5 _ h5 => ?_
    replace b := (b.ex e5).wTrail h5
    have k5 := ((k3.trans (Kp.ex e4)).trans (Kp.ex e5)).trans (.wr (b := tr) (o := .lst (tvs.dropLast.set (trailD rest).length v)) (by simp))
    exact hk _ (runAt_of b (st := ⟨c.row + 1, 0, c.frs⟩ :: rest) (by rw [trailD_cons]; rfl) (by rw [frssD_cons, frssD_cons])) k5
def gSettle : List Row → Ms → Ms → Prop := fun rs s s' => WfR rs ∧ s.stk.length ≤ 1000 ∧ ∃ l rest n st, s.stk = l :: rest ∧ Chain rs l rest ∧ l.turn = 0 ∧ Sett rs n s.stk st ∧ s' = { s with stk := st }
theorem sc_settle : FnScope ["self", "word", "rest"] ["self"] (defScope Kd.s_Runner_settle) := ⟨rfl, rfl, rfl, by decide +kernel, rfl, by decide +kernel, by decide +kernel⟩
theorem d_inS {K : PySem.W.Frag} {σ : L2.St} {H : Hp} {te : TE} {x a b : Str} (h : EvD K te σ H (.str x)) : EvD K (tOp (rIn K false) te (tTup (tCons (tC (.str a)) (tCons (tC (.str b)) tNil)))) σ H (.bool (decide (x = a) || decide (x = b))) := by
  have q := ev_inU (K := K) h.str (eu_tup (ea_cons (ev_c (v := .str a)) (ea_cons (ev_c (v := .str b)) ea_nil)) (by show 2 ≤ 100000; decide)) rfl rfl
  have e : inV (.str x) [.str a, .str b] = (decide (x = a) || decide (x = b)) := by
    unfold inV
    simp only [List.any_cons, List.any_nil, Bool.or_false]
    by_cases h1 : x = a
    · subst h1; simp [eqV]
    · by_cases h2 : x = b
      · subst h2; simp [eqV]
      · have h1' : ¬ a = x := fun e => h1 e.symm
        have h2' : ¬ b = x := fun e => h2 e.symm
        simp [eqV, h1, h2, h1', h2']
  rw [e] at q
  exact d_of q (.bl _)
theorem word_pass {r : Row} : (decide (wordR r = "piece") || decide (wordR r = "end")) = !plain r := by
  cases r with
  | arc lf x y p q => cases lf <;> rfl
  | mode b => cases b <;> rfl
  | frame f => cases f <;> rfl
  | _ => rfl
theorem pass_none {rs : List Row} {l : Lv} {rest : List Lv} {r : Row} (h : rs[l.row]? = some r) (p : plain r = true) : pass1 rs (l :: rest) = none := by
  rw [pass1_cons, h]
  cases r <;> first | rfl | cases p
/-- x, *rest = a tuple -/
theorem q_starD {K : PySem.W.Frag} {σ : L2.St} {H : Hp} {te : TE} {D : Ends} {tz : TS} {i j : Nat} {d : PyData} {ds : List PyData} (h : EvD K te σ H (.tuple (d :: ds))) (k : ∀ v p vs H1, Ex H H1 → Dt K H1 v d → H1 p = some (.lst vs) → DtL K H1 vs ds → tz D ((σ.set i (some v)).set j (some (.ref p))) H1) : tSeq (tAsg te (gStar K (gName i) (gName j))) tz D σ H := h H (Ex.refl H) _ fun v H1 e hv => by
  obtain ⟨p, xs, rfl, hs, hl⟩ := hv.tup_eq
  cases hl with
  | @cons x xs' _ _ h1 h2 => exact ⟨p, x, xs', rfl, .inl hs, fun q hq => k x q xs' _ (e.trans (Ex.new hq)) (h1.ex (Ex.new hq)) upd_same (h2.ex (Ex.new hq))⟩
theorem ok_settle (T : Tx w K mg) : Ok Pg w K mg base CX0 4 (He.ma K (CR K) "settle") ["self"] (spW K gSettle) := by
  refine ok_of T.f_Runner_settle sc_settle (fun vs H Q E h => by obtain ⟨a, _, _, _, _, _, _, rfl, _⟩ := h; rfl) (fun _ _ _ _ _ _ us hl => match us, hl with | [_], _ => rfl) fun cdv A outer s0 H vs Q E hr h => ?_
  obtain ⟨a, tr, fr, md, rs, s, s', rfl, hR, ⟨W, hz, l, rest, n, st, hst, hch, ht, hS, rfl⟩, hk⟩ := h
  refine ⟨_, PSs.nox (pss_one (ps_while PassesOwn.never (PW.pt (pw_and (pt_not (pt_val (pe_m0 (ok_is_at_end T) (hr.mono (by decide)) T.c_Runner T.m_Runner_is_at_end pass0 (pv 0)))) (pw_and1 (pt_cmpR op_in_seq (px (pe_ix ix_tup (pe_fld (pv 0) (by rfl)) (pe_m0 (ok_row_at T) (hr.mono (by decide)) T.c_Runner T.m_Runner_row_at pass0 (pv 0)) fun _ _ => rfl)) (pe_tup (pa_cons pe_str (pa_cons pe_str pa_nil))) (by rfl)))))
    (pss_cons (ps_asg (pe_ix ix_tup (pe_fld (pv 0) (by rfl)) (pe_m0 (ok_row_at T) (hr.mono (by decide)) T.c_Runner T.m_Runner_row_at pass0 (pv 0)) fun _ _ => rfl) (pg_star (by rfl) (pg_name (i := 1) sc_settle.nd rfl (.inl rfl)) (pg_name (i := 2) sc_settle.nd rfl (.inl rfl))))
      (pss_one (ps_if (pt_cmpR op_eq (pv 1) pe_str (nomark _)) (pss_one (ps_expr (pe_m0 (ok_leave T) (hr.mono (by decide)) T.c_Runner T.m_Runner_leave pass0 (pv 0))))
        (pss_one (ps_asg (pe_tup (pa_cons (pe_op op_add (px (pe_dget (hu_of hr) (pe_fld (pv 0) (by rfl)) (pe_ix ix_list (pv 2) pe_int fun _ _ => rfl) fun _ _ => rfl)) pe_int) (pa_cons pe_int pa_nil))) (pg_sub (pe_fld (pv 0) (by rfl)) (pe_un un_neg pe_int) set_list)))))))), ?_⟩
  refine s_while (fun m σ' H' => ∃ o1 o2 st1 l1 rest1, σ' = [some (.ref a), o1, o2] ∧ RunAt K H' a tr fr md rs { s with stk := st1 } ∧ Kp [a, tr, fr, md] H H' ∧ st1 = l1 :: rest1 ∧ Chain rs l1 rest1 ∧ l1.turn = 0 ∧ st1.length ≤ 1000 ∧ Sett rs m st1 st) n ⟨none, none, s.stk, l, rest, rfl, hR, Kp.refl _ _, hst, hch, ht, hz, hS⟩ ?_
  rintro m σ' H' ⟨o1, o2, st1, l1, rest1, rfl, hR1, k1, rfl, hch1, ht1, hz1, hS1⟩
  have ev0 : ∀ H1, Ev (tVar 0) [some (.ref a), o1, o2] H1 (.ref a) := fun H1 => ev_var rfl
  have tEnd : EvT (tNot (tB (tMeth (CR K) "is_at_end" (spR K gEnd) [] E (tVar 0) tNil))) [some (.ref a), o1, o2] H' (!atEnd rs (l1 :: rest1)) := et_not (t_B (K := K) (d_mR (ev0 H') hR1 ⟨by simp, rfl⟩ (lk_none (by decide +kernel))))
  have tRow : ∀ r, rs[l1.row]? = some r → EvT (tTest (tOp (rIn K false) (tOp (rIxT K) (tOp (rIxT K) (tFld K (tVar 0) "rows") (tMeth (CR K) "row_at" (spR K gRowAt) [] E (tVar 0) tNil)) (tC (.int 0))) (tTup (tCons (tC (.str "piece")) (tCons (tC (.str "end")) tNil))))) [some (.ref a), o1, o2] H' (!plain r) := fun r hr => by
    have q := t_test (K := K) (d_inS (a := "piece") (b := "end") (d_ix (d_rowH T (E := E) (ev0 H') (ev0 H') hR1 rfl hr) d_int (atI_nat' (j := 0) rfl) : EvD K _ _ H' (.str (wordR r))))
    rw [word_pass] at q
    exact q
  cases hS1 with
  | done hp =>
    have fin : ∀ H1, Ex H' H1 → Q .non H1 := fun H1 e => hk H1 (hR1.ex e) (k1.trans (Kp.ex e))
    rcases settled W hch1 hp with ⟨e1, e2⟩ | ⟨r, h1, h2, h3, _⟩
    · subst e1
      refine ⟨false, ?_, fun q => absurd q (by decide), fun _ H1 e => fin H1 e⟩
      have ea : (!atEnd rs [l1]) = false := by simp [atEnd, e2]
      exact et_and (b := false) (et_is tEnd ea) fun q => absurd q (by decide)
    · refine ⟨false, ?_, fun q => absurd q (by decide), fun _ H1 e => fin H1 e⟩
      have q := tRow r h1
      rw [h2] at q
      exact et_is (et_and tEnd fun _ => q) (by simp)
  | @step n' _ st2 _ hp hS2 =>
    obtain ⟨l2, rest2, rfl, hch2, ht2, le2⟩ := pass_chain W hch1 hp
    have hrow : ∃ r, rs[l1.row]? = some r ∧ plain r = false := by
      rw [pass1_cons] at hp
      split at hp
      · rename_i nm h; exact ⟨_, h, rfl⟩
      · rename_i h; exact ⟨_, h, rfl⟩
      · cases hp
    obtain ⟨r, hr1, hr2⟩ := hrow
    have na : atEnd rs (l1 :: rest1) = false := by
      have := (List.getElem?_eq_some_iff.mp hr1).1
      cases rest1 with
      | nil => show decide (l1.row = rs.length) = false; exact decide_eq_false (by omega)
      | cons _ _ => rfl
    refine ⟨true, ?_, fun _ H1 e => ?_, fun q => absurd q (by decide)⟩
    · have q := tRow r hr1
      rw [hr2] at q
      have q2 := tEnd
      rw [na] at q2
      exact et_and q2 fun _ => q
    refine ⟨fun σ2 H2 => ∃ o1 o2, σ2 = [some (.ref a), o1, o2] ∧ RunAt K H2 a tr fr md rs { s with stk := l2 :: rest2 } ∧ Kp [a, tr, fr, md] H H2, fun σ2 H2 ⟨o1, o2, e1, e2, e3⟩ => ⟨n', Nat.lt_succ_self _, o1, o2, _, l2, rest2, e1, e2, e3, rfl, hch2, ht2, Nat.le_trans le2 hz1, hS2⟩, ?_⟩
    refine q_starD (K := K) (i := 1) (j := 2) (d_rowH T (E := E) (ev0 H1) (ev0 H1) (hR1.ex e) rfl hr1) fun v p vs H2 e2 hv hp2 hvs => ?_
    have hR2 := (hR1.ex e).ex e2
    have k2 := (k1.trans (Kp.ex e)).trans (Kp.ex e2)
    rw [hv.str_eq]
    cases r with
    | piece nm =>
      refine s_if (b := decide (("piece" : Str) = "end")) (t_test (K := K) (d_eqS (d_vstr rfl) d_str)) (fun hb => absurd hb (by decide +kernel)) fun _ H3 e3 => ?_
      have hp' : l2 :: rest2 = ⟨endOf rs (begOf rs nm) + 1, 0, l1.frs⟩ :: rest1 := by
        rw [pass1_cons, hr1] at hp
        exact (Option.some.inj hp).symm
      obtain ⟨dx, S, rv, plv, siv, tvs, fvs, mvs, b⟩ := hR2.ex e3
      obtain ⟨kvs, g1, g2⟩ := b.spans
      obtain ⟨sv, g3, g4⟩ := g2 nm (List.mem_of_getElem? hr1)
      have htl := b.trailD
      rw [trailD_cons] at htl
      obtain ⟨nv, hn1, hn2⟩ := hvs.get (i := 0) (d := .str nm) rfl
      refine s_lastD (K := K) (l := tr) (d' := .tuple [.int ((endOf rs (begOf rs nm) : Int) + 1), .int 0]) (d_tup2 (ds_cons (d_ii (f := fun i j => i + j) (d_ix (d_dget (ev_fld (ev_var rfl) b.self T.c_Runner T.a_Runner_spans rfl) g1 (d_ixL (ev_var rfl) (sq_of (e3 _ _ hp2)) d_int (atI_nat' (j := 0) hn1) (hn2.ex e3)) g3 g4) d_int rfl) d_int) (ds_cons d_int ds_nil)))
        (ev_fld (ta := tVar 0) (ev_var rfl) b.self T.c_Runner T.a_Runner_trail rfl) d_m1 b.trail htl fun v H5 e5 _ h5 => ?_
      refine ⟨_, _, rfl, ?_, ((k2.trans (Kp.ex e3)).trans (Kp.ex e5)).trans (.wr (by simp))⟩
      rw [hp']
      exact runAt_of (s := { s with stk := l1 :: rest1 }) ((b.ex e5).wTrail h5) (by rw [trailD_cons]; rfl) (by rw [frssD_cons]; exact (frssD_cons ⟨_, 0, l1.frs⟩ rest1).symm)
    | fin =>
      refine s_if (b := decide (("end" : Str) = "end")) (t_test (K := K) (d_eqS (d_vstr rfl) d_str)) (fun _ H3 e3 => ?_) fun hb => absurd hb (by decide +kernel)
      cases rest1 with
      | nil => rw [pass1_cons, hr1] at hp; cases hp
      | cons c rest' =>
        obtain ⟨⟨nm, n2, a1, a2, a3, a4⟩, _⟩ := id hch1
        have hp' : l2 :: rest2 = if c.turn + 1 < n2 then ⟨begOf rs nm, 0, []⟩ :: ⟨c.row, c.turn + 1, c.frs⟩ :: rest' else ⟨c.row + 1, 0, c.frs⟩ :: rest' := by
          rw [pass1_cons, hr1] at hp
          simp only [a1] at hp
          split at hp
          · rename_i lt; rw [if_pos lt]; exact (Option.some.inj hp).symm
          · rename_i lt; rw [if_neg lt]; exact (Option.some.inj hp).symm
        refine s_mW (K := K) (ev_var rfl) (hR2.ex e3) ⟨l1, c, rest', nm, n2, rfl, a1, (W.calls nm n2 (List.mem_of_getElem? a1)).1, hz1, rfl⟩ (lk_none (by decide +kernel)) fun H6 h6 k6 => ?_
        refine ⟨_, _, rfl, ?_, (k2.trans (Kp.ex e3)).trans k6⟩
        rw [hp']
        exact h6
    | _ => cases hr2
end
end Kx

set_option Elab.async false
set_option linter.all false
set_option maxRecDepth 100000
set_option maxHeartbeats 4000000
namespace Kx
open PySem PySem.Spec PyProof.Rows L2 Evl HT
/-! ### the runner's errors -/
structure XC (K : PySem.W.Frag) (x f : Str) : Prop where
  oex : OexC K (He.ga K x)
  no : PySem.W.findIn K (.ref (He.ga K x)) f = some none
  init : PySem.W.findIn K (.ref (He.ga K x)) "__init__" = some (some (.ref (He.ma K (He.ga K x) "__init__")))
  ty : PySem.W.typeIn K (.ref (He.ma K (He.ga K x) "__init__")) = some (.type "function")
  exc : ExcC K (He.ga K x)
  xf : XfC K (He.ga K x)
theorem exc_shape {K : PySem.W.Frag} {C : Addr} (h : Kd.excB K C = true) : ∃ nm q N bs bm sn sub ab col dd k0 k1 k2 k3 k5, K.lookup C = some (excClassObj nm q C N bs bm true sn sub ab col dd k0 k1 k2 k3 k5 "ValueError.__new__") ∧ PySem.HandSPX.refsVE bm = true := by
  unfold Kd.excB at h
  split at h
  · rename_i dd cd sl hl
    split at h
    · rename_i D bm k0 k1 k2 k3 n k5 hm hs
      simp only [Bool.and_eq_true, decide_eq_true_eq, beq_iff_eq] at h
      obtain ⟨h1, h2, h3, h4, h5⟩ := h
      subst h1 h2
      obtain ⟨nm, bs, mro, N, q, hd, sn, sub, ab, col, del⟩ := cd
      dsimp only at hm h3 h4
      subst hm h4
      have h3' : del = false := by simpa using h3
      subst h3'
      have hs' : sl = #[k0, k1, k2, k3, some (.builtin "ValueError.__new__"), k5] := by
        have := congrArg List.toArray hs
        simpa using this
      subst hs'
      exact ⟨nm, q, N, bs, bm, sn, sub, ab, col, dd, k0, k1, k2, k3, k5, hl, h5⟩
    · cases h
  · cases h
theorem xc_of {K : PySem.W.Frag} {x f : Str} (h : Kd.excMore K x f = true) : XC K x f := by
  unfold Kd.excMore at h
  simp only [Bool.and_eq_true, decide_eq_true_eq] at h
  obtain ⟨h1, h2, h3, h4, h5, h6, h7, h8, h9, h10, h11, h12, h13⟩ := h
  have h2 := He.eqO_ok h2
  have h3 := He.eqO_ok h3
  have h4 := He.eqO_ok h4
  have h5 := He.eqO_ok h5
  have h6 := He.eqO_ok h6
  have h12 := He.eqO_ok h12
  exact ⟨⟨exc_shape h1, h2, h9, h10, h8⟩, h5, h6, h7, ⟨h3, h4, h9, h11, h12, by first | rfl | decide +kernel | kernel_rfl, by first | rfl | decide +kernel | kernel_rfl, h13⟩, ⟨h3, h4, h9, h11⟩⟩
section
variable {w : World} {K : PySem.W.Frag} {mg : Str → Option Value} {base : Heap}
theorem Tx.exs (T : Tx w K mg) : XC K "Uneven" "row" ∧ XC K "NoFrame" "row" ∧ XC K "TooDeep" "row" ∧ XC K "TooMany" "most" := by
  have z := T.more
  unfold Kd.ex at z
  simp only [Bool.and_eq_true] at z
  exact ⟨xc_of (by simp only [z]), xc_of (by simp only [z]), xc_of (by simp only [z]), xc_of (by simp only [z])⟩
def spXi (K : PySem.W.Frag) (C : Addr) (f : Str) : Sp := fun vs H Q _ => ∃ e n, vs = [.ref e, .int n] ∧ H e = some (exo e C none) ∧ ∀ dx, H dx = none → dx ≠ e → Q .non (upd (upd H dx (exd dx [(f, .int n)])) e (exo e C (some dx)))
theorem sc_Uneven_init : FnScope ["self", "row"] ["self", "row"] (defScope Kd.s_Uneven_init) := ⟨rfl, rfl, rfl, by decide +kernel, rfl, by decide +kernel, by decide +kernel⟩
theorem ok_Uneven_init (T : Tx w K mg) : Ok Pg w K mg base CX0 1 (He.ma K (He.ga K "Uneven") "__init__") ["self", "row"] (spXi K (He.ga K "Uneven") "row") := by
  refine ok_of T.f_Uneven_init sc_Uneven_init (fun vs H Q E h => by obtain ⟨a, _, rfl, _⟩ := h; rfl) (fun _ _ _ _ _ _ us hl => match us, hl with | [_, _], _ => rfl) fun cdv A outer s0 H vs Q E hr h => ?_
  obtain ⟨e, n, rfl, he, hk⟩ := h
  refine ⟨_, pss_one (ps_ost (pv 0) (pv 1)), ?_⟩
  exact ⟨.int n, rfl, .ref e, rfl, e, _, rfl, T.exs.1.oex, T.exs.1.no, .inl ⟨he, fun dx h1 h2 => hk dx h1 h2⟩⟩
theorem sc_NoFrame_init : FnScope ["self", "row"] ["self", "row"] (defScope Kd.s_NoFrame_init) := ⟨rfl, rfl, rfl, by decide +kernel, rfl, by decide +kernel, by decide +kernel⟩
theorem ok_NoFrame_init (T : Tx w K mg) : Ok Pg w K mg base CX0 1 (He.ma K (He.ga K "NoFrame") "__init__") ["self", "row"] (spXi K (He.ga K "NoFrame") "row") := by
  refine ok_of T.f_NoFrame_init sc_NoFrame_init (fun vs H Q E h => by obtain ⟨a, _, rfl, _⟩ := h; rfl) (fun _ _ _ _ _ _ us hl => match us, hl with | [_, _], _ => rfl) fun cdv A outer s0 H vs Q E hr h => ?_
  obtain ⟨e, n, rfl, he, hk⟩ := h
  refine ⟨_, pss_one (ps_ost (pv 0) (pv 1)), ?_⟩
  exact ⟨.int n, rfl, .ref e, rfl, e, _, rfl, T.exs.2.1.oex, T.exs.2.1.no, .inl ⟨he, fun dx h1 h2 => hk dx h1 h2⟩⟩
theorem sc_TooDeep_init : FnScope ["self", "row"] ["self", "row"] (defScope Kd.s_TooDeep_init) := ⟨rfl, rfl, rfl, by decide +kernel, rfl, by decide +kernel, by decide +kernel⟩
theorem ok_TooDeep_init (T : Tx w K mg) : Ok Pg w K mg base CX0 1 (He.ma K (He.ga K "TooDeep") "__init__") ["self", "row"] (spXi K (He.ga K "TooDeep") "row") := by
  refine ok_of T.f_TooDeep_init sc_TooDeep_init (fun vs H Q E h => by obtain ⟨a, _, rfl, _⟩ := h; rfl) (fun _ _ _ _ _ _ us hl => match us, hl with | [_, _], _ => rfl) fun cdv A outer s0 H vs Q E hr h => ?_
  obtain ⟨e, n, rfl, he, hk⟩ := h
  refine ⟨_, pss_one (ps_ost (pv 0) (pv 1)), ?_⟩
  exact ⟨.int n, rfl, .ref e, rfl, e, _, rfl, T.exs.2.2.1.oex, T.exs.2.2.1.no, .inl ⟨he, fun dx h1 h2 => hk dx h1 h2⟩⟩
theorem sc_TooMany_init : FnScope ["self", "most"] ["self", "most"] (defScope Kd.s_TooMany_init) := ⟨rfl, rfl, rfl, by decide +kernel, rfl, by decide +kernel, by decide +kernel⟩
theorem ok_TooMany_init (T : Tx w K mg) : Ok Pg w K mg base CX0 1 (He.ma K (He.ga K "TooMany") "__init__") ["self", "most"] (spXi K (He.ga K "TooMany") "most") := by
  refine ok_of T.f_TooMany_init sc_TooMany_init (fun vs H Q E h => by obtain ⟨a, _, rfl, _⟩ := h; rfl) (fun _ _ _ _ _ _ us hl => match us, hl with | [_, _], _ => rfl) fun cdv A outer s0 H vs Q E hr h => ?_
  obtain ⟨e, n, rfl, he, hk⟩ := h
  refine ⟨_, pss_one (ps_ost (pv 0) (pv 1)), ?_⟩
  exact ⟨.int n, rfl, .ref e, rfl, e, _, rfl, T.exs.2.2.2.oex, T.exs.2.2.2.no, .inl ⟨he, fun dx h1 h2 => hk dx h1 h2⟩⟩
end
section
variable {X : Cx} {W : WX} {x f : Str} {e : Expr} {es : List Expr} {ta : TA} {p pos pos2 : Pos}
theorem ps_raiseX (XC : XC X.K x f) (O : Ok X.prog X.w X.K X.mg X.base CX0 1 (He.ma X.K (He.ga X.K x) "__init__") ["self", f] (spXi X.K (He.ga X.K x) f)) (hr : Room 2 X.A) (hc : X.calm = true) (tk : Takes X W) (hg : Gl X x) (hm : X.mg x = some (.ref (He.ga X.K x))) (ha : PA X (e :: es) ta)
    (hdb : (x == ("__debug__" : Str)) = false := by decide) (he : starEach (e :: es) X.env = (false, eval e X.env) :: starEach es X.env := by rfl) (hpl : (backTo pos (starEach es X.env)).any (·.1) = false := by rfl) :
    PS X (.Raise (some (.Call (.Name x p) (e :: es) [] pos)) none pos2) (fun _ σ H => tMkO (He.ga X.K x) (spXi X.K (He.ga X.K x) f) [] ta σ H fun cls d H' => W cls d σ H') :=
  let ⟨fd, F, b⟩ := O.ex
  ps_raise hc tk (pmk_oex XC.oex XC.init XC.ty F hr b .nil pass0 hg hm ha hdb he hpl)
end
theorem s_raiseX {K : PySem.W.Frag} {σ : L2.St} {H : Hp} {ta : TA} {W : WX} {C : Addr} {f : Str} {n : Int} (ha : EvDs K ta σ H [.int n]) (k : ∀ dd H', H dd = none → Ex H H' → H' dd = some (.xd [(f, .int n)]) → W (.ref C) (some dd) σ H') :
    tMkO C (spXi K C f) [] ta σ H fun cls d H' => W cls d σ H' := ha H (Ex.refl H) _ fun vs H1 e1 hv => by
  cases hv with
  | cons h1 h2 =>
    cases h2
    rw [h1.int_eq]
    refine ⟨by show 1 ≤ 1000; decide, fun a ha => ⟨a, n, rfl, upd_same, fun dx hx hn => ⟨rfl, dx, [(f, .int n)], upd_same, by rw [upd_ne hn, upd_same], ?_, ?_⟩⟩⟩
    · rw [upd_ne hn] at hx; exact hx
    · rw [upd_ne hn] at hx
      refine k dx _ (fresh_back e1 hx) (fun b o hb => ?_) upd_same
      have hb1 := e1 b o hb
      have na : b ≠ a := ne_of_none hb1 ha
      have nx : b ≠ dx := ne_of_none hb1 hx
      rw [upd_ne nx, del_ne na, upd_ne na, upd_ne nx, upd_ne na]
      exact hb1
end Kx

set_option Elab.async false
set_option linter.all false
set_option maxRecDepth 100000
set_option maxHeartbeats 4000000
namespace Kx
open PySem PySem.Spec PyProof.Rows L2 Evl HT
/-! ### small enough -/
def FitXY (s : Ms) (fs : List Fr) (x y : Option Nu) : Prop :=
  (s.by_ = true → ∀ k, SmP 20000 ((fs.drop k).foldr dirF (x.getD (0, 1), y.getD (0, 1)))) ∧
  (s.by_ = false → (∀ k, SmP 20000 (fromP (fs.take k) s.place)) ∧ ∀ k, SmP 20000 ((fs.drop k).foldr byF (x.getD (fromP fs s.place).1, y.getD (fromP fs s.place).2)))
def FitPQ (p q : Int) : Prop := ¬ (p = 0 ∧ q = 0) ∧ p.natAbs < 128 ∧ q.natAbs < 128
def FitRow (s : Ms) (r : Row) : Prop := (∀ f ∈ allF s.stk, OkF f) ∧ (allF s.stk).length ≤ 8 ∧ SmP 20000 s.place ∧ match r with
  | .hop x y => FitXY s (allF s.stk) x y
  | .cut x y => FitXY s (allF s.stk) x y
  | .arc _ x y p q => FitXY s (allF s.stk) x y ∧ FitPQ p q
  | .run p q l => FitPQ p q ∧ (∀ k, SmP 20000 (((allF s.stk).drop k).foldr dirF (headP p q))) ∧ Sm 20 l
  | _ => True
theorem sm_spot {s : Ms} {fs : List Fr} {x y : Option Nu} (h : FitXY s fs x y) (p : SmP 20000 s.place) : SmP 40001 (spotM s fs x y) := by
  unfold spotM
  cases hb : s.by_ with
  | true =>
    have q := h.1 hb 0
    exact ⟨p.1.add q.1, p.2.add q.2⟩
  | false => exact SmP.mono ((h.2 hb).2 0) (by decide)
section
variable {K : PySem.W.Frag} {H H' : Hp} {σ : L2.St} {ta tb te tv : TE} {d : PyData} {v : V} {D : Ends} {tz : TS} {ds : List PyData}
theorem d_orO {x : Option Nu} {u : Nu} (ha : EvD K ta σ H (oD x)) (hb : EvD K tb σ H (nD u)) : EvD K (tOrT K ta tb) σ H (nD (x.getD u)) := fun H1 e Q q => ha H1 e _ fun w H2 e2 hw => by
  cases x with
  | none =>
    rw [hw.none_eq]
    refine ⟨false, rfl, ?_⟩
    rw [if_neg (by decide)]
    exact hb H2 (e.trans e2) _ fun w2 H3 e3 hw2 => q w2 H3 (e2.trans e3) hw2
  | some z =>
    obtain ⟨p, xs, rfl, h1, h2⟩ := hw.tup_eq
    refine ⟨true, .inr (.inl ⟨xs, h1, by cases h2; rfl⟩), ?_⟩
    rw [if_pos rfl]
    exact q _ H2 e2 (.tup h1 h2)
theorem d_tupK {p : Addr} {xs : List V} (ha : Ev ta σ H (.ref p)) (hs : H p = some (.lst xs)) (hd : DtL K H xs ds) : EvD K (tCB (rTup K) (tCons ta tNil)) σ H (.tuple ds) := fun H1 e Q q =>
  ha H1 e _ fun H2 e2 => ⟨p, xs, rfl, .inl ⟨sq_of (e2 _ _ (e _ _ hs)), fun l hl => q _ _ (e2.trans (Ex.new hl)) (.tup (SqT.of upd_same) ((hd.ex (e.trans e2)).ex (Ex.new hl)))⟩⟩
theorem s_fldD {a dx C : Addr} {fs : List (Str × V)} {f : Str} (h : EvD K te σ H d) (ha : Ev ta σ H (.ref a)) (hs : H a = some (.ins C dx fs)) (c : Cls K C) (n : NoAttr K C f) (hl : fs.length < 1000) (k : ∀ v H1, Ex H H1 → Dt K H1 v d → D.nx σ (upd H1 a (.ins C dx (putF f v fs)))) : sFld K ta te f D σ H :=
  h H (Ex.refl H) _ fun v H1 e1 hv => ha H1 e1 _ fun H2 e2 => ⟨a, C, dx, fs, rfl, e2 _ _ (e1 _ _ hs), c, n, hl, k v H2 (e1.trans e2) (hv.ex e2)⟩
theorem q_fldD {a dx C : Addr} {fs : List (Str × V)} {f : Str} (h : EvD K te σ H d) (ha : Ev ta σ H (.ref a)) (hs : H a = some (.ins C dx fs)) (c : Cls K C) (n : NoAttr K C f) (hl : fs.length < 1000) (k : ∀ v H1, Ex H H1 → Dt K H1 v d → tz D σ (upd H1 a (.ins C dx (putF f v fs)))) : tSeq (sFld K ta te f) tz D σ H := s_fldD (D := { D with nx := tz D }) h ha hs c n hl k
end
theorem put_place (a b c d e f g h i j v : V) : putF "place" v (rf a b c d e f g h i j) = rf a b c v e f g h i j := by
  simp only [rf, putF]; rfl
theorem put_mode (a b c d e f g h i j v : V) : putF "mode" v (rf a b c d e f g h i j) = rf a b c d v f g h i j := by
  simp only [rf, putF]; rfl
theorem put_pace (a b c d e f g h i j v : V) : putF "pace" v (rf a b c d e f g h i j) = rf a b c d e v g h i j := by
  simp only [rf, putF]; rfl
theorem put_side (a b c d e f g h i j v : V) : putF "side" v (rf a b c d e f g h i j) = rf a b c d e f v h i j := by
  simp only [rf, putF]; rfl
theorem put_many (a b c d e f g h i j v : V) : putF "many" v (rf a b c d e f g h i j) = rf a b c d e f g h v j := by
  simp only [rf, putF]; rfl
section
variable {w : World} {K : PySem.W.Frag} {mg : Str → Option Value} {base : Heap}
def spSpot (K : PySem.W.Frag) : Sp := fun vs H Q _ => ∃ a tr fr md rs s x y v1 v2, vs = [.ref a, v1, v2] ∧ RunAt K H a tr fr md rs s ∧ Dt K H v1 (oD x) ∧ Dt K H v2 (oD y) ∧ (∀ f ∈ allF s.stk, OkF f) ∧ (allF s.stk).length ≤ 8 ∧ SmP 20000 s.place ∧ FitXY s (allF s.stk) x y ∧
  ∀ v H', Ex H H' → Dt K H' v (pD (spotM s (allF s.stk) x y)) → Q v H'
theorem sc_spot : FnScope ["self", "x", "y", "frames", "own"] ["self", "x", "y"] (defScope Kd.s_Runner_spot) := ⟨rfl, rfl, rfl, by decide +kernel, rfl, by decide +kernel, by decide +kernel⟩
theorem ok_spot (T : Tx w K mg) : Ok Pg w K mg base CX0 42 (He.ma K (CR K) "spot") ["self", "x", "y"] (spSpot K) := by
  refine ok_of T.f_Runner_spot sc_spot (fun vs H Q E h => by obtain ⟨a, _, _, _, _, _, _, _, _, _, rfl, _⟩ := h; rfl) (fun _ _ _ _ _ _ us hl => match us, hl with | [_, _, _], _ => rfl) fun cdv A outer s0 H vs Q E hr h => ?_
  obtain ⟨a, tr, fr, md, rs, s, x, y, v1, v2, rfl, hR, hx, hy, okf, hl, hp, hf, hk⟩ := h
  refine ⟨_, PSs.nox (pss_cons (ps_set (i := 3) sc_spot.nd rfl (Or.inl rfl) (pe_m0 (ok_all_frames T) (hr.mono (by decide)) T.c_Runner T.m_Runner_all_frames pass0 (pv 0)))
    (pss_cons (ps_if (pt_cmpR op_eq (pe_fld (pv 0) (by rfl)) pe_str (nomark _)) (pss_one (ps_ret (pe_fn (ok_added T) (hr.mono (by decide)) T.g_added pass0 (pa_cons (pe_fld (pv 0) (by rfl)) (pa_cons (pe_fn (ok_led_direction T) (hr.mono (by decide)) T.g_led_direction pass0 (pa_cons (pv 3) (pa_cons (pe_tup (pa_cons (pe_orT (pv 1) (pe_one (pgl T.g_NOUGHT))) (pa_cons (pe_orT (pv 2) (pe_one (pgl T.g_NOUGHT))) pa_nil))) pa_nil))) pa_nil))))) pss_nil)
    (pss_cons (ps_set (i := 4) sc_spot.nd rfl (Or.inl rfl) (pe_fn (ok_led_from T) (hr.mono (by decide)) T.g_led_from pass0 (pa_cons (pv 3) (pa_cons (pe_fld (pv 0) (by rfl)) pa_nil))))
    (pss_one (ps_ret (pe_fn (ok_led_place T) (hr.mono (by decide)) T.g_led_place pass0 (pa_cons (pv 3) (pa_cons (pe_tup (pa_cons (pe_orT (pv 1) (pe_one (px (pv 4)))) (pa_cons (pe_orT (pv 2) (pe_one (px (pv 4)))) pa_nil))) pa_nil)))))))), ?_⟩
  obtain ⟨dx, S, rv, plv, siv, tvs, fvs, mvs, b⟩ := id hR
  refine q_asgD (K := K) (d := frsD (allF s.stk)) (d_mR (ev_var rfl) hR ⟨by omega, rfl⟩ (lk_none (by decide +kernel))) fun v H1 e1 x3 => ?_
  replace hx := hx.ex e1
  replace hy := hy.ex e1
  replace b := b.ex e1
  unfold spotM at hk
  cases hb : s.by_ with
  | true =>
    rw [hb, if_pos rfl] at hk
    have bs := b.self
    rw [hb] at bs
    refine q_when (b := decide (modeS true = "by")) (t_test (K := K) (d_eqS (d_of (ev_fld (ev_var rfl) bs T.c_Runner T.a_Runner_mode rfl) (.str _)) d_str)) (fun _ H2 e2 => ?_) fun q => absurd q (by decide +kernel)
    refine s_retD (K := K) ?_ fun v2 H3 e3 hd => hk v2 H3 ((e1.trans e2).trans e3) hd
    refine d_turn (b := 401000) (c := 401000) (g := addP) (ds_cons (d_of (ev_fld (ev_var rfl) (e2 _ _ bs) T.c_Runner T.a_Runner_place rfl) (b.place.ex e2)) (ds_cons ?_ ds_nil)) (hp.mono (by decide)) (SmP.mono (hf.1 hb 0) (by decide))
    exact d_call (ds_cons (d_var (x3.ex e2) rfl) (ds_cons (d_tup2 (ds_cons (d_orO (d_var (hx.ex e2) rfl) (d_const (T.d_NOUGHT _))) (ds_cons (d_orO (d_var (hy.ex e2) rfl) (d_const (T.d_NOUGHT _))) ds_nil))) ds_nil)) ⟨allF s.stk, (x.getD (0, 1), y.getD (0, 1)), rfl, okf, by omega, fun k => (hf.1 hb k).mono (by decide), rfl⟩
  | false =>
    rw [hb, if_neg (by decide)] at hk
    have bs := b.self
    rw [hb] at bs
    refine q_when (b := decide (modeS false = "by")) (t_test (K := K) (d_eqS (d_of (ev_fld (ev_var rfl) bs T.c_Runner T.a_Runner_mode rfl) (.str _)) d_str)) (fun q => absurd q (by decide +kernel)) fun _ H2 e2 => ?_
    refine q_asgD (K := K) (d := pD (fromP (allF s.stk) s.place)) (d_call (ds_cons (d_var (x3.ex e2) rfl) (ds_cons (d_of (ev_fld (ev_var rfl) (e2 _ _ bs) T.c_Runner T.a_Runner_place rfl) (b.place.ex e2)) ds_nil)) ⟨allF s.stk, s.place, rfl, okf, by omega, fun k => ((hf.2 hb).1 k).mono (by decide), rfl⟩) fun u H3 e3 x4 => ?_
    refine s_retD (K := K) ?_ fun v2 H4 e4 hd => hk v2 H4 (((e1.trans e2).trans e3).trans e4) hd
    exact d_call (ds_cons (d_var ((x3.ex e2).ex e3) rfl) (ds_cons (d_tup2 (ds_cons (d_orO (d_var ((hx.ex e2).ex e3) rfl) (d_ix (d_var x4 rfl) d_int rfl)) (ds_cons (d_orO (d_var ((hy.ex e2).ex e3) rfl) (d_ix (d_var x4 rfl) d_int rfl)) ds_nil))) ds_nil)) ⟨allF s.stk, (x.getD (fromP (allF s.stk) s.place).1, y.getD (fromP (allF s.stk) s.place).2), rfl, okf, by omega, fun k => ((hf.2 hb).2 k).mono (by decide), rfl⟩
end
end Kx

set_option Elab.async false
set_option linter.all false
set_option maxRecDepth 100000
set_option maxHeartbeats 4000000
namespace Kx
open PySem PySem.Spec PyProof.Rows L2 Evl HT
/-! ### what is made, and the deeds -/
section
variable {w : World} {K : PySem.W.Frag} {mg : Str → Option Value} {base : Heap}
def spMake (K : PySem.W.Frag) : Sp := fun vs H Q _ => ∃ a tr fr md rs s sv ds t, vs = [.ref a, sv] ∧ RunAt K H a tr fr md rs s ∧ Dt K H sv (.tuple ds) ∧ ds[2]? = some (pD t) ∧ (allF s.stk).length ≤ 8 ∧ s.made.length ≤ 1000 ∧
  ∀ H', RunAt K H' a tr fr md rs { s with place := t, made := s.made ++ [entD s (.tuple ds)] } → Kp [a, tr, fr, md] H H' → Q .non H'
theorem sc_make : FnScope ["self", "step", "side"] ["self", "step"] (defScope Kd.s_Runner_make) := ⟨rfl, rfl, rfl, by decide +kernel, rfl, by decide +kernel, by decide +kernel⟩
theorem ok_make (T : Tx w K mg) : Ok Pg w K mg base CX0 4 (He.ma K (CR K) "make") ["self", "step"] (spMake K) := by
  refine ok_of T.f_Runner_make sc_make (fun vs H Q E h => by obtain ⟨a, _, _, _, _, _, _, _, _, rfl, _⟩ := h; rfl) (fun _ _ _ _ _ _ us hl => match us, hl with | [_, _], _ => rfl) fun cdv A outer s0 H vs Q E hr h => ?_
  obtain ⟨a, tr, fr, md, rs, s, sv, ds, t, rfl, hR, hs, ht, hl, hz, hk⟩ := h
  refine ⟨_, PSs.nox (pss_cons (ps_set (i := 2) sc_make.nd rfl (Or.inl rfl) (pe_ifExp (pt_val (pe_fn (ok_is_about T) (hr.mono (by decide)) T.g_is_about pass0 (pa_cons (pe_m0 (ok_all_frames T) (hr.mono (by decide)) T.c_Runner T.m_Runner_all_frames pass0 (pv 0)) pa_nil))) (pe_fn (ok_opposite T) (hr.mono (by decide)) T.g_opposite pass0 (pa_cons (pe_fld (pv 0) (by rfl)) pa_nil)) (pe_fld (pv 0) (by rfl))))
    (pss_cons (ps_expr (pe_bm PySem.F.plainAttrs_list PySem.F.slot_list_append PySem.F.type_list_append mt_append (pe_fld (pv 0) (by rfl)) (pa_cons (pe_tup (pa_cons (pv 1) (pa_cons (pe_fld (pv 0) (by rfl)) (pa_cons (pv 2) (pa_cons (pe_callTy call_tuple_of (by rfl) T.b_tuple PyProof.Rows.boot_tuple (pa_cons (pe_fld (pv 0) (by rfl)) pa_nil)) pa_nil))))) pa_nil)))
    (pss_one (ps_fld (pv 0) (px (pv 1)) (by rfl))))), ?_⟩
  obtain ⟨dx, S, rv, plv, siv, tvs, fvs, mvs, b⟩ := id hR
  refine q_asgD (K := K) (d := nD (sideM s (allF s.stk))) ?_ fun v H1 e1 x2 => ?_
  · unfold sideM
    refine d_if (b := aboutF (allF s.stk)) (t_B (K := K) (d_call (ds_cons (d_mR (ev_var rfl) hR ⟨by omega, rfl⟩ (lk_none (by decide +kernel))) ds_nil) ⟨allF s.stk, rfl, by omega, rfl⟩)) (fun h => ?_) fun h => ?_
    · rw [h, if_pos rfl]
      exact d_un (ds_cons (d_of (ev_fld (ev_var rfl) b.self T.c_Runner T.a_Runner_side rfl) b.side) ds_nil) trivial
    · rw [h, if_neg (by decide)]
      exact d_of (ev_fld (ev_var rfl) b.self T.c_Runner T.a_Runner_side rfl) b.side
  replace b := b.ex e1
  replace hs := hs.ex e1
  refine q_appD (K := K) (l := md) (xs := mvs) (d := entD s (.tuple ds)) b.made (ev_fld (ta := tVar 0) (ev_var rfl) b.self T.c_Runner T.a_Runner_made rfl) (d_tup (ds_cons (d_var hs rfl) (ds_cons (d_of (ev_fld (ev_var rfl) b.self T.c_Runner T.a_Runner_pace rfl) (.int _)) (ds_cons (d_var x2 rfl) (ds_cons (d_tupK (ev_fld (ta := tVar 0) (ev_var rfl) b.self T.c_Runner T.a_Runner_trail rfl) b.trail b.trailD) ds_nil)))) (by show 4 ≤ 100000; decide)) (by have := b.madeD.len; omega) fun u H2 e2 hu _ => ?_
  have k2 : Kp [a, tr, fr, md] H (upd H2 md (.lst (mvs ++ [u]))) := (Kp.ex (e1.trans e2)).trans (.wr (by simp))
  have tk := TK.upd (b.ex e2).made trivial (o := .lst (mvs ++ [u]))
  replace b := (b.ex e2).wMade ((b.ex e2).madeD.append (.cons hu .nil))
  have hs2 := (hs.ex e2).tk tk
  refine s_fldD (K := K) (d := pD t) (d_ix (i := 2) (d_var hs2 rfl) d_int (atI_nat' (j := 2) ht)) (ev_var rfl) b.self T.c_Runner T.a_Runner_place (by show 10 < 1000; decide) fun pv H3 e3 hpv => ?_
  rw [put_place]
  have b' := RunB.wSelf (s' := { s with place := t, made := s.made ++ [entD s (.tuple ds)] }) (b.ex e3) hpv (b.ex e3).side rfl
  exact hk _ ⟨dx, S, rv, pv, siv, tvs, fvs, _, b'⟩ ((k2.trans (Kp.ex e3)).trans (.wr (by simp)))
theorem s_make {σ : L2.St} {H : Hp} {a tr fr md : Addr} {rs : List Row} {s : Ms} {ds : List PyData} {t : Pl} {te ta : TE} {D : Ends} {E : XK} (ha : Ev ta σ H (.ref a)) (hR : RunAt K H a tr fr md rs s) (h : EvD K te σ H (.tuple ds)) (ht : ds[2]? = some (pD t)) (hl : (allF s.stk).length ≤ 8) (hz : s.made.length ≤ 1000)
    (k : ∀ H', RunAt K H' a tr fr md rs { s with place := t, made := s.made ++ [entD s (.tuple ds)] } → Kp [a, tr, fr, md] H H' → D.nx σ H') : tDrop (tMeth (CR K) "make" (spMake K) [] E ta (tCons te tNil)) D σ H := ha H (Ex.refl H) _ fun H1 e1 => by
  obtain ⟨dx, S, rv, plv, siv, tvs, fvs, mvs, b⟩ := hR.ex e1
  refine ⟨a, dx, _, rfl, b.self, lk_none (by decide +kernel) .., h H1 e1 _ fun v H2 e2 hv => ?_⟩
  exact ⟨a, tr, fr, md, rs, s, v, ds, t, rfl, (hR.ex e1).ex e2, hv, ht, hl, hz, fun H' h1 h2 => k H' h1 ((Kp.ex (e1.trans e2)).trans h2)⟩
theorem d_spot {σ : L2.St} {H : Hp} {a tr fr md : Addr} {rs : List Row} {s : Ms} {x y : Option Nu} {ta tx ty : TE} {E : XK} (ha : Ev ta σ H (.ref a)) (hR : RunAt K H a tr fr md rs s) (hx : EvD K tx σ H (oD x)) (hy : EvD K ty σ H (oD y)) (okf : ∀ f ∈ allF s.stk, OkF f) (hl : (allF s.stk).length ≤ 8) (hp : SmP 20000 s.place) (hf : FitXY s (allF s.stk) x y) :
    EvD K (tMeth (CR K) "spot" (spSpot K) [] E ta (tCons tx (tCons ty tNil))) σ H (pD (spotM s (allF s.stk) x y)) := fun H1 e Q q => ha H1 e _ fun H2 e2 => by
  obtain ⟨dx, S, rv, plv, siv, tvs, fvs, mvs, b⟩ := (hR.ex e).ex e2
  refine ⟨a, dx, _, rfl, b.self, lk_none (by decide +kernel) .., hx H2 (e.trans e2) _ fun v1 H3 e3 h1 => hy H3 ((e.trans e2).trans e3) _ fun v2 H4 e4 h2 => ?_⟩
  exact ⟨a, tr, fr, md, rs, s, x, y, v1, v2, rfl, (((hR.ex e).ex e2).ex e3).ex e4, h1.ex e4, h2, okf, hl, hp, hf, fun v H5 e5 hd => q v H5 (((e2.trans e3).trans e4).trans e5) hd⟩
/-! ### deeds -/
def clsB : Bad → Str
  | .uneven _ => "Uneven" | .frame _ => "NoFrame" | .deep _ => "TooDeep" | .many _ => "TooMany"
def fldB : Bad → Str
  | .many _ => "most" | _ => "row"
def numB : Bad → Int
  | .uneven k => k | .frame k => k | .deep k => k | .many k => k
/-- how a refusal leaves -/
def ExcP (K : PySem.W.Frag) (L : List Addr) (H : Hp) (E : XK) (b : Bad) : Prop := ∀ dd H', H dd = none → Kp L H H' → H' dd = some (.xd [(fldB b, .int (numB b))]) → E (.ref (He.ga K (clsB b))) (some dd) H'
def spDeed (K : PySem.W.Frag) (P : Row → Prop) : Sp := fun vs H Q E => ∃ a tr fr md rs s l rest r rv, vs = [.ref a, rv] ∧ P r ∧ RunAt K H a tr fr md rs s ∧ Dt K H rv (rowD r) ∧ s.stk = l :: rest ∧ rs[l.row]? = some r ∧ WfR rs ∧ s.stk.length ≤ 1000 ∧ s.made.length ≤ 1000 ∧ FitRow s r ∧
  (∀ s', deedM rs s l rest r = .ok s' → ∀ H', RunAt K H' a tr fr md rs s' → Kp [a, tr, fr, md] H H' → Q .non H') ∧ ∀ b, deedM rs s l rest r = .error b → ExcP K [a, tr, fr, md] H E b
theorem deed_of {f : Addr} {x : Str} {st : Stmt} {N : List Str} {k : Nat} {P : Row → Prop} (F : ∃ fd, FunD K x x (defArgs st) (defBody st) (defScope st) [] [] f fd) (S : FnScope N ["runner", "row"] (defScope st))
    (bnd : ∀ (kV doc pm : Value) (an : Option Addr) (cdv ct : Value) (us : List Value), us.length = 2 → bindArgs (PySem.W.fnOf x x (defArgs st) (defBody st) (defScope st) .none kV doc pm an cdv ct) ⟨us, []⟩ = pure ((["runner", "row"] : List Str).zip us))
    (hbody : ∀ (cdv : Value) (A : Around) (outer : List Env) (s0 : Shared) (H : Hp) (Q : VK) (E : XK), Room k (A.deeper (envOfC x (defScope st) s0.heap.objs.size f cdv)) →
      ∃ t, PSs (cxOf (L2.CX Pg w) Pg w K mg base N x (defScope st) f cdv A outer s0 H E) (defBody st) t ∧ ∀ a tr fr md rs s l rest r rv, P r → RunAt K H a tr fr md rs s → Dt K H rv (rowD r) → s.stk = l :: rest → rs[l.row]? = some r → WfR rs → s.stk.length ≤ 1000 → s.made.length ≤ 1000 → FitRow s r →
        (∀ s', deedM rs s l rest r = .ok s' → ∀ H', RunAt K H' a tr fr md rs s' → Kp [a, tr, fr, md] H H' → Q .non H') → (∀ b, deedM rs s l rest r = .error b → ExcP K [a, tr, fr, md] H E b) → t { nx := fun _ H' => Q .non H', rt := Q } (start N [.ref a, rv]) H) :
    Ok Pg w K mg base (L2.CX Pg w) (k + 1) f ["runner", "row"] (spDeed K P) := by
  refine ok_of F S (fun vs H Q E h => by obtain ⟨a, _, _, _, _, _, _, _, _, _, rfl, _⟩ := h; rfl) (fun kV doc pm an cdv ct us hl => bnd kV doc pm an cdv ct us hl) fun cdv A outer s0 H vs Q E hr h => ?_
  obtain ⟨a, tr, fr, md, rs, s, l, rest, r, rv, rfl, h1, h2, h3, h4, h5, h6, h7, h8, h9, h10, h11⟩ := h
  obtain ⟨t, ht, h⟩ := hbody cdv A outer s0 H Q E hr
  exact ⟨t, ht, h a tr fr md rs s l rest r rv h1 h2 h3 h4 h5 h6 h7 h8 h9 h10 h11⟩
theorem sc_do_mode : FnScope ["runner", "row"] ["runner", "row"] (defScope Kd.s_do_mode) := ⟨rfl, rfl, rfl, by decide +kernel, rfl, by decide +kernel, by decide +kernel⟩
theorem ok_do_mode (T : Tx w K mg) : Ok Pg w K mg base (L2.CX Pg w) 1 (He.ga K "do_mode") ["runner", "row"] (spDeed K fun r => ∃ b, r = .mode b) := by
  refine deed_of T.f_do_mode sc_do_mode (fun _ _ _ _ _ _ us hl => match us, hl with | [_, _], _ => rfl) fun cdv A outer s0 H Q E hr => ⟨_, pss_one (ps_fld (pv 0) (px (pv 1)) (by rfl)), ?_⟩
  rintro a tr fr md rs s l rest r rv ⟨b, rfl⟩ hR hv hst hr' W hz hm hf hk he
  obtain ⟨dx, S, rv', plv, siv, tvs, fvs, mvs, B⟩ := id hR
  refine s_fldD (K := K) (d := .str (modeS b)) (by have q := d_ix (K := K) (i := 0) (d_var (i := 1) (σ := start ["runner", "row"] [.ref a, rv]) hv rfl) (d_int (n := 0)) (atI_nat' (j := 0) rfl); cases b <;> exact q) (ev_var rfl) B.self T.c_Runner T.a_Runner_mode (by show 10 < 1000; decide) fun v H1 e1 hv1 => ?_
  rw [put_mode, hv1.str_eq]
  refine hk { s with by_ := b } rfl _ ⟨dx, S, rv', plv, siv, tvs, fvs, mvs, ?_⟩ ((Kp.ex e1).trans (.wr (by simp)))
  exact RunB.wSelf (s' := { s with by_ := b }) (B.ex e1) (B.ex e1).place (B.ex e1).side rfl
end
end Kx

set_option Elab.async false
set_option linter.all false
set_option maxRecDepth 100000
set_option maxHeartbeats 4000000
namespace Kx
open PySem PySem.Spec PyProof.Rows L2 Evl HT
section
variable {w : World} {K : PySem.W.Frag} {mg : Str → Option Value} {base : Heap}
theorem sc_do_pace : FnScope ["runner", "row"] ["runner", "row"] (defScope Kd.s_do_pace) := ⟨rfl, rfl, rfl, by decide +kernel, rfl, by decide +kernel, by decide +kernel⟩
theorem ok_do_pace (T : Tx w K mg) : Ok Pg w K mg base (L2.CX Pg w) 1 (He.ga K "do_pace") ["runner", "row"] (spDeed K fun r => ∃ g, r = .pace g) := by
  refine deed_of T.f_do_pace sc_do_pace (fun _ _ _ _ _ _ us hl => match us, hl with | [_, _], _ => rfl) fun cdv A outer s0 H Q E hr => ⟨_, (pss_one (ps_fld (pv 0) (px (pv 1)) (by rfl))), ?_⟩
  rintro a tr fr md rs s l rest r rv ⟨g, rfl⟩ hR hv hst hr' W hz hm hf hk he
  obtain ⟨dx, S, rv', plv, siv, tvs, fvs, mvs, B⟩ := id hR
  refine s_fldD (K := K) (d := .int g) (d_ix (d_var (i := 1) hv rfl) d_int (atI_nat' (j := 1) rfl)) (ev_var rfl) B.self T.c_Runner T.a_Runner_pace (by show 10 < 1000; decide) fun v H1 e1 hv1 => ?_
  rw [put_pace, hv1.int_eq]
  refine hk { s with pace := g } rfl _ ⟨dx, S, rv', plv, siv, tvs, fvs, mvs, ?_⟩ ((Kp.ex e1).trans (.wr (by simp)))
  exact RunB.wSelf (s' := { s with pace := g }) (B.ex e1) (B.ex e1).place (B.ex e1).side rfl
theorem sc_do_side : FnScope ["runner", "row"] ["runner", "row"] (defScope Kd.s_do_side) := ⟨rfl, rfl, rfl, by decide +kernel, rfl, by decide +kernel, by decide +kernel⟩
theorem ok_do_side (T : Tx w K mg) : Ok Pg w K mg base (L2.CX Pg w) 1 (He.ga K "do_side") ["runner", "row"] (spDeed K fun r => ∃ u, r = .side u) := by
  refine deed_of T.f_do_side sc_do_side (fun _ _ _ _ _ _ us hl => match us, hl with | [_, _], _ => rfl) fun cdv A outer s0 H Q E hr => ⟨_, (pss_one (ps_fld (pv 0) (px (pv 1)) (by rfl))), ?_⟩
  rintro a tr fr md rs s l rest r rv ⟨u, rfl⟩ hR hv hst hr' W hz hm hf hk he
  obtain ⟨dx, S, rv', plv, siv, tvs, fvs, mvs, B⟩ := id hR
  refine s_fldD (K := K) (d := nD u) (d_ix (d_var (i := 1) hv rfl) d_int (atI_nat' (j := 1) rfl)) (ev_var rfl) B.self T.c_Runner T.a_Runner_side (by show 10 < 1000; decide) fun v H1 e1 hv1 => ?_
  rw [put_side]
  refine hk { s with side := u } rfl _ ⟨dx, S, rv', plv, v, tvs, fvs, mvs, ?_⟩ ((Kp.ex e1).trans (.wr (by simp)))
  exact RunB.wSelf (s' := { s with side := u }) (B.ex e1) (B.ex e1).place hv1 rfl
theorem sc_do_hop : FnScope ["runner", "row"] ["runner", "row"] (defScope Kd.s_do_hop) := ⟨rfl, rfl, rfl, by decide +kernel, rfl, by decide +kernel, by decide +kernel⟩
theorem ok_do_hop (T : Tx w K mg) : Ok Pg w K mg base (L2.CX Pg w) 43 (He.ga K "do_hop") ["runner", "row"] (spDeed K fun r => ∃ x y, r = .hop x y) := by
  refine deed_of T.f_do_hop sc_do_hop (fun _ _ _ _ _ _ us hl => match us, hl with | [_, _], _ => rfl) fun cdv A outer s0 H Q E hr => ⟨_, (pss_one (ps_expr (pe_m (ok_make T) (hr.mono (by decide)) T.c_Runner T.m_Runner_make pass0 (pv 0) (pa_cons (pe_tup (pa_cons pe_str (pa_cons (pe_fld (pv 0) (by rfl)) (pa_cons (pe_m (ok_spot T) (hr.mono (by decide)) T.c_Runner T.m_Runner_spot pass0 (pv 0) (pa_cons (px (pv 1)) (pa_cons (px (pv 1)) pa_nil))) pa_nil)))) pa_nil)))), ?_⟩
  rintro a tr fr md rs s l rest r rv ⟨x, y, rfl⟩ hR hv hst hr' W hz hm hf hk he
  obtain ⟨okf, hl, hp, hxy⟩ := hf
  obtain ⟨dx, S, rv', plv, siv, tvs, fvs, mvs, B⟩ := id hR
  exact s_make (K := K) (ds := [.str "hop", pD s.place, pD (spotM s (allF s.stk) x y)]) (t := spotM s (allF s.stk) x y) (ev_var rfl) hR (d_tup (ds_cons d_str (ds_cons (d_of (ev_fld (ev_var rfl) B.self T.c_Runner T.a_Runner_place rfl) B.place) (ds_cons (d_spot (ev_var rfl) hR (d_ix (d_var (i := 1) hv rfl) d_int (atI_nat' (j := 1) rfl)) (d_ix (d_var (i := 1) hv rfl) d_int (atI_nat' (j := 2) rfl)) okf hl hp hxy) ds_nil))) (by show 3 ≤ 100000; decide)) rfl hl hm fun H' h1 h2 => hk _ rfl H' h1 h2
theorem sc_do_cut : FnScope ["runner", "row", "there"] ["runner", "row"] (defScope Kd.s_do_cut) := ⟨rfl, rfl, rfl, by decide +kernel, rfl, by decide +kernel, by decide +kernel⟩
theorem ok_do_cut (T : Tx w K mg) : Ok Pg w K mg base (L2.CX Pg w) 43 (He.ga K "do_cut") ["runner", "row"] (spDeed K fun r => ∃ x y, r = .cut x y) := by
  refine deed_of T.f_do_cut sc_do_cut (fun _ _ _ _ _ _ us hl => match us, hl with | [_, _], _ => rfl) fun cdv A outer s0 H Q E hr => ⟨_, (pss_cons (ps_set (i := 2) sc_do_cut.nd rfl (Or.inl rfl) (pe_m (ok_spot T) (hr.mono (by decide)) T.c_Runner T.m_Runner_spot pass0 (pv 0) (pa_cons (px (pv 1)) (pa_cons (px (pv 1)) pa_nil)))) (pss_cons (ps_if (pt_not (pt_val (pe_fn (ok_is_far T) (hr.mono (by decide)) T.g_is_far pass0 (pa_cons (pe_fld (pv 0) (by rfl)) (pa_cons (pv 2) pa_nil))))) (pss_one (ps_raiseX T.exs.1 (ok_Uneven_init T) (hr.mono (by decide)) rfl (takes_of rfl rfl rfl rfl) rfl T.g_Uneven (pa_cons (pe_m0 (ok_row_at T) (hr.mono (by decide)) T.c_Runner T.m_Runner_row_at pass0 (pv 0)) pa_nil))) pss_nil) (pss_one (ps_expr (pe_m (ok_make T) (hr.mono (by decide)) T.c_Runner T.m_Runner_make pass0 (pv 0) (pa_cons (pe_tup (pa_cons pe_str (pa_cons (pe_fld (pv 0) (by rfl)) (pa_cons (pv 2) pa_nil)))) pa_nil)))))), ?_⟩
  rintro a tr fr md rs s l rest r rv ⟨x, y, rfl⟩ hR hv hst hr' W hz hm hf hk he
  obtain ⟨okf, hl, hp, hxy⟩ := hf
  have sp := sm_spot hxy hp
  refine q_asgD (K := K) (d := pD (spotM s (allF s.stk) x y)) (d_spot (ev_var rfl) hR (d_ix (d_var (i := 1) hv rfl) d_int (atI_nat' (j := 1) rfl)) (d_ix (d_var (i := 1) hv rfl) d_int (atI_nat' (j := 2) rfl)) okf hl hp hxy) fun v H1 e1 xv => ?_
  obtain ⟨dx, S, rv', plv, siv, tvs, fvs, mvs, B⟩ := hR.ex e1
  refine q_when (b := !farP s.place (spotM s (allF s.stk) x y)) (et_not (t_B (K := K) (d_call (ds_cons (d_of (ev_fld (ev_var rfl) B.self T.c_Runner T.a_Runner_place rfl) B.place) (ds_cons (d_var xv rfl) ds_nil)) ⟨s.place, spotM s (allF s.stk) x y, rfl, hp.mono (by decide), sp.mono (by decide), rfl⟩))) (fun hb H2 e2 => ?_) fun hb H2 e2 => ?_
  · have hfar : farP s.place (spotM s (allF s.stk) x y) = false := by simpa using hb
    exact s_raiseX (K := K) (W := fun cls d _ H => E cls d H) (C := He.ga K "Uneven") (f := "row") (n := l.row) (ds_cons (d_mR (K := K) (g := gRowAt) (d := .int l.row) (m := "row_at") (E := E) (ev_var rfl) (hR.ex (e1.trans e2)) ⟨l, rest, hst, rfl⟩ (lk_none (by decide +kernel))) ds_nil) fun dd H' h1 h2 h3 => he (.uneven l.row) (by simp only [deedM, stepOf, hfar]; rfl) dd H' (fresh_back (e1.trans e2) h1) ((Kp.ex (e1.trans e2)).trans (Kp.ex h2)) h3
  · have hfar : farP s.place (spotM s (allF s.stk) x y) = true := by simpa using hb
    have B2 := B.ex e2
    exact s_make (K := K) (ds := [.str "line", pD s.place, pD (spotM s (allF s.stk) x y)]) (t := spotM s (allF s.stk) x y) (ev_var rfl) ((hR.ex e1).ex e2) (d_tup (ds_cons d_str (ds_cons (d_of (ev_fld (ev_var rfl) B2.self T.c_Runner T.a_Runner_place rfl) B2.place) (ds_cons (d_var (xv.ex e2) rfl) ds_nil))) (by show 3 ≤ 100000; decide)) rfl hl hm fun H' h1 h2 => hk _ (by simp only [deedM, stepOf, hfar]; rfl) H' h1 ((Kp.ex (e1.trans e2)).trans h2)
theorem sc_do_run : FnScope ["runner", "row", "along"] ["runner", "row"] (defScope Kd.s_do_run) := ⟨rfl, rfl, rfl, by decide +kernel, rfl, by decide +kernel, by decide +kernel⟩
theorem ok_do_run (T : Tx w K mg) : Ok Pg w K mg base (L2.CX Pg w) 43 (He.ga K "do_run") ["runner", "row"] (spDeed K fun r => ∃ p q u, r = .run p q u) := by
  refine deed_of T.f_do_run sc_do_run (fun _ _ _ _ _ _ us hl => match us, hl with | [_, _], _ => rfl) fun cdv A outer s0 H Q E hr => ⟨_, (pss_cons (ps_set (i := 2) sc_do_run.nd rfl (Or.inl rfl) (pe_fn (ok_led_direction T) (hr.mono (by decide)) T.g_led_direction pass0 (pa_cons (pe_m0 (ok_all_frames T) (hr.mono (by decide)) T.c_Runner T.m_Runner_all_frames pass0 (pv 0)) (pa_cons (pe_fn (ok_heading_of T) (hr.mono (by decide)) T.g_heading_of pass0 (pa_cons (px (pv 1)) (pa_cons (px (pv 1)) pa_nil))) pa_nil)))) (pss_one (ps_expr (pe_m (ok_make T) (hr.mono (by decide)) T.c_Runner T.m_Runner_make pass0 (pv 0) (pa_cons (pe_tup (pa_cons pe_str (pa_cons (pe_fld (pv 0) (by rfl)) (pa_cons (pe_fn (ok_added T) (hr.mono (by decide)) T.g_added pass0 (pa_cons (pe_fld (pv 0) (by rfl)) (pa_cons (pe_fn (ok_scaled T) (hr.mono (by decide)) T.g_scaled pass0 (pa_cons (pv 2) (pa_cons (px (pv 1)) pa_nil))) pa_nil))) pa_nil)))) pa_nil))))), ?_⟩
  rintro a tr fr md rs s l rest r rv ⟨p, q, u, rfl⟩ hR hv hst hr' W hz hm hf hk he
  obtain ⟨okf, hl, hp, hpq, hh, hu⟩ := hf
  refine q_asgD (K := K) (d := pD (ledD (allF s.stk) (headP p q))) (d_call (ds_cons (d_mR (ev_var rfl) hR ⟨by omega, rfl⟩ (lk_none (by decide +kernel))) (ds_cons (d_head (ds_cons (d_ix (d_var (i := 1) hv rfl) d_int (atI_nat' (j := 1) rfl)) (ds_cons (d_ix (d_var (i := 1) hv rfl) d_int (atI_nat' (j := 2) rfl)) ds_nil)) hpq.1 hpq.2.1 hpq.2.2) ds_nil)) ⟨allF s.stk, headP p q, rfl, okf, by omega, fun k => (hh k).mono (by decide), rfl⟩) fun v H1 e1 xv => ?_
  obtain ⟨dx, S, rv', plv, siv, tvs, fvs, mvs, B⟩ := hR.ex e1
  have hv1 := hv.ex e1
  have h0 : SmP 20000 (ledD (allF s.stk) (headP p q)) := hh 0
  have h1 : SmP 20020 (sclP (ledD (allF s.stk) (headP p q)) u) := ⟨h0.1.mul hu, h0.2.mul hu⟩
  refine s_make (K := K) (ds := [.str "line", pD s.place, pD (addP s.place (sclP (ledD (allF s.stk) (headP p q)) u))]) (t := addP s.place (sclP (ledD (allF s.stk) (headP p q)) u)) (ev_var rfl) (hR.ex e1) (d_tup (ds_cons d_str (ds_cons (d_of (ev_fld (ev_var rfl) B.self T.c_Runner T.a_Runner_place rfl) B.place) (ds_cons ?_ ds_nil))) (by show 3 ≤ 100000; decide)) rfl hl hm fun H' h1 h2 => hk _ rfl H' h1 ((Kp.ex e1).trans h2)
  exact d_turn (b := 401000) (c := 401000) (g := addP) (ds_cons (d_of (ev_fld (ev_var rfl) B.self T.c_Runner T.a_Runner_place rfl) B.place) (ds_cons (d_call (ds_cons (d_var xv rfl) (ds_cons (d_ix (d_var (i := 1) hv1 rfl) d_int (atI_nat' (j := 3) rfl)) ds_nil)) ⟨_, u, rfl, h0.mono (by decide), hu.mono (by decide), rfl⟩) ds_nil)) (hp.mono (by decide)) (h1.mono (by decide))
theorem sc_do_arc : FnScope ["runner", "row", "centre", "way", "spoke"] ["runner", "row"] (defScope Kd.s_do_arc) := ⟨rfl, rfl, rfl, by decide +kernel, rfl, by decide +kernel, by decide +kernel⟩
theorem ok_do_arc (T : Tx w K mg) : Ok Pg w K mg base (L2.CX Pg w) 43 (He.ga K "do_arc") ["runner", "row"] (spDeed K fun r => ∃ lf x y p q, r = .arc lf x y p q) := by
  refine deed_of T.f_do_arc sc_do_arc (fun _ _ _ _ _ _ us hl => match us, hl with | [_, _], _ => rfl) fun cdv A outer s0 H Q E hr => ⟨_, (pss_cons (ps_set (i := 2) sc_do_arc.nd rfl (Or.inl rfl) (pe_m (ok_spot T) (hr.mono (by decide)) T.c_Runner T.m_Runner_spot pass0 (pv 0) (pa_cons (px (pv 1)) (pa_cons (px (pv 1)) pa_nil)))) (pss_cons (ps_if (pt_not (pt_val (pe_fn (ok_is_far T) (hr.mono (by decide)) T.g_is_far pass0 (pa_cons (pv 2) (pa_cons (pe_fld (pv 0) (by rfl)) pa_nil))))) (pss_one (ps_raiseX T.exs.1 (ok_Uneven_init T) (hr.mono (by decide)) rfl (takes_of rfl rfl rfl rfl) rfl T.g_Uneven (pa_cons (pe_m0 (ok_row_at T) (hr.mono (by decide)) T.c_Runner T.m_Runner_row_at pass0 (pv 0)) pa_nil))) pss_nil) (pss_cons (ps_set (i := 3) sc_do_arc.nd rfl (Or.inl rfl) (pe_ifExp (pt_cmpR op_ne (pe_cmpR op_eq (px (pv 1)) pe_str (nomark _)) (pe_fn (ok_is_about T) (hr.mono (by decide)) T.g_is_about pass0 (pa_cons (pe_m0 (ok_all_frames T) (hr.mono (by decide)) T.c_Runner T.m_Runner_all_frames pass0 (pv 0)) pa_nil)) (nomark _)) pe_int (pe_un un_neg pe_int))) (pss_cons (ps_set (i := 4) sc_do_arc.nd rfl (Or.inl rfl) (pe_fn (ok_turned T) (hr.mono (by decide)) T.g_turned pass0 (pa_cons (pe_fn (ok_lessened T) (hr.mono (by decide)) T.g_lessened pass0 (pa_cons (pe_fld (pv 0) (by rfl)) (pa_cons (pv 2) pa_nil))) (pa_cons (pe_fn (ok_heading_of T) (hr.mono (by decide)) T.g_heading_of pass0 (pa_cons (pe_op op_mulW (pv 3) (px (pv 1))) (pa_cons (px (pv 1)) pa_nil))) pa_nil)))) (pss_one (ps_expr (pe_m (ok_make T) (hr.mono (by decide)) T.c_Runner T.m_Runner_make pass0 (pv 0) (pa_cons (pe_tup (pa_cons pe_str (pa_cons (pe_fld (pv 0) (by rfl)) (pa_cons (pe_fn (ok_added T) (hr.mono (by decide)) T.g_added pass0 (pa_cons (pv 2) (pa_cons (pv 4) pa_nil))) (pa_cons (pv 2) (pa_cons (pv 3) pa_nil)))))) pa_nil)))))))), ?_⟩
  rintro a tr fr md rs s l rest r rv ⟨lf, x, y, p, q, rfl⟩ hR hv hst hr' W hz hm hf hk he
  obtain ⟨okf, hl, hp, hxy, hpq⟩ := hf
  have sp := sm_spot hxy hp
  refine q_asgD (K := K) (d := pD (spotM s (allF s.stk) x y)) (d_spot (ev_var rfl) hR (d_ix (d_var (i := 1) hv rfl) d_int (atI_nat' (j := 1) rfl)) (d_ix (d_var (i := 1) hv rfl) d_int (atI_nat' (j := 2) rfl)) okf hl hp hxy) fun v H1 e1 xv => ?_
  obtain ⟨dx, S, rv', plv, siv, tvs, fvs, mvs, B⟩ := hR.ex e1
  refine q_when (b := !farP (spotM s (allF s.stk) x y) s.place) (et_not (t_B (K := K) (d_call (ds_cons (d_var xv rfl) (ds_cons (d_of (ev_fld (ev_var rfl) B.self T.c_Runner T.a_Runner_place rfl) B.place) ds_nil)) ⟨spotM s (allF s.stk) x y, s.place, rfl, sp.mono (by decide), hp.mono (by decide), rfl⟩))) (fun hb H2 e2 => ?_) fun hb H2 e2 => ?_
  · have hfar : farP s.place (spotM s (allF s.stk) x y) = false := by rw [far_sym]; simpa using hb
    exact s_raiseX (K := K) (W := fun cls d _ H => E cls d H) (C := He.ga K "Uneven") (f := "row") (n := l.row) (ds_cons (d_mR (K := K) (g := gRowAt) (d := .int l.row) (m := "row_at") (E := E) (ev_var rfl) (hR.ex (e1.trans e2)) ⟨l, rest, hst, rfl⟩ (lk_none (by decide +kernel))) ds_nil) fun dd H' h1 h2 h3 => he (.uneven l.row) (by simp only [deedM, stepOf, hfar]; rfl) dd H' (fresh_back (e1.trans e2) h1) ((Kp.ex (e1.trans e2)).trans (Kp.ex h2)) h3
  · have hfar : farP s.place (spotM s (allF s.stk) x y) = true := by rw [far_sym]; simpa using hb
    have hR2 := (hR.ex e1).ex e2
    have hv2 := (hv.ex e1).ex e2
    refine q_asgD (K := K) (d := .int (if (lf != aboutF (allF s.stk)) = true then 1 else -1)) ?_ fun vw H3 e3 xw => ?_
    · refine d_if (b := lf != aboutF (allF s.stk)) ?_ (fun h => by rw [h, if_pos rfl]; exact d_int) fun h => by rw [h, if_neg (by decide)]; exact d_m1
      refine et_is (a := !decide (decide (wordR (.arc lf x y p q) = "left") = aboutF (allF s.stk))) (t_test (K := K) (d_neB (d_eqS (a := wordR (.arc lf x y p q)) (d_ix (d_var (i := 1) hv2 rfl) d_int (atI_nat' (j := 0) rfl)) d_str) (d_call (ds_cons (d_mR (K := K) (g := gAll) (d := frsD (allF s.stk)) (m := "all_frames") (E := E) (ev_var rfl) hR2 ⟨by omega, rfl⟩ (lk_none (by decide +kernel))) ds_nil) ⟨allF s.stk, rfl, by omega, rfl⟩))) ?_
      have ew : decide (wordR (.arc lf x y p q) = "left") = lf := by cases lf <;> rfl
      rw [ew]
      cases lf <;> cases aboutF (allF s.stk) <;> rfl
    rw [xw.int_eq]
    have hv3 := hv2.ex e3
    obtain ⟨dx, S, rv', plv, siv, tvs, fvs, mvs, B3⟩ := hR2.ex e3
    have xv3 := (xv.ex e2).ex e3
    generalize hw : (if (lf != aboutF (allF s.stk)) = true then (1 : Int) else -1) = way
    have hway : way = 1 ∨ way = -1 := by rw [← hw]; split <;> simp
    have hpq' : FitPQ (way * p) q := by
      obtain ⟨h1, h2, h3⟩ := hpq
      refine ⟨fun ⟨z1, z2⟩ => h1 ⟨?_, z2⟩, ?_, h3⟩
      · rcases hway with e | e <;> rw [e] at z1 <;> omega
      · rcases hway with e | e <;> rw [e] <;> omega
    have hs1 : SmP 60002 (subP s.place (spotM s (allF s.stk) x y)) := (hp.sub sp).mono (by decide)
    have hh := sm_head hpq'.1 hpq'.2.1 hpq'.2.2
    have hs2 : SmP 121000 (trnP (subP s.place (spotM s (allF s.stk) x y)) (headP (way * p) q)) := (sm_trn hs1 hh).mono (by decide)
    refine q_asgD (K := K) (d := pD (trnP (subP s.place (spotM s (allF s.stk) x y)) (headP (way * p) q))) ?_ fun vs H4 e4 xs => ?_
    · exact d_turn (ds_cons (d_turn (b := 401000) (c := 401000) (g := subP) (ds_cons (d_of (ev_fld (ev_var rfl) B3.self T.c_Runner T.a_Runner_place rfl) B3.place) (ds_cons (d_var xv3 rfl) ds_nil)) (hp.mono (by decide)) (sp.mono (by decide))) (ds_cons (d_head (ds_cons (d_iC (f := fun i j => i * j) (d_vint rfl) (d_ix (d_var (i := 1) hv3 rfl) d_int (atI_nat' (j := 3) rfl)) (mulC (a := 1) (b := 7) (by rcases hway with e | e <;> rw [e] <;> decide) hpq.2.1 (by decide))) (ds_cons (d_ix (d_var (i := 1) hv3 rfl) d_int (atI_nat' (j := 4) rfl)) ds_nil)) hpq'.1 hpq'.2.1 hpq'.2.2) ds_nil)) (hs1.mono (by decide)) (hh.mono (by decide))
    have B4 := B3.ex e4
    refine s_make (K := K) (ds := [.str "arc", pD s.place, pD (addP (spotM s (allF s.stk) x y) (trnP (subP s.place (spotM s (allF s.stk) x y)) (headP (way * p) q))), pD (spotM s (allF s.stk) x y), .int way]) (t := addP (spotM s (allF s.stk) x y) (trnP (subP s.place (spotM s (allF s.stk) x y)) (headP (way * p) q))) (ev_var rfl) ((hR2.ex e3).ex e4)
      (d_tup (ds_cons d_str (ds_cons (d_of (ev_fld (ev_var rfl) B4.self T.c_Runner T.a_Runner_place rfl) B4.place) (ds_cons (d_turn (b := 401000) (c := 401000) (g := addP) (ds_cons (d_var (xv3.ex e4) rfl) (ds_cons (d_var xs rfl) ds_nil)) (sp.mono (by decide)) (hs2.mono (by decide))) (ds_cons (d_var (xv3.ex e4) rfl) (ds_cons (d_vint rfl) ds_nil))))) (by show 5 ≤ 100000; decide)) rfl hl hm fun H' h1 h2 => hk _ ?_ H' h1 ((Kp.ex (((e1.trans e2).trans e3).trans e4)).trans h2)
    simp only [deedM, stepOf, hfar, hw]; rfl
end
end Kx

set_option Elab.async false
set_option linter.all false
set_option maxRecDepth 100000
set_option maxHeartbeats 4000000
namespace Kx
open PySem PySem.Spec PyProof.Rows L2 Evl HT
section
variable {w : World} {K : PySem.W.Frag} {mg : Str → Option Value} {base : Heap}
theorem sc_do_frame : FnScope ["runner", "row"] ["runner", "row"] (defScope Kd.s_do_frame) := ⟨rfl, rfl, rfl, by decide +kernel, rfl, by decide +kernel, by decide +kernel⟩
theorem ok_do_frame (T : Tx w K mg) : Ok Pg w K mg base (L2.CX Pg w) 4 (He.ga K "do_frame") ["runner", "row"] (spDeed K fun r => ∃ f, r = .frame f) := by
  refine deed_of T.f_do_frame sc_do_frame (fun _ _ _ _ _ _ us hl => match us, hl with | [_, _], _ => rfl) fun cdv A outer s0 H Q E hr => ⟨_, (pss_cons (ps_if (pt_cmpR op_eq (pe_callB call_len_seq (by rfl) T.b_len PySem.boot_len (pa_cons (pe_m0 (ok_all_frames T) (hr.mono (by decide)) T.c_Runner T.m_Runner_all_frames pass0 (pv 0)) pa_nil)) (pgi T.n_MOST_FRAMES) (nomark _)) (pss_one (ps_raiseX T.exs.2.1 (ok_NoFrame_init T) (hr.mono (by decide)) rfl (takes_of rfl rfl rfl rfl) rfl T.g_NoFrame (pa_cons (pe_m0 (ok_row_at T) (hr.mono (by decide)) T.c_Runner T.m_Runner_row_at pass0 (pv 0)) pa_nil))) pss_nil) (pss_one (ps_asg (pe_op op_catA (pe_ix ix_list (pe_fld (pv 0) (by rfl)) (pe_un un_neg pe_int) fun _ _ => rfl) (pe_tup (pa_cons (pv 1) pa_nil))) (pg_sub (pe_fld (pv 0) (by rfl)) (pe_un un_neg pe_int) set_list)))), ?_⟩
  rintro a tr fr md rs s l rest r rv ⟨f, rfl⟩ hR hv hst hr' W hz hm hf hk he
  obtain ⟨okf, hl, hp, _⟩ := hf
  refine q_when (b := decide (((allF s.stk).length : Int) = 8)) (t_test (K := K) (d_eqI (by have q := d_lenT (K := K) (d_mR (K := K) (σ := start ["runner", "row"] [.ref a, rv]) (H := H) (ta := tVar 0) (g := gAll) (d := frsD (allF s.stk)) (m := "all_frames") (E := E) (ev_var rfl) hR ⟨by omega, rfl⟩ (lk_none (by decide +kernel))); rw [List.length_map] at q; exact q) d_int)) (fun hb H1 e1 => ?_) fun hb H1 e1 => ?_
  · have h8 : (allF s.stk).length = 8 := by have := of_decide_eq_true hb; omega
    exact s_raiseX (K := K) (W := fun cls d _ H => E cls d H) (C := He.ga K "NoFrame") (f := "row") (n := l.row) (ds_cons (d_mR (K := K) (g := gRowAt) (d := .int l.row) (m := "row_at") (E := E) (ev_var rfl) (hR.ex e1) ⟨l, rest, hst, rfl⟩ (lk_none (by decide +kernel))) ds_nil) fun dd H' h1 h2 h3 => he (.frame l.row) (by simp only [deedM, h8]; rfl) dd H' (fresh_back e1 h1) ((Kp.ex e1).trans (Kp.ex h2)) h3
  · have h8 : ¬ (allF s.stk).length = 8 := by have := of_decide_eq_false hb; omega
    obtain ⟨dx, S, rv', plv, siv, tvs, fvs, mvs, B⟩ := hR.ex e1
    have fd := B.framesD
    rw [hst, frssD_cons] at fd
    obtain ⟨y, hy1, hy2⟩ := fd.at (atI_last _ _)
    have hv1 := hv.ex e1
    rw [rowD_frame] at hv1
    refine s_lastD (K := K) (l := fr) (d' := frsD (l.frs ++ [f])) ?_ (ev_fld (ta := tVar 0) (ev_var rfl) B.self T.c_Runner T.a_Runner_frames rfl) d_m1 B.frames fd fun v H5 e5 _ h5 => ?_
    · have lz : (l.frs.map frD).length + ([frD f] : List PyData).length ≤ 100000 := by
        have : l.frs.length ≤ (allF s.stk).length := by
          rw [hst]; unfold allF; rw [List.reverse_cons, List.map_append, List.flatten_append]; simp
        rw [List.length_map]; simp; omega
      have q := d_catT (K := K) (d_ixL (ev_fld (ta := tVar 0) (σ := start ["runner", "row"] [.ref a, rv]) (ev_var rfl) B.self T.c_Runner T.a_Runner_frames rfl) (sq_of B.frames) d_m1 hy1 hy2) (d_tup (ds_cons (d_var (i := 1) hv1 rfl) ds_nil) (by show 1 ≤ 100000; decide)) lz
      rw [show (l.frs.map frD) ++ [frD f] = (l.frs ++ [f]).map frD by rw [List.map_append]; rfl] at q
      exact q
    · refine hk { s with stk := { l with frs := l.frs ++ [f] } :: rest } (by simp only [deedM, h8]; rfl) _ ?_ ((Kp.ex (e1.trans e5)).trans (.wr (by simp)))
      exact runAt_of (s := s) ((B.ex e5).wFrames h5) (by rw [hst, trailD_cons, trailD_cons]) (by rw [frssD_cons])
theorem sc_do_back : FnScope ["runner", "row"] ["runner", "row"] (defScope Kd.s_do_back) := ⟨rfl, rfl, rfl, by decide +kernel, rfl, by decide +kernel, by decide +kernel⟩
theorem ok_do_back (T : Tx w K mg) : Ok Pg w K mg base (L2.CX Pg w) 4 (He.ga K "do_back") ["runner", "row"] (spDeed K fun r => r = .back) := by
  refine deed_of T.f_do_back sc_do_back (fun _ _ _ _ _ _ us hl => match us, hl with | [_, _], _ => rfl) fun cdv A outer s0 H Q E hr => ⟨_, (pss_cons (ps_if (pt_cmpR (op_eqD hr.units) (pe_ix ix_list (pe_fld (pv 0) (by rfl)) (pe_un un_neg pe_int) fun _ _ => rfl) (pe_tup pa_nil) (nomark _)) (pss_one (ps_raiseX T.exs.2.1 (ok_NoFrame_init T) (hr.mono (by decide)) rfl (takes_of rfl rfl rfl rfl) rfl T.g_NoFrame (pa_cons (pe_m0 (ok_row_at T) (hr.mono (by decide)) T.c_Runner T.m_Runner_row_at pass0 (pv 0)) pa_nil))) pss_nil) (pss_one (ps_asg (pe_slice sl_tupA (pe_ix ix_list (pe_fld (pv 0) (by rfl)) (pe_un un_neg pe_int) fun _ _ => rfl) po_none (po_some (pe_un un_neg pe_int))) (pg_sub (pe_fld (pv 0) (by rfl)) (pe_un un_neg pe_int) set_list)))), ?_⟩
  rintro a tr fr md rs s l rest r rv rfl hR hv hst hr' W hz hm hf hk he
  obtain ⟨okf, hl, hp, _⟩ := hf
  obtain ⟨dx, S, rv', plv, siv, tvs, fvs, mvs, B⟩ := id hR
  have fd := B.framesD
  rw [hst, frssD_cons] at fd
  obtain ⟨y, hy1, hy2⟩ := fd.at (atI_last _ _)
  refine q_when (b := decide (l.frs = [])) (t_test (K := K) (by have q := eq_ev (K := K) (d_ixL (ev_fld (ta := tVar 0) (σ := start ["runner", "row"] [.ref a, rv]) (ev_var rfl) B.self T.c_Runner T.a_Runner_frames rfl) (sq_of B.frames) d_m1 hy1 hy2) (d_tup ds_nil (by show 0 ≤ 100000; decide)) ((shp_frsD l.frs).shaped (by decide)) (by decide +kernel); rw [eqv_frs] at q; exact q)) (fun hb H1 e1 => ?_) fun hb H1 e1 => ?_
  · have h8 : l.frs = [] := of_decide_eq_true hb
    exact s_raiseX (K := K) (W := fun cls d _ H => E cls d H) (C := He.ga K "NoFrame") (f := "row") (n := l.row) (ds_cons (d_mR (K := K) (g := gRowAt) (d := .int l.row) (m := "row_at") (E := E) (ev_var rfl) (hR.ex e1) ⟨l, rest, hst, rfl⟩ (lk_none (by decide +kernel))) ds_nil) fun dd H' h1 h2 h3 => he (.frame l.row) (by simp only [deedM, h8]; rfl) dd H' (fresh_back e1 h1) ((Kp.ex e1).trans (Kp.ex h2)) h3
  · have h8 : ¬ l.frs = [] := of_decide_eq_false hb
    replace B := B.ex e1
    replace fd := fd.ex e1
    refine s_lastD (K := K) (l := fr) (d' := frsD l.frs.dropLast) ?_ (ev_fld (ta := tVar 0) (ev_var rfl) B.self T.c_Runner T.a_Runner_frames rfl) d_m1 B.frames fd fun v H5 e5 _ h5 => ?_
    · have q := d_slT (K := K) (d_ixL (ev_fld (ta := tVar 0) (σ := start ["runner", "row"] [.ref a, rv]) (ev_var rfl) B.self T.c_Runner T.a_Runner_frames rfl) (sq_of B.frames) d_m1 hy1 (hy2.ex e1)) eo_none (eo_some (d_m1 (K := K)).int)
      rw [cut_last, ← List.map_dropLast] at q
      exact q
    · refine hk { s with stk := { l with frs := l.frs.dropLast } :: rest } (by simp only [deedM, h8]; rfl) _ ?_ ((Kp.ex (e1.trans e5)).trans (.wr (by simp)))
      exact runAt_of (s := s) ((B.ex e5).wFrames h5) (by rw [hst, trailD_cons, trailD_cons]) (by rw [frssD_cons])
theorem sc_do_call : FnScope ["runner", "row"] ["runner", "row"] (defScope Kd.s_do_call) := ⟨rfl, rfl, rfl, by decide +kernel, rfl, by decide +kernel, by decide +kernel⟩
theorem ok_do_call (T : Tx w K mg) : Ok Pg w K mg base (L2.CX Pg w) 4 (He.ga K "do_call") ["runner", "row"] (spDeed K fun r => ∃ nm n, r = .call nm n) := by
  refine deed_of T.f_do_call sc_do_call (fun _ _ _ _ _ _ us hl => match us, hl with | [_, _], _ => rfl) fun cdv A outer s0 H Q E hr => ⟨_, (pss_cons (ps_if (pt_cmpR op_gt (pe_callB call_len_seq (by rfl) T.b_len PySem.boot_len (pa_cons (pe_fld (pv 0) (by rfl)) pa_nil)) (pgi T.n_MOST_CALLS) (nomark _)) (pss_one (ps_raiseX T.exs.2.2.1 (ok_TooDeep_init T) (hr.mono (by decide)) rfl (takes_of rfl rfl rfl rfl) rfl T.g_TooDeep (pa_cons (pe_m0 (ok_row_at T) (hr.mono (by decide)) T.c_Runner T.m_Runner_row_at pass0 (pv 0)) pa_nil))) pss_nil) (pss_one (ps_expr (pe_m0 (ok_enter T) (hr.mono (by decide)) T.c_Runner T.m_Runner_enter pass0 (pv 0))))), ?_⟩
  rintro a tr fr md rs s l rest r rv ⟨nm, n, rfl⟩ hR hv hst hr' W hz hm hf hk he
  obtain ⟨dx, S, rv', plv, siv, tvs, fvs, mvs, B⟩ := id hR
  have lt : tvs.length = (trailD s.stk).length := B.trailD.len
  have lt2 : (trailD s.stk).length = s.stk.length := by unfold trailD; simp
  refine q_when (b := decide ((s.stk.length : Int) > 8)) (t_test (K := K) (d_ib (f := fun i j => decide (i > j)) (by have q := d_lenK (K := K) (ev_fld (ta := tVar 0) (σ := start ["runner", "row"] [.ref a, rv]) (ev_var rfl) B.self T.c_Runner T.a_Runner_trail rfl) (sq_of B.trail) lt; rw [lt2] at q; exact q) d_int)) (fun hb H1 e1 => ?_) fun hb H1 e1 => ?_
  · have h8 : 8 < s.stk.length := by have := of_decide_eq_true hb; omega
    exact s_raiseX (K := K) (W := fun cls d _ H => E cls d H) (C := He.ga K "TooDeep") (f := "row") (n := l.row) (ds_cons (d_mR (K := K) (g := gRowAt) (d := .int l.row) (m := "row_at") (E := E) (ev_var rfl) (hR.ex e1) ⟨l, rest, hst, rfl⟩ (lk_none (by decide +kernel))) ds_nil) fun dd H' h1 h2 h3 => he (.deep l.row) (by simp only [deedM, h8]; rfl) dd H' (fresh_back e1 h1) ((Kp.ex e1).trans (Kp.ex h2)) h3
  · have h8 : ¬ 8 < s.stk.length := by have := of_decide_eq_false hb; omega
    refine s_mW (K := K) (ev_var rfl) (hR.ex e1) ⟨l, rest, nm, n, hst, hr', (W.calls nm n (List.mem_of_getElem? hr')).1, hz, rfl⟩ (lk_none (by decide +kernel)) fun H2 h2 k2 => ?_
    exact hk { s with stk := ⟨begOf rs nm, 0, []⟩ :: l :: rest } (by simp only [deedM, h8]; rfl) H2 (by rw [hst] at h2; exact h2) ((Kp.ex e1).trans k2)
end
end Kx

set_option Elab.async false
set_option linter.all false
set_option maxRecDepth 100000
set_option maxHeartbeats 4000000
namespace Kx
open PySem PySem.Spec PyProof.Rows L2 Evl HT
/-! ### the module's tables; a call of what a local name holds -/
section
variable {X : Cx} {d : Addr} {es : Array DictEntry} {n : Nat} {CX : CXT} {k i : Nat} {f : Addr} {sp : Sp} {E : XK} {x : Str} {p pos apos : Pos} {e o : Expr} {el : List Expr} {t : TA} {to te : TE}
def rKd (K : PySem.W.Frag) (d : Addr) : R2 := fun x y H Q => ∃ (z : Str) (u0 : Value) (v0 : V), x = .ref d ∧ y = .str z ∧ PySem.W.nsIn K d z = some (some u0) ∧ RelV v0 u0 ∧ Q v0 H
theorem ix_kd (D : KDict X.K X.w d es n) : IxR X (rKd X.K d) := by
  intro value slice pins s σ H x y v u Q I rx ry h hs
  obtain ⟨z, u0, v0, rfl, q⟩ := id h
  cases rx
  exact tail_any (ops := [.ref d, u]) (kd_type D I) PySem.F.slot_dict_getitem.lookup (op_item_kd D pins s σ H (.ref d) y _ u Q I (show RelV (.ref d) (.ref d) from rfl) ry h) hs
def tKdGet (K : PySem.W.Frag) (d : Addr) (td ty : TE) : TE := fun σ H Q => td σ H fun x H1 => x = .ref d ∧ ty σ H1 fun y H2 => ∃ (z : Str) (u0 : Value) (v0 : V), y = .str z ∧ PySem.W.nsIn K d z = some (some u0) ∧ RelV v0 u0 ∧ Q v0 H2
theorem pe_kdget (D : KDict X.K X.w d es n) (ho : PE X o to) (he : PE X e te) (m : M1 X o "get" apos e pos) : PE X (.Call (.Attribute o "get" apos) [e] [] pos) (tKdGet X.K d to te) := by
  refine ⟨fun pins s σ H Q I h => ?_⟩
  refine wpAny_Call_method m.base m.few m.line PySem.F.plainAttrs_dict PySem.F.slot_dict_get PySem.F.type_dict_get (thn (ho.run pins s σ H _ I h) fun u s1 ⟨x, H1, I1, rx, ex, q1⟩ => ?_)
  subst ex
  obtain rfl : u = Value.ref d := rx
  have hM := PySem.W.mapOf_K (prog := X.prog) (w := X.w) I1.kIn D.at_ D.lit
  refine ⟨kd_type D I1, fun b q => ?_, ?_⟩
  · cases q
    exact ⟨_, I1.kIn _ _ D.at_, rfl⟩
  rw [m.trees]
  refine Calls.callWith_builtin rfl (Calls.evalArgs_plain (Calls.spliced_cons (thn (he.run pins s1 σ H1 _ I1 q1) fun iv s2 ⟨y, H2, I2, ry, z, u0, v0, ey, hn, rv, q2⟩ => Calls.spliced_nil ?_)))
  subst ey
  obtain ⟨t, rfl⟩ := ry
  refine call_meetsIn PySem.F.slot_dict_get (kd_type D I2) PySem.F.entry_dict_get (PySem.F.args_dict_get_2 _ _) (meets_dict_get (PySem.strKind X.prog X.w) d (PySem.strKind_is X.prog X.w z t) D.low) ⟨_, PySem.W.mapOf_K (prog := X.prog) (w := X.w) I2.kIn D.at_ D.lit, ?_⟩
  rw [PySem.W.find_K D.at_ hn]
  exact ⟨v0, H2, I2.tok _, rv, q2⟩
/-- of several defs that the slot may hold; they may raise -/
structure HeldX (P : Program) (w : World) (K : PySem.W.Frag) (mg : Str → Option Value) (base : Heap) (CX : CXT) (k : Nat) (f : Addr) (sp : Sp) : Prop where
  ex : ∃ ps, Ok P w K mg base CX k f ps sp
def tCallX (i : Nat) (S : Addr → Sp → Prop) (E : XK) (t : TA) : TE := fun σ H Q => ∃ f sp, σ[i]? = some (some (.ref f)) ∧ S f sp ∧ t σ H fun vs H1 => sp vs H1 Q E
theorem pe_callX {S : Addr → Sp → Prop} (A : ∀ f sp, S f sp → HeldX X.prog X.w X.K X.mg X.base CX k f sp) (hr : Room k X.A) (hN : X.N[i]? = some x) (hv : Vis X.env.scope x) (hx : Passes CX X E) (ha : PA X (e :: el) t)
    (hdb : (x == ("__debug__" : Str)) = false := by decide) (hcd : (x == ("__classdict__" : Str)) = false := by decide)
    (he : starEach (e :: el) X.env = (false, eval e X.env) :: starEach el X.env := by rfl) (hpl : (backTo pos (starEach el X.env)).any (·.1) = false := by rfl) : PE X (.Call (.Name x p) (e :: el) [] pos) (tCallX i S E t) := by
  refine ⟨fun pins s σ H Q I h => ?_⟩
  obtain ⟨f, sp, hs, hS, ht⟩ := h
  obtain ⟨ps, O⟩ := (A f sp hS).ex
  obtain ⟨⟨fd, F, hb⟩, hk⟩ := O
  refine (pe_callL (i := i) (f := f) (sp := sp) (dvs := []) (E := E) F hr hN hv hk hb .nil hx ha hdb hcd he hpl).run pins s σ H Q I ⟨hs, ?_⟩
  have e0 : (fun (vs : List V) (H1 : Hp) => sp (vs ++ []) H1 Q E) = fun vs H1 => sp vs H1 Q E := by
    funext vs H1
    rw [List.append_nil]
  show t σ H (fun vs H1 => sp (vs ++ []) H1 Q E)
  rw [e0]
  exact ht
end
section
variable {w : World} {K : PySem.W.Frag} {mg : Str → Option Value}
theorem Tx.tabS (T : Tx w K mg) : ∃ es n, KDict K w (He.ga K "SHAPES") es n := He.SaysT.tab T.told.1 0 (t := ((fun K => He.ga K "SHAPES"), _)) rfl
theorem Tx.tabR (T : Tx w K mg) : ∃ es n, KDict K w (He.ga K "READERS") es n := He.SaysT.tab T.told.1 1 (t := ((fun K => He.ga K "READERS"), _)) rfl
theorem Tx.tabD (T : Tx w K mg) : ∃ es n, KDict K w (He.ga K "DEEDS") es n := He.SaysT.tab T.told.1 2 (t := ((fun K => He.ga K "DEEDS"), _)) rfl
theorem Tx.vals (T : Tx w K mg) : He.tupB K "STEP_WORDS" Kd.kv_STEP = true ∧ He.valsB K (He.ga K "SHAPES") Kd.kv_SHAPES = true ∧ He.valsB K (He.ga K "READERS") Kd.kv_READERS = true ∧ He.valsB K (He.ga K "DEEDS") Kd.kv_DEEDS = true := by
  have z := T.more
  unfold Kd.ex at z
  simp only [Bool.and_eq_true] at z
  exact ⟨by simp only [z], by simp only [z], by simp only [z], by simp only [z]⟩
def deedN : Row → Str
  | .hop .. => "do_hop" | .cut .. => "do_cut" | .run .. => "do_run" | .arc .. => "do_arc" | .mode _ => "do_mode" | .pace _ => "do_pace" | .side _ => "do_side" | .frame _ => "do_frame" | .back => "do_back" | .call .. => "do_call" | _ => ""
theorem Tx.deed (T : Tx w K mg) {r : Row} (h : plain r = true) : ∃ u, PySem.W.nsIn K (He.ga K "DEEDS") (wordR r) = some (some u) ∧ RelV (.ref (He.ga K (deedN r))) u := by
  have q : ∀ {a b : Str}, (a, He.Dv.glo b) ∈ Kd.kv_DEEDS → ∃ u, PySem.W.nsIn K (He.ga K "DEEDS") a = some (some u) ∧ RelV (.ref (He.ga K b)) u := fun h => He.valsB_ok T.vals.2.2.2 h
  cases r with
  | arc lf x y p q' => cases lf <;> exact q (by simp [Kd.kv_DEEDS, wordR, deedN])
  | mode b => cases b <;> exact q (by simp [Kd.kv_DEEDS, wordR, deedN])
  | frame f => cases f <;> exact q (by simp [Kd.kv_DEEDS, wordR, deedN])
  | piece _ => cases h
  | fin => cases h
  | _ => exact q (by simp [Kd.kv_DEEDS, wordR, deedN])
end
end Kx

set_option Elab.async false
set_option linter.all false
set_option maxRecDepth 100000
set_option maxHeartbeats 4000000
namespace Kx
open PySem PySem.Spec PyProof.Rows L2 Evl HT
section
variable {w : World} {K : PySem.W.Frag} {mg : Str → Option Value} {base : Heap}
def deedP : Row → Row → Prop
  | .hop .. => fun r => ∃ x y, r = .hop x y
  | .cut .. => fun r => ∃ x y, r = .cut x y
  | .run .. => fun r => ∃ p q u, r = .run p q u
  | .arc .. => fun r => ∃ lf x y p q, r = .arc lf x y p q
  | .mode _ => fun r => ∃ b, r = .mode b
  | .pace _ => fun r => ∃ g, r = .pace g
  | .side _ => fun r => ∃ u, r = .side u
  | .frame _ => fun r => ∃ f, r = .frame f
  | .back => fun r => r = .back
  | .call .. => fun r => ∃ nm n, r = .call nm n
  | _ => fun _ => False
theorem deedP_self {r : Row} (h : plain r = true) : deedP r r := by
  cases r with
  | piece _ => cases h
  | fin => cases h
  | hop x y => exact ⟨_, _, rfl⟩
  | cut x y => exact ⟨_, _, rfl⟩
  | run x y z => exact ⟨_, _, _, rfl⟩
  | arc a x y z u => exact ⟨_, _, _, _, _, rfl⟩
  | mode x => exact ⟨_, rfl⟩
  | pace x => exact ⟨_, rfl⟩
  | side x => exact ⟨_, rfl⟩
  | frame x => exact ⟨_, rfl⟩
  | back => exact rfl
  | call x y => exact ⟨_, _, rfl⟩
def SDeed (K : PySem.W.Frag) (f : Addr) (sp : Sp) : Prop := ∃ r, plain r = true ∧ f = He.ga K (deedN r) ∧ sp = spDeed K (deedP r)
theorem held_deed (T : Tx w K mg) (f : Addr) (sp : Sp) (h : SDeed K f sp) : HeldX Pg w K mg base (L2.CX Pg w) 43 f sp := by
  obtain ⟨r, hp, rfl, rfl⟩ := h
  cases r with
  | piece _ => cases hp
  | fin => cases hp
  | hop x y => exact ⟨_, ok_do_hop T⟩
  | cut x y => exact ⟨_, ok_do_cut T⟩
  | run x y z => exact ⟨_, ok_do_run T⟩
  | arc a x y z u => exact ⟨_, ok_do_arc T⟩
  | mode x => exact ⟨_, (ok_do_mode T).mono (by decide)⟩
  | pace x => exact ⟨_, (ok_do_pace T).mono (by decide)⟩
  | side x => exact ⟨_, (ok_do_side T).mono (by decide)⟩
  | frame x => exact ⟨_, (ok_do_frame T).mono (by decide)⟩
  | back => exact ⟨_, (ok_do_back T).mono (by decide)⟩
  | call x y => exact ⟨_, (ok_do_call T).mono (by decide)⟩
theorem word_step {r : Row} (h : plain r = true) : inV (.str (wordR r)) (Kd.kv_STEP.map (He.Dv.v K)) = isStep r := by
  cases r with
  | piece _ => cases h
  | fin => cases h
  | arc lf x y p q => cases lf <;> rfl
  | mode b => cases b <;> rfl
  | frame f => cases f <;> rfl
  | _ => rfl
theorem word_call {r : Row} : decide (wordR r = "call") = isCall r := by
  cases r with
  | arc lf x y p q => cases lf <;> rfl
  | mode b => cases b <;> rfl
  | frame f => cases f <;> rfl
  | _ => rfl
def spRow (K : PySem.W.Frag) : Sp := fun vs H Q E => ∃ a tr fr md rs s l rest r, vs = [.ref a] ∧ RunAt K H a tr fr md rs s ∧ s.stk = l :: rest ∧ rs[l.row]? = some r ∧ plain r = true ∧ WfR rs ∧ Chain rs l rest ∧ l.turn = 0 ∧ s.stk.length ≤ 9 ∧ s.made.length ≤ 100 ∧ FitRow s r ∧
  (∀ s' n st, doRow rs s l rest r = .ok s' → Sett rs n s'.stk st → ∀ H', RunAt K H' a tr fr md rs { s' with stk := st } → Kp [a, tr, fr, md] H H' → Q .non H') ∧ ∀ b, doRow rs s l rest r = .error b → ExcP K [a, tr, fr, md] H E b
theorem sc_do_row : FnScope ["self", "row", "deed"] ["self"] (defScope Kd.s_Runner_do_row) := ⟨rfl, rfl, rfl, by decide +kernel, rfl, by decide +kernel, by decide +kernel⟩
theorem s_raiseM {K : PySem.W.Frag} {σ : L2.St} {H : Hp} {E : XK} {n : Int} {t : TA} {L : List Addr} {b : Bad} (ha : EvDs K t σ H [.int n]) (hc : He.ga K "TooMany" = He.ga K (clsB b)) (hf : ("most" : Str) = fldB b) (hn : n = numB b) (he : ExcP K L H E b) :
    tMkO (He.ga K "TooMany") (spXi K (He.ga K "TooMany") "most") [] t σ H fun cls d H' => E cls d H' :=
  s_raiseX (W := fun cls d _ H => E cls d H) ha fun dd H' h1 h2 h3 => by
    rw [hc]
    exact he dd H' h1 (Kp.ex h2) (by rw [← hf, ← hn]; exact h3)
theorem ok_do_row (T : Tx w K mg) : Ok Pg w K mg base (L2.CX Pg w) 44 (He.ma K (CR K) "do_row") ["self"] (spRow K) := by
  refine ok_of T.f_Runner_do_row sc_do_row (fun vs H Q E h => by obtain ⟨a, _, _, _, _, _, _, _, _, rfl, _⟩ := h; rfl) (fun _ _ _ _ _ _ us hl => match us, hl with | [_], _ => rfl) fun cdv A outer s0 H vs Q E hr h => ?_
  obtain ⟨a, tr, fr, md, rs, s, l, rest, r, rfl, hR, hst, hr', hp, W, hch, ht, hz, hm, hf, hk, he⟩ := h
  obtain ⟨es, n, D⟩ := T.tabD
  refine ⟨_, (pss_cons (ps_if (pt_cmpR op_eq (pe_fld (pv 0) (by rfl)) (pgi T.n_MOST_DONE) (nomark _)) (pss_one (ps_raiseX T.exs.2.2.2 (ok_TooMany_init T) (hr.mono (by decide)) rfl (takes_of rfl rfl rfl rfl) rfl T.g_TooMany (pa_cons (pgi T.n_MOST_DONE) pa_nil))) pss_nil)
    (pss_cons (ps_set (i := 1) sc_do_row.nd rfl (Or.inl rfl) (pe_ix ix_tup (pe_fld (pv 0) (by rfl)) (pe_m0 (ok_row_at T) (hr.mono (by decide)) T.c_Runner T.m_Runner_row_at pass0 (pv 0)) fun _ _ => rfl))
    (pss_cons (ps_if (PW.pt (pw_and (pt_cmpR op_in_seq (px (pv 1)) (pgl T.g_STEP_WORDS) (by rfl)) (pw_and1 (pt_cmpR op_eq (pe_callB call_len_seq (by rfl) T.b_len PySem.boot_len (pa_cons (pe_fld (pv 0) (by rfl)) pa_nil)) (pgi T.n_MOST_STEPS) (nomark _))))) (pss_one (ps_raiseX T.exs.2.2.2 (ok_TooMany_init T) (hr.mono (by decide)) rfl (takes_of rfl rfl rfl rfl) rfl T.g_TooMany (pa_cons (pgi T.n_MOST_STEPS) pa_nil))) pss_nil)
    (pss_cons (ps_set (i := 2) sc_do_row.nd rfl (Or.inl rfl) (pe_ix (ix_kd D) (pgl T.g_DEEDS) (px (pv 1)) fun _ _ => rfl))
    (pss_cons (ps_expr (pe_callX (i := 2) (E := E) (held_deed T) hr rfl (.inl rfl) (passes_call (takes_of rfl rfl rfl rfl) fun _ _ _ _ h => h) (pa_cons (pv 0) (pa_cons (pv 1) pa_nil))))
    (pss_cons (ps_fldaug (pv 0) pe_int in_add)
    (pss_cons (ps_if (pt_cmpR op_ne (px (pv 1)) pe_str (nomark _)) (pss_one (ps_asg (pe_tup (pa_cons (pe_op op_add (pe_m0 (ok_row_at T) (hr.mono (by decide)) T.c_Runner T.m_Runner_row_at pass0 (pv 0)) pe_int) (pa_cons pe_int pa_nil))) (pg_sub (pe_fld (pv 0) (by rfl)) (pe_un un_neg pe_int) set_list))) pss_nil)
    (pss_one (ps_expr (pe_m0 (ok_settle T) (hr.mono (by decide)) T.c_Runner T.m_Runner_settle pass0 (pv 0))))))))))), ?_⟩
  obtain ⟨dx, S, rv, plv, siv, tvs, fvs, mvs, b⟩ := id hR
  refine q_when (b := decide ((s.many : Int) = 2000)) (t_test (K := K) (d_eqI (d_of (ev_fld (ev_var rfl) b.self T.c_Runner T.a_Runner_many rfl) (.int _)) d_int)) (fun hb H1 e1 => ?_) fun hb H1 e1 => ?_
  · have h8 : s.many = 2000 := by have := of_decide_eq_true hb; omega
    have he' : ExcP K [a, tr, fr, md] H1 E (.many 2000) := fun dd H' h1 h2 h3 => he (.many 2000) (by unfold doRow; rw [if_pos h8]) dd H' (fresh_back e1 h1) ((Kp.ex e1).trans h2) h3
    exact s_raiseM (ds_cons d_int ds_nil) rfl rfl rfl he'
  have hm0 : ¬ s.many = 2000 := by have := of_decide_eq_false hb; omega
  replace hR := hR.ex e1
  refine q_asgD (K := K) (d := rowD r) (d_rowH T (ev_var rfl) (ev_var rfl) hR hst hr') fun v H2 e2 xr => ?_
  replace hR := hR.ex e2
  have e12 := e1.trans e2
  obtain ⟨dx, S, rv, plv, siv, tvs, fvs, mvs, b⟩ := id hR
  have xr1 : EvD K (tOp (rIxT K) (tVar 1) (tC (.int 0))) [some (.ref a), some v, none] H2 (.str (wordR r)) := d_ix (d_var xr rfl) d_int (atI_nat' (j := 0) rfl)
  have lt : mvs.length = s.made.length := b.madeD.len
  refine q_when (b := isStep r && decide ((s.made.length : Int) = 100)) (et_and (et_is (et_test (ev_op xr1.str (ev_c (v := .ref (He.ga K "STEP_WORDS"))) (rv_isT (K := K) (He.tupB_ok T.vals.1 _) rfl rfl))) (word_step hp)) fun _ => t_test (K := K) (d_eqI (by have q := d_lenK (K := K) (σ := [some (.ref a), some v, none]) (ta := tFld K (tVar 0) "made") (ev_fld (ev_var rfl) b.self T.c_Runner T.a_Runner_made rfl) (sq_of b.made) lt; exact q) d_int)) (fun hb H3 e3 => ?_) fun hb H3 e3 => ?_
  · obtain ⟨h1, h2⟩ := Bool.and_eq_true_iff.mp hb
    have h8 : s.made.length = 100 := by have := of_decide_eq_true h2; omega
    have he' : ExcP K [a, tr, fr, md] H3 E (.many 100) := fun dd H' g1 g2 g3 => he (.many 100) (by unfold doRow; rw [if_neg hm0, if_pos ⟨h1, h8⟩]) dd H' (fresh_back (e12.trans e3) g1) ((Kp.ex (e12.trans e3)).trans g2) g3
    exact s_raiseM (ds_cons d_int ds_nil) rfl rfl rfl he'
  have hm1 : ¬ (isStep r = true ∧ s.made.length = 100) := fun ⟨g1, g2⟩ => by
    rw [g1, g2] at hb
    exact absurd hb (by decide)
  have doE : ∀ b, deedM rs s l rest r = .error b → doRow rs s l rest r = .error b := fun b h => by unfold doRow; rw [if_neg hm0, if_neg hm1, h]
  have doO : ∀ s1, deedM rs s l rest r = .ok s1 → doRow rs s l rest r = .ok (onM r s1) := fun b h => by unfold doRow; rw [if_neg hm0, if_neg hm1, h]
  replace hR := hR.ex e3
  replace xr := xr.ex e3
  replace xr1 := xr1.mono e3
  have e13 := e12.trans e3
  obtain ⟨u, hu1, hu2⟩ := T.deed hp
  refine q_asg (v := .ref (He.ga K (deedN r))) (ev_op (ev_c (v := .ref (He.ga K "DEEDS"))) xr1.str fun H' _ Q q => ⟨wordR r, u, _, rfl, rfl, hu1, hu2, q H' (Ex.refl H')⟩) fun H4 e4 => ?_
  refine ⟨He.ga K (deedN r), spDeed K (deedP r), rfl, ⟨r, hp, rfl, rfl⟩, (ea_cons (ev_var rfl) (ea_cons (ev_var rfl) ea_nil)) H4 (Ex.refl _) _ fun H5 e5 => ?_⟩
  have e15 := (e13.trans e4).trans e5
  refine ⟨a, tr, fr, md, rs, s, l, rest, r, v, rfl, deedP_self hp, (hR.ex e4).ex e5, (xr.ex e4).ex e5, hst, hr', W, by omega, by omega, hf, fun s1 hd H6 h6 k6 => ?_, fun b hb dd H' g1 g2 g3 => he b (doE b hb) dd H' (fresh_back e15 g1) ((Kp.ex e15).trans g2) g3⟩
  have k16 := (Kp.ex e15).trans k6
  have xr6 := ((xr.ex e4).ex e5).tk (((hR.ex e4).ex e5).tk k6)
  obtain ⟨g1, g2, g3, g4⟩ := deed_stk hst hd
  have fin : ∀ σ H7, σ[0]? = some (some (.ref a)) → RunAt K H7 a tr fr md rs (onM r s1) → Kp [a, tr, fr, md] H H7 → tDrop (tMeth (CR K) "settle" (spW K gSettle) [] E (tVar 0) tNil) { nx := fun _ H' => Q .non H', rt := Q } σ H7 := fun σ H7 hσ h7 k7 => by
    obtain ⟨l', rest', c1, c2, c3, c4⟩ := do_chain W hst hch ht hr' hp hd
    obtain ⟨n', st', S'⟩ := sett_total W rest' l' c2 c3
    refine s_mW (K := K) (ev_var hσ) h7 ⟨W, by omega, l', rest', n', st', c1, c2, c3, by rw [c1]; exact S', rfl⟩ (lk_none (by decide +kernel)) fun H8 h8 k8 => ?_
    exact hk (onM r s1) n' st' (doO s1 hd) (by rw [c1]; exact S') H8 h8 (k7.trans k8)
  obtain ⟨dx, S, rv, plv, siv, tvs, fvs, mvs, b⟩ := id h6
  refine ⟨.ref a, rfl, a, _, dx, _, .int s1.many, rfl, b.self, T.c_Runner, T.a_Runner_many, rfl, s1.many, 1, rfl, rfl, dx, _, b.self, by show 10 < 1000; decide, ?_⟩
  rw [put_many]
  have b7 := RunB.wSelf (s' := { s1 with many := s1.many + 1 }) b b.place b.side rfl
  have hR7 : RunAt K _ a tr fr md rs { s1 with many := s1.many + 1 } := ⟨dx, S, rv, plv, siv, tvs, fvs, mvs, b7⟩
  have k7 := k16.trans (Kp.wr (b := a) (o := .ins (CR K) dx (rf rv (.ref S) (.ref tr) plv (.str (modeS s1.by_)) (.int s1.pace) siv (.ref fr) (.int (s1.many + 1 : Nat)) (.ref md))) (by simp))
  have xr7 := xr6.tk (TK.upd b.self trivial (o := .ins (CR K) dx (rf rv (.ref S) (.ref tr) plv (.str (modeS s1.by_)) (.int s1.pace) siv (.ref fr) (.int (s1.many + 1 : Nat)) (.ref md))))
  refine q_when (b := !isCall r) (by have q := t_test (K := K) (d_neS (b := "call") (d_ix (K := K) (σ := [some (.ref a), some v, some (.ref (He.ga K (deedN r)))]) (ta := tVar 1) (d_var xr7 rfl) (d_int (n := 0)) (atI_nat' (j := 0) rfl)) d_str); rw [word_call] at q; exact q) (fun hb H8 e8 => ?_) fun hb H8 e8 => ?_
  · have hc : isCall r = false := by simpa using hb
    obtain ⟨f, hf1⟩ := g3 hc
    replace b7 := b7.ex e8
    have htl := b7.trailD
    rw [show ({ s1 with many := s1.many + 1 } : Ms).stk = ⟨l.row, l.turn, f⟩ :: rest from hf1, trailD_cons] at htl
    refine s_lastD (K := K) (l := tr) (d' := .tuple [.int ((l.row : Int) + 1), .int 0]) (d_tup2 (ds_cons (d_ii (f := fun i j => i + j) (d_mR (K := K) (g := gRowAt) (d := .int l.row) (m := "row_at") (E := E) (ev_var rfl) (hR7.ex e8) ⟨_, rest, hf1, rfl⟩ (lk_none (by decide +kernel))) d_int) (ds_cons d_int ds_nil))) (ev_fld (ta := tVar 0) (ev_var rfl) b7.self T.c_Runner T.a_Runner_trail rfl) d_m1 b7.trail htl fun v' H9 e9 _ h9 => ?_
    refine fin _ _ rfl ?_ (((k7.trans (Kp.ex e8)).trans (Kp.ex e9)).trans (.wr (by simp)))
    rw [on_not hc hf1]
    exact runAt_of (s := { s1 with many := s1.many + 1 }) ((b7.ex e9).wTrail h9) (by rw [trailD_cons]; rfl) (by rw [frssD_cons]; exact (congrArg frssD hf1).trans (frssD_cons _ _))
  · have hc : isCall r = true := by simpa using hb
    refine fin _ _ rfl ?_ (k7.trans (Kp.ex e8))
    cases r with
    | call nm n => exact hR7.ex e8
    | _ => cases hc
end
end Kx

set_option Elab.async false
set_option linter.all false
set_option maxRecDepth 100000
set_option maxHeartbeats 4000000
namespace Kx
open PySem PySem.Spec PyProof.Rows L2 Evl HT
/-! ### a whole run, all numbers small on the way -/
structure StepOk (rs : List Row) (s : Ms) (l : Lv) (rest : List Lv) (r : Row) : Prop where
  e : s.stk = l :: rest
  hr : rs[l.row]? = some r
  hp : plain r = true
  ch : Chain rs l rest
  ht : l.turn = 0
  hz : s.stk.length ≤ 9
  hm : s.made.length ≤ 100
  hf : FitRow s r
inductive RunF (rs : List Row) : Nat → Ms → Except Bad (List PyData) → Prop
  | fin {s : Ms} {l : Lv} (h : atEnd rs s.stk = true) (e : s.stk = [l]) (hm : s.made.length ≤ 100) (ch : Chain rs l []) (ht : l.turn = 0) : RunF rs 0 s (.ok s.made)
  | bad {s : Ms} {l : Lv} {rest : List Lv} {r : Row} {b : Bad} (S : StepOk rs s l rest r) (hd : doRow rs s l rest r = .error b) : RunF rs 0 s (.error b)
  | go {s s1 : Ms} {l : Lv} {rest st : List Lv} {r : Row} {n m : Nat} {o : Except Bad (List PyData)} (S : StepOk rs s l rest r) (hd : doRow rs s l rest r = .ok s1) (ht : Sett rs n s1.stk st) (hp : pass1 rs st = none) (t : RunF rs m { s1 with stk := st } o) : RunF rs (m + 1) s o
theorem StepOk.na {rs : List Row} {s : Ms} {l : Lv} {rest : List Lv} {r : Row} (S : StepOk rs s l rest r) : atEnd rs s.stk = false := by
  have := (List.getElem?_eq_some_iff.mp S.hr).1
  rw [S.e]
  cases rest with
  | nil => show decide (l.row = rs.length) = false; exact decide_eq_false (by omega)
  | cons _ _ => rfl
theorem RunF.made {rs : List Row} {m : Nat} {s : Ms} {o : Except Bad (List PyData)} (h : RunF rs m s o) : s.made.length ≤ 100 ∧ s.stk ≠ [] ∧ s.stk.length ≤ 9 := by
  cases h with
  | fin h e hm _ _ => exact ⟨hm, by rw [e]; simp, by rw [e]; simp⟩
  | bad S hd => exact ⟨S.hm, by rw [S.e]; simp, S.hz⟩
  | go S hd ht hp t => exact ⟨S.hm, by rw [S.e]; simp, S.hz⟩
theorem RunF.ch {rs : List Row} {m : Nat} {s : Ms} {o : Except Bad (List PyData)} (h : RunF rs m s o) : ∃ l rest, s.stk = l :: rest ∧ Chain rs l rest ∧ l.turn = 0 := by
  cases h with
  | fin h e hm ch ht => exact ⟨_, _, e, ch, ht⟩
  | bad S hd => exact ⟨_, _, S.e, S.ch, S.ht⟩
  | go S hd ht hp t => exact ⟨_, _, S.e, S.ch, S.ht⟩
theorem Sett.det {rs : List Row} {n m : Nat} {a b c : List Lv} (h : Sett rs n a b) (g : Sett rs m a c) : b = c := by
  induction h generalizing m with
  | done h =>
    cases g with
    | done _ => rfl
    | step h' _ => rw [h] at h'; cases h'
  | step h t ih =>
    cases g with
    | done h' => rw [h] at h'; cases h'
    | step h' t' =>
      rw [h] at h'
      cases h'
      exact ih t'
section
variable {w : World} {K : PySem.W.Frag} {mg : Str → Option Value} {base : Heap}
/-- the next row is a step -/
def atStep (rs : List Row) (s : Ms) : Prop := ∃ l rest r, StepOk rs s l rest r ∧ isStep r = true
def Pre (rs : List Row) (m : Nat) (s : Ms) (o : Except Bad (List PyData)) : Prop := ∃ l0 rest0 n0 st0, s.stk = l0 :: rest0 ∧ Chain rs l0 rest0 ∧ l0.turn = 0 ∧ s.stk.length ≤ 9 ∧ Sett rs n0 s.stk st0 ∧ RunF rs m { s with stk := st0 } o ∧ pass1 rs st0 = none
theorem pre_of {rs : List Row} {m : Nat} {s : Ms} {o : Except Bad (List PyData)} (h : RunF rs m s o) (hp : pass1 rs s.stk = none) : Pre rs m s o :=
  let ⟨l, rest, e, c, t⟩ := h.ch
  ⟨l, rest, 0, s.stk, e, c, t, h.made.2.2, .done hp, h, hp⟩
def spGo (K : PySem.W.Frag) : Sp := fun vs H Q E => ∃ a tr fr md rs s m o, vs = [.ref a] ∧ RunAt K H a tr fr md rs s ∧ WfR rs ∧ Pre rs m s o ∧
  (∀ s' H', atEnd rs s'.stk = true → o = .ok s'.made → s'.made.length ≤ 100 → RunAt K H' a tr fr md rs s' → Kp [a, tr, fr, md] H H' → Q (.bl false) H') ∧
  (∀ s' m' H', m' ≤ m → atStep rs s' → RunF rs m' s' o → pass1 rs s'.stk = none → RunAt K H' a tr fr md rs s' → Kp [a, tr, fr, md] H H' → Q (.bl true) H') ∧
  ∀ b, o = .error b → ExcP K [a, tr, fr, md] H E b
theorem sc_go_on : FnScope ["self"] ["self"] (defScope Kd.s_Runner_go_on) := ⟨rfl, rfl, rfl, by decide +kernel, rfl, by decide +kernel, by decide +kernel⟩
/-- do_row of a run -/
theorem s_row {σ : L2.St} {H : Hp} {a tr fr md : Addr} {rs : List Row} {s : Ms} {l : Lv} {rest : List Lv} {r : Row} {ta : TE} {D : Ends} {E : XK} (ha : Ev ta σ H (.ref a)) (hR : RunAt K H a tr fr md rs s) (W : WfR rs) (S : StepOk rs s l rest r)
    (k : ∀ s' n st, doRow rs s l rest r = .ok s' → Sett rs n s'.stk st → ∀ H', RunAt K H' a tr fr md rs { s' with stk := st } → Kp [a, tr, fr, md] H H' → D.nx σ H') (he : ∀ b, doRow rs s l rest r = .error b → ExcP K [a, tr, fr, md] H E b) :
    tDrop (tMeth (CR K) "do_row" (spRow K) [] E ta tNil) D σ H := ha H (Ex.refl H) _ fun H1 e1 => by
  obtain ⟨dx, S0, rv, plv, siv, tvs, fvs, mvs, b⟩ := hR.ex e1
  exact ⟨a, dx, _, rfl, b.self, lk_none (by decide +kernel) .., a, tr, fr, md, rs, s, l, rest, r, rfl, hR.ex e1, S.e, S.hr, S.hp, W, S.ch, S.ht, S.hz, S.hm, S.hf,
    fun s' n st h1 h2 H' h3 h4 => k s' n st h1 h2 H' h3 ((Kp.ex e1).trans h4), fun b hb dd H' g1 g2 g3 => he b hb dd H' (fresh_back e1 g1) ((Kp.ex e1).trans g2) g3⟩
theorem ExcP.later {K : PySem.W.Frag} {L : List Addr} {H H1 : Hp} {E : XK} {b : Bad} (h : ExcP K L H E b) (k : Kp L H H1) (hL : ∀ x ∈ L, ∃ o, H x = some o) (hL1 : ∀ x ∈ L, ∃ o, H1 x = some o) : ExcP K L H1 E b := fun dd H' g1 g2 g3 => h dd H' (by
  by_cases hm : dd ∈ L
  · obtain ⟨o, ho⟩ := hL1 dd hm
    rw [g1] at ho
    cases ho
  · cases hq : H dd with
    | none => rfl
    | some o =>
      rw [k dd o hm hq] at g1
      cases g1) (k.trans g2) g3
theorem RunAt.there {H : Hp} {a tr fr md : Addr} {rs : List Row} {s : Ms} (h : RunAt K H a tr fr md rs s) : ∀ x ∈ [a, tr, fr, md], ∃ o, H x = some o := fun x hx => by
  obtain ⟨dx, S, rv, plv, siv, tvs, fvs, mvs, b⟩ := h
  have e' : x = a ∨ x = tr ∨ x = fr ∨ x = md := by simpa using hx
  rcases e' with q | q | q | q
  · exact ⟨_, by rw [q]; exact b.self⟩
  · exact ⟨_, by rw [q]; exact b.trail⟩
  · exact ⟨_, by rw [q]; exact b.frames⟩
  · exact ⟨_, by rw [q]; exact b.made⟩
theorem ok_go_on (T : Tx w K mg) : Ok Pg w K mg base (L2.CX Pg w) 45 (He.ma K (CR K) "go_on") ["self"] (spGo K) := by
  refine ok_of T.f_Runner_go_on sc_go_on (fun vs H Q E h => by obtain ⟨a, _, _, _, _, _, _, _, rfl, _⟩ := h; rfl) (fun _ _ _ _ _ _ us hl => match us, hl with | [_], _ => rfl) fun cdv A outer s0 H vs Q E hr h => ?_
  obtain ⟨a, tr, fr, md, rs, s, m, o, rfl, hR, W, ⟨l0, rest0, n0, st0, q1, q2, q3, hz0, hS0, hF, hp⟩, k1, k2, he⟩ := h
  refine ⟨_, (pss_cons (ps_expr (pe_m0 (ok_settle T) (hr.mono (by decide)) T.c_Runner T.m_Runner_settle pass0 (pv 0)))
    (pss_cons (ps_while (passes_of rfl) (PW.pt (pw_and (pt_not (pt_val (pe_m0 (ok_is_at_end T) (hr.mono (by decide)) T.c_Runner T.m_Runner_is_at_end pass0 (pv 0)))) (pw_and1 (pt_cmpR op_notIn_seq (px (pe_ix ix_tup (pe_fld (pv 0) (by rfl)) (pe_m0 (ok_row_at T) (hr.mono (by decide)) T.c_Runner T.m_Runner_row_at pass0 (pv 0)) fun _ _ => rfl)) (pgl T.g_STEP_WORDS) (by rfl)))))
      (pss_one (ps_expr (pe_m0 (E := E) (ok_do_row T) (hr.mono (by decide)) T.c_Runner T.m_Runner_do_row (passes_call (takes_of rfl rfl rfl rfl) fun _ _ _ _ h => h) (pv 0)))))
    (pss_one (ps_ret (pe_not (pe_m0 (ok_is_at_end T) (hr.mono (by decide)) T.c_Runner T.m_Runner_is_at_end pass0 (pv 0))))))), ?_⟩
  refine q_mW (K := K) (s' := { s with stk := st0 }) (ev_var rfl) hR ⟨W, by omega, l0, rest0, n0, st0, q1, q2, q3, hS0, rfl⟩ (lk_none (by decide +kernel)) fun H1 h1 kk1 => ?_
  refine q_while (fun n σ' H' => ∃ s', σ' = [some (.ref a)] ∧ RunF rs n s' o ∧ RunAt K H' a tr fr md rs s' ∧ Kp [a, tr, fr, md] H H' ∧ pass1 rs s'.stk = none ∧ n ≤ m) m ⟨{ s with stk := st0 }, rfl, hF, h1, kk1, hp, Nat.le_refl _⟩ ?_
  rintro n σ' H' ⟨s', rfl, hF', hR', k', hp', hn⟩
  have tEnd : ∀ H2, Ex H' H2 → EvD K (tMeth (CR K) "is_at_end" (spR K gEnd) [] E (tVar 0) tNil) [some (.ref a)] H2 (.bool (atEnd rs s'.stk)) := fun H2 e => d_mR (ev_var rfl) (hR'.ex e) ⟨hF'.made.2.1, rfl⟩ (lk_none (by decide +kernel))
  have tRow : ∀ l rest r, StepOk rs s' l rest r → EvT (tTest (tOp (rIn K true) (tOp (rIxT K) (tOp (rIxT K) (tFld K (tVar 0) "rows") (tMeth (CR K) "row_at" (spR K gRowAt) [] E (tVar 0) tNil)) (tC (.int 0))) (tC (.ref (He.ga K "STEP_WORDS"))))) [some (.ref a)] H' (!isStep r) := fun l rest r S => by
    have q := et_test (ev_op (d_ix (K := K) (d_rowH T (E := E) (σ := [some (.ref a)]) (ta := tVar 0) (tb := tVar 0) (ev_var rfl) (ev_var rfl) hR' S.e S.hr) (d_int (n := 0)) (atI_nat' (j := 0) rfl)).str (ev_c (v := .ref (He.ga K "STEP_WORDS"))) (rv_niT (K := K) (He.tupB_ok T.vals.1 _) rfl rfl))
    exact et_is q (by rw [word_step S.hp])
  have out : ∀ b, (∀ H2, Ex H' H2 → Q (.bl b) H2) → (!atEnd rs s'.stk) = b → ∀ H2, Ex H' H2 → tRet (tNotV (tMeth (CR K) "is_at_end" (spR K gEnd) [] E (tVar 0) tNil)) { nx := fun _ H' => Q .non H', rt := Q } [some (.ref a)] H2 := fun b hq hb H2 e => s_retD (K := K) (d_notV (tEnd H2 e)) fun v H3 e3 hd => by
    rw [hd.bool_eq, hb]
    exact hq H3 (e.trans e3)
  have stepC : ∀ l rest r, StepOk rs s' l rest r → (∀ b, o = .error b → ExcP K [a, tr, fr, md] H' E b) → (isStep r = false → ∀ H2, Ex H' H2 → ∃ N : L2.St → Hp → Prop, (∀ σ2 H3, N σ2 H3 → ∃ m', m' < n ∧ ∃ s', σ2 = [some (.ref a)] ∧ RunF rs m' s' o ∧ RunAt K H3 a tr fr md rs s' ∧ Kp [a, tr, fr, md] H H3 ∧ pass1 rs s'.stk = none ∧ m' ≤ m) ∧
      tDrop (tMeth (CR K) "do_row" (spRow K) [] E (tVar 0) tNil) { nx := N, rt := Q, ct := N, bk := tRet (tNotV (tMeth (CR K) "is_at_end" (spR K gEnd) [] E (tVar 0) tNil)) { nx := fun _ H' => Q .non H', rt := Q } } [some (.ref a)] H2) →
      ∃ b, EvT (tAnd (tNot (tB (tMeth (CR K) "is_at_end" (spR K gEnd) [] E (tVar 0) tNil))) (tTest (tOp (rIn K true) (tOp (rIxT K) (tOp (rIxT K) (tFld K (tVar 0) "rows") (tMeth (CR K) "row_at" (spR K gRowAt) [] E (tVar 0) tNil)) (tC (.int 0))) (tC (.ref (He.ga K "STEP_WORDS")))))) [some (.ref a)] H' b ∧
        (b = true → ∀ H2, Ex H' H2 → ∃ N : L2.St → Hp → Prop, (∀ σ2 H3, N σ2 H3 → ∃ m', m' < n ∧ ∃ s', σ2 = [some (.ref a)] ∧ RunF rs m' s' o ∧ RunAt K H3 a tr fr md rs s' ∧ Kp [a, tr, fr, md] H H3 ∧ pass1 rs s'.stk = none ∧ m' ≤ m) ∧
          tDrop (tMeth (CR K) "do_row" (spRow K) [] E (tVar 0) tNil) { nx := N, rt := Q, ct := N, bk := tRet (tNotV (tMeth (CR K) "is_at_end" (spR K gEnd) [] E (tVar 0) tNil)) { nx := fun _ H' => Q .non H', rt := Q } } [some (.ref a)] H2) ∧
        (b = false → ∀ H2, Ex H' H2 → tRet (tNotV (tMeth (CR K) "is_at_end" (spR K gEnd) [] E (tVar 0) tNil)) { nx := fun _ H' => Q .non H', rt := Q } [some (.ref a)] H2) := fun l rest r S heR hgo => by
    refine ⟨!isStep r, et_is (et_and (et_not (t_B (tEnd H' (Ex.refl _)))) fun _ => tRow l rest r S) (by rw [S.na]; rfl), fun hb => hgo (by simpa using hb), fun hb => out true (fun H2 e => ?_) (by rw [S.na]; rfl)⟩
    exact k2 s' n H2 hn ⟨l, rest, r, S, by simpa using hb⟩ hF' hp' (hR'.ex e) (k'.trans (Kp.ex e))
  have exL : ∀ b, o = .error b → ExcP K [a, tr, fr, md] H' E b := fun b hb => (he b hb).later k' hR.there hR'.there
  cases hF' with
  | fin h e hm ch ht =>
    refine ⟨false, et_is (et_and (b := false) (et_not (t_B (tEnd H' (Ex.refl _)))) fun q => absurd q (by rw [h]; decide)) (by rw [h]; rfl), fun q => absurd q (by decide), fun _ => out false (fun H2 e2 => ?_) (by rw [h]; rfl)⟩
    exact k1 s' H2 h rfl hm (hR'.ex e2) (k'.trans (Kp.ex e2))
  | @bad _ l rest r b S hd =>
    refine stepC l rest r S exL fun hs H2 e2 => ⟨fun _ _ => False, fun _ _ h => h.elim, ?_⟩
    refine s_row (K := K) (ev_var rfl) (hR'.ex e2) W S (fun s2 n2 st2 h2 => by rw [hd] at h2; cases h2) fun b' hb' => ?_
    rw [hd] at hb'
    cases hb'
    exact ((exL b rfl).later (Kp.ex e2) hR'.there (hR'.ex e2).there)
  | @go _ s1 l rest st r n1 m1 _ S hd ht hpp t =>
    refine stepC l rest r S exL fun hs H2 e2 => ⟨fun σ2 H3 => σ2 = [some (.ref a)] ∧ RunAt K H3 a tr fr md rs { s1 with stk := st } ∧ Kp [a, tr, fr, md] H H3, fun σ2 H3 ⟨z1, z2, z3⟩ => ⟨m1, Nat.lt_succ_self _, _, z1, t, z2, z3, hpp, by omega⟩, ?_⟩
    refine s_row (K := K) (ev_var rfl) (hR'.ex e2) W S (fun s2 n2 st2 h2 g2 H3 h3 k3 => ?_) fun b' hb' => by rw [hd] at hb'; cases hb'
    rw [hd] at h2
    cases h2
    rw [← ht.det g2] at h3
    exact ⟨rfl, h3, (k'.trans (Kp.ex e2)).trans k3⟩
end
end Kx

set_option Elab.async false
set_option linter.all false
set_option maxRecDepth 100000
set_option maxHeartbeats 4000000
namespace Kx
open PySem PySem.Spec PyProof.Rows L2 Evl HT
/-! ### the road -/
abbrev CRd (K : PySem.W.Frag) : Addr := He.ga K "Road"
section
variable {w : World} {K : PySem.W.Frag} {mg : Str → Option Value} {base : Heap}
def spRInit (K : PySem.W.Frag) : Sp := fun vs H Q _ => ∃ x dx l xs, vs = [.ref x, .ref l] ∧ H x = some (.ins (CRd K) dx []) ∧ H l = some (.lst xs) ∧ ∀ p H', H p = none → (∀ b o, b ≠ x → H b = some o → H' b = some o) → H' x = some (.ins (CRd K) dx [("held", .ref p)]) → H' p = some (.lst xs) → Q .non H'
theorem sc_Road_init : FnScope ["self", "entries"] ["self", "entries"] (defScope Kd.s_Road_init) := ⟨rfl, rfl, rfl, by decide +kernel, rfl, by decide +kernel, by decide +kernel⟩
theorem ok_Road_init (T : Tx w K mg) : Ok Pg w K mg base CX0 1 (He.ma K (CRd K) "__init__") ["self", "entries"] (spRInit K) := by
  refine ok_of T.f_Road_init sc_Road_init (fun vs H Q E h => by obtain ⟨a, _, _, _, rfl, _⟩ := h; rfl) (fun _ _ _ _ _ _ us hl => match us, hl with | [_, _], _ => rfl) fun cdv A outer s0 H vs Q E hr h => ?_
  obtain ⟨x, dx, l, xs, rfl, hx, hl, hk⟩ := h
  refine ⟨_, pss_one (ps_fld (pv 0) (pe_callTy call_list_of (by rfl) T.b_list PyProof.Rows.boot_list (pa_cons (pv 1) pa_nil)) (by rfl)), ?_⟩
  refine el_list (K := K) (ta := tVar 1) (σ := start ["self", "entries"] [.ref x, .ref l]) (ev_var rfl) (sq_of hl) H (Ex.refl _) _ fun p H1 hp e1 h1 => ?_
  refine ⟨.ref x, rfl, x, _, dx, [], rfl, e1 _ _ hx, T.c_Road, T.a_Road_held, by decide, ?_⟩
  have n : p ≠ x := fun e => by rw [e, hx] at hp; cases hp
  refine hk p _ hp (fun b o hb hq => ?_) upd_same (by rw [upd_ne n]; exact h1)
  rw [upd_ne hb]
  exact e1 _ _ hq
/-- a road's entries -/
def RoadAt (K : PySem.W.Frag) (H : Hp) (x : Addr) (ds : List PyData) : Prop := ∃ dx p xs, H x = some (.ins (CRd K) dx [("held", .ref p)]) ∧ H p = some (.lst xs) ∧ DtL K H xs ds
def spEnt (K : PySem.W.Frag) : Sp := fun vs H Q _ => ∃ x ds, vs = [.ref x] ∧ RoadAt K H x ds ∧ ∀ p xs H', H p = none → Ex H H' → H' p = some (.lst xs) → DtL K H' xs ds → Q (.ref p) H'
theorem sc_entries : FnScope ["self"] ["self"] (defScope Kd.s_Road_entries) := ⟨rfl, rfl, rfl, by decide +kernel, rfl, by decide +kernel, by decide +kernel⟩
theorem ok_entries (T : Tx w K mg) : Ok Pg w K mg base CX0 1 (He.ma K (CRd K) "entries") ["self"] (spEnt K) := by
  refine ok_of T.f_Road_entries sc_entries (fun vs H Q E h => by obtain ⟨a, _, rfl, _⟩ := h; rfl) (fun _ _ _ _ _ _ us hl => match us, hl with | [_], _ => rfl) fun cdv A outer s0 H vs Q E hr h => ?_
  obtain ⟨x, ds, rfl, ⟨dx, p, xs, h1, h2, h3⟩, hk⟩ := h
  refine ⟨_, pss_one (ps_ret (pe_callTy call_list_of (by rfl) T.b_list PyProof.Rows.boot_list (pa_cons (pe_fld (pv 0) (by rfl)) pa_nil))), ?_⟩
  exact el_list (K := K) (ta := tFld K (tVar 0) "held") (σ := start ["self"] [.ref x]) (ev_fld (ev_var rfl) h1 T.c_Road T.a_Road_held rfl) (sq_of h2) H (Ex.refl _) _ fun q H1 hq e1 h4 => hk q xs H1 hq e1 h4 (h3.ex e1)
def spBy (K : PySem.W.Frag) : Sp := fun vs H Q E => ∃ a tr fr md rs s m o, vs = [.ref a] ∧ RunAt K H a tr fr md rs s ∧ WfR rs ∧ Pre rs m s o ∧
  (∀ ds x H', o = .ok ds → RoadAt K H' x ds → Kp [a, tr, fr, md] H H' → Q (.ref x) H') ∧ ∀ b, o = .error b → ExcP K [a, tr, fr, md] H E b
theorem sc_road_by : FnScope ["runner"] ["runner"] (defScope Kd.s_road_by) := ⟨rfl, rfl, rfl, by decide +kernel, rfl, by decide +kernel, by decide +kernel⟩
theorem pe_mk1 {X : Cx} {k : Nat} {C f : Addr} {ps : List Str} {sp : Sp} {E : XK} {x : Str} {p pos : Pos} {e : Expr} {es : List Expr} {t : TA} {CX : CXT} (M : Mk X.K C f) (O : Ok X.prog X.w X.K X.mg X.base CX k f ps sp) (hr : Room (k + 1) X.A) (hm : X.mg x = some (.ref C)) (hx : Passes CX X E)
    (ha : PA X (e :: es) t) (hg : Gl X x := by rfl) (hdb : (x == ("__debug__" : Str)) = false := by decide) (he : starEach (e :: es) X.env = (false, eval e X.env) :: starEach es X.env := by rfl) (hpl : (backTo pos (starEach es X.env)).any (·.1) = false := by rfl) :
    PE X (.Call (.Name x p) (e :: es) [] pos) (tMake C sp [] E t) := let ⟨fd, F, b⟩ := O.ex; pe_make M F hr hg hm b .nil hx ha hdb he hpl
theorem ok_road_by (T : Tx w K mg) : Ok Pg w K mg base (L2.CX Pg w) 46 (He.ga K "road_by") ["runner"] (spBy K) := by
  refine ok_of T.f_road_by sc_road_by (fun vs H Q E h => by obtain ⟨a, _, _, _, _, _, _, _, rfl, _⟩ := h; rfl) (fun _ _ _ _ _ _ us hl => match us, hl with | [_], _ => rfl) fun cdv A outer s0 H vs Q E hr h => ?_
  obtain ⟨a, tr, fr, md, rs, s, m, o, rfl, hR, W, hF, k1, he⟩ := h
  refine ⟨_, (pss_cons (ps_while (passes_of rfl) (pt_val (pe_m0 (E := E) (ok_go_on T) (hr.mono (by decide)) T.c_Runner T.m_Runner_go_on (passes_call (takes_of rfl rfl rfl rfl) fun _ _ _ _ h => h) (pv 0)))
      (pss_one (ps_expr (pe_m0 (E := E) (ok_do_row T) (hr.mono (by decide)) T.c_Runner T.m_Runner_do_row (passes_call (takes_of rfl rfl rfl rfl) fun _ _ _ _ h => h) (pv 0)))))
    (pss_one (ps_ret (pe_mk1 T.k_Road (ok_Road_init T) (hr.mono (by decide)) T.g_Road pass0 (pa_cons (pe_fld (pv 0) (by rfl)) pa_nil))))), ?_⟩
  refine ⟨fun n σ' H' => ∃ s', σ' = [some (.ref a)] ∧ Pre rs n s' o ∧ RunAt K H' a tr fr md rs s' ∧ Kp [a, tr, fr, md] H H', ⟨m, s, rfl, hF, hR, Kp.refl _ _⟩, ?_⟩
  rintro n σ' H' ⟨s', rfl, hF', hR', k'⟩
  obtain ⟨dx, S, rv, plv, siv, tvs, fvs, mvs, b⟩ := id hR'
  refine ⟨.ref a, rfl, a, dx, _, rfl, b.self, lk_none (by decide +kernel) .., a, tr, fr, md, rs, s', n, o, rfl, hR', W, hF', ?_, ?_, fun b hb => (he b hb).later k' hR.there hR'.there⟩
  · intro s2 H2 h1 h2 h3 hR2 k2
    refine ⟨false, rfl, ?_⟩
    dsimp only
    rw [if_neg (by decide)]
    obtain ⟨dx, S, rv, plv, siv, tvs, fvs, mvs, b⟩ := id hR2
    unfold tRet tMake
    refine (ea_cons (ev_fld (ta := tVar 0) (σ := [some (.ref a)]) (ev_var rfl) b.self T.c_Runner T.a_Runner_made rfl) ea_nil) H2 (Ex.refl _) _ fun H3 e3 x dx' hx hdx hn => ?_
    refine ⟨x, dx', md, mvs, rfl, upd_same, ?_, fun p H4 hp4 keep hx4 hp5 => ⟨rfl, ?_⟩⟩
    · have hm3 := e3 _ _ b.made
      rw [upd_ne (ne_of_none hm3 hx), upd_ne (ne_of_none hm3 hdx)]
      exact hm3
    · have e34 : Ex H3 H4 := fun b' o' hb' => keep b' _ (ne_of_none hb' hx) (by rw [upd_ne (ne_of_none hb' hx), upd_ne (ne_of_none hb' hdx)]; exact hb')
      exact k1 s2.made x H4 h2 ⟨dx', p, mvs, hx4, hp5, b.madeD.ex (e3.trans e34)⟩ ((k'.trans k2).trans (Kp.ex (e3.trans e34)))
  · intro s2 m2 H2 hm2 hst hF2 hp2 hR2 k2
    refine ⟨true, rfl, ?_⟩
    dsimp only
    rw [if_pos rfl]
    obtain ⟨l, rest, r, S2, hr2⟩ := hst
    have exL : ∀ b, o = .error b → ExcP K [a, tr, fr, md] H2 E b := fun b hb => (he b hb).later (k'.trans k2) hR.there hR2.there
    cases hF2 with
    | fin h e hm ch ht =>
      have := S2.na
      rw [h] at this
      cases this
    | @bad _ l' rest' r' b S hd =>
      refine ⟨fun _ _ => False, fun _ _ h => h.elim, ?_⟩
      refine s_row (K := K) (ev_var rfl) hR2 W S (fun s3 n2 st2 h2 => by rw [hd] at h2; cases h2) fun b' hb' => ?_
      rw [hd] at hb'
      cases hb'
      exact exL b rfl
    | @go _ s1 l' rest' st r' n1 m1 _ S hd ht hpp t =>
      refine ⟨fun σ2 H3 => σ2 = [some (.ref a)] ∧ RunAt K H3 a tr fr md rs { s1 with stk := st } ∧ Kp [a, tr, fr, md] H H3, fun σ2 H3 ⟨z1, z2, z3⟩ => ⟨m1, by omega, _, z1, pre_of t hpp, z2, z3⟩, ?_⟩
      refine s_row (K := K) (ev_var rfl) hR2 W S (fun s3 n2 st2 h2 g2 H3 h3 k3 => ?_) fun b' hb' => by rw [hd] at hb'; cases hb'
      rw [hd] at h2
      cases h2
      rw [← ht.det g2] at h3
      exact ⟨rfl, h3, (k'.trans k2).trans k3⟩
end
end Kx

set_option Elab.async false
set_option linter.all false
set_option maxRecDepth 100000
set_option maxHeartbeats 4000000
namespace Kx
open PySem PySem.Spec PyProof.Rows L2 Evl HT
/-! ### for i, x in enumerate(tuple) -/
theorem meets_et {v : Value} {o : Obj} {P : Heap → Prop} (B : Begins v o P) :
    Meets (Builtin.«enumerate.__new__» ⟨[.type "enumerate", v], []⟩) (fun _ R s => P s.heap ∧
      R (.ok (.ret (.ref (s.heap.push o).objs.size))) { s with heap := (s.heap.push o).push { cls := .type "enumerate", data := .fields #[.none, .bool false, .ref s.heap.objs.size, rawInt 0, .none, .none] } }) :=
  .of_wp fun prog w A R s h => by
    obtain ⟨hp, g, d, tk, os⟩ := s
    obtain ⟨h1, h⟩ := h
    have hsub := sub_enumerate
    have q1 : ∀ {B' : Around} {E : Value → Shared → Prop} {Q : Value → Shared → Prop}, Q (.ref hp.objs.size) ⟨hp.push o, g, d, tk, os⟩ → wpAny (model prog w) B' (pyIter v) Q E ⟨hp, g, d, tk, os⟩ := fun q => B.iter prog w _ _ ⟨hp, g, d, tk, os⟩ _ h1 q
    wp_walk using q1
    refine wpAny_stack_any fun st => wpAny_pure ?_
    split
    · rename_i c _ _ _ _ _
      cases (c == Value.type "enumerate")
      · wp_walk using q1
        exact ⟨_, rfl, h⟩
      · wp_walk using q1
        exact ⟨_, rfl, h⟩
    · wp_walk using q1
      exact ⟨_, rfl, h⟩
theorem et_begins {prog : Program} {w : World} {A : Around} {E : Value → Shared → Prop} {s : Shared} {v : Value} {o : Obj} {P : Heap → Prop} {Q : Value → Shared → Prop} (B : Begins v o P) (h1 : P s.heap)
    (h : ∀ g, IsEnum g (s.heap.objs.size + 1) s.heap.objs.size 0 .none → g.get? s.heap.objs.size = some o → (∀ b ob, s.heap.get? b = some ob → g.get? b = some ob) → Q (.ref (s.heap.objs.size + 1)) { s with heap := g }) :
    wpAny (model prog w) A (call (.type "enumerate") [v]) Q E s := by
  refine callType_new F.called_enumerate (by decide) (F.typeCall_enumerate_1 _) (F.newCall_enumerate_1 _) (fun obj => by first | exact F.args_object_init_2 obj _ | (unfold argsOk; kernel_rfl)) F.entry_enumerate_new (meets_et B) ⟨h1, ?_⟩
  have hz : (s.heap.push o).objs.size = s.heap.objs.size + 1 := Heap.size_push ..
  have he : IsEnum ((s.heap.push o).push { cls := .type "enumerate", data := .fields #[.none, .bool false, .ref s.heap.objs.size, rawInt 0, .none, .none] }) (s.heap.objs.size + 1) s.heap.objs.size 0 .none := by
    have z := Heap.get?_push_size (s.heap.push o) (o := { cls := .type "enumerate", data := .fields #[.none, .bool false, .ref s.heap.objs.size, rawInt 0, .none, .none] }) rfl
    rw [hz] at z
    exact z
  show _ ∧ _
  rw [hz]
  exact ⟨⟨_, he, rfl⟩, h _ he (Heap.get?_push_of_some _ (Heap.get?_push_size _ B.free)) fun b ob x => Heap.get?_push_of_some _ (Heap.get?_push_of_some _ x)⟩
def IteT (K : PySem.W.Frag) (a : Addr) : It :=
  ⟨fun i H => ∃ (xs : List V) (x : V), SqT K H a xs ∧ xs[i]? = some x, fun i H v H' => ∃ T x, v = .ref T ∧ H T = none ∧ H' = upd H T (.tup [.int (i : Nat), x]) ∧ ∀ xs, SqT K H a xs → xs[i]? = some x, fun i H => ∃ xs : List V, SqT K H a xs ∧ xs.length = i⟩
theorem turn_et {P : Program} {w : World} {K : PySem.W.Frag} {elts : List Expr} {kk : Nat} {tpos : Pos} {a e it : Addr} (n1 : a ≠ it) (n2 : e ≠ it) :
    Turn P w K (.Tuple elts kk tpos) (IteT K a) [e, it] e (fun i h => (∃ old, IsEnum h e it ((i : Nat) : Int) old) ∧ h.IsTupleIter it a i) where
  mem := by simp
  obj := fun i h st b hb => by
    obtain ⟨⟨old, he⟩, ⟨o, ho, hc, hd⟩⟩ := st
    have e' : b = e ∨ b = it := by simpa using hb
    rcases e' with z | z
    · rw [z]; exact ⟨_, he, fun v q => nomatch q⟩
    · rw [z]; exact ⟨o, ho, fun v q => by rw [hd] at q; cases q⟩
  keep := fun i h h' st k => let ⟨⟨old, he⟩, hi⟩ := st; ⟨⟨old, k e (by simp) _ he⟩, hi.at fun o q => k it (by simp) o q⟩
  item := by
    intro X hP hw hK hc i pins s σ H E I hf st hg
    subst hP hw hK
    obtain ⟨⟨old, he⟩, hit⟩ := st
    obtain ⟨xs, x, hq, hx⟩ := hg
    obtain ⟨its, rv, p, hz⟩ := I.tuple hq
    obtain ⟨u, hu, ru⟩ := rv.get hx
    have hel : e < s.heap.objs.size := Heap.lt_size he
    have hil : it < s.heap.objs.size := by obtain ⟨_, q, _⟩ := hit; exact Heap.lt_size q
    have lt : i < its.toArray.size := by
      have := (List.getElem?_eq_some_iff.mp hu).1
      simpa using this
    have ea : e ≠ a := fun z => by
      obtain ⟨o, h1, h2, _⟩ := p
      rw [← z, he] at h1
      cases h1
      simp at h2
    refine wpAny_pyNext_enum_itemC (Draws.tuple (A := X.A.in1) (I.ok.hd hc) it a n1 its.toArray) he ⟨hit, p⟩ lt n2 (by simp; exact ⟨n2, ea⟩) fun y g tk py ho hst' hT hsz hk => ?_
    have ey : y = u := by
      have p1 : its[i]? = some y := by simpa using py
      rw [hu] at p1
      cases p1
      rfl
    subst ey
    refine ⟨_, rfl, wpAny_letOwnedTupleGo_enum (s := { s with heap := g, toks := tk + 1 }) ho fun h'' he' sb => ?_⟩
    have hT2 : h''.get? s.heap.objs.size = some { cls := .type "tuple", data := .seq #[.int i tk, y] } := (sb.2 _ (Nat.ne_of_gt hel)).trans hT
    have new : ObjOk X.prog X.w (upd H s.heap.objs.size (.tup [.int (i : Nat), x])) h'' s.heap.objs.size (.tup [.int (i : Nat), x]) := ⟨by show 2 ≤ sizeLine; decide, [.int i tk, y], .cons ⟨_, rfl⟩ (.cons ru .nil), ⟨_, hT2, rfl, _, rfl⟩⟩
    have I1 : Inv X pins σ (upd H s.heap.objs.size (.tup [.int (i : Nat), x])) { s with heap := h'', toks := tk + 1 } :=
      I.turnedNew (ch := [e, it]) (fun b ob hb q => (sb.2 b (fun z => hb (by simp [z]))).trans (hk b ob (fun z => hb (by simp [z])) (fun z => hb (by simp [z])) q)) hf (Nat.le_refl _) new
    refine ⟨.ref s.heap.objs.size, _, I1, rfl, ⟨_, x, rfl, I.hok.fresh (Nat.le_refl _), rfl, fun ys hy => by rw [I.tuple_inj hy hq]; exact hx⟩, ⟨⟨y, ?_⟩, hst'.1.at fun o q => (sb.2 it (Ne.symm n2)).trans q⟩, fun b hb => ?_⟩
    · have e1 : ((i + 1 : Nat) : Int) = (i : Int) + 1 := by omega
      rw [e1]; exact he'
    · have hb' : b < s.heap.objs.size := by
        have e' : b = e ∨ b = it := by simpa using hb
        rcases e' with z | z
        · rw [z]; exact hel
        · rw [z]; exact hil
      rw [upd_ne (Nat.ne_of_lt hb')]
      exact (hf b hb).1
  done := by
    intro X hP hw hK hc i pins s σ H E I hf st hg
    subst hP hw hK
    obtain ⟨⟨old, he⟩, hit⟩ := st
    obtain ⟨xs, hq, hx⟩ := hg
    obtain ⟨its, rv, p, hz⟩ := I.tuple hq
    obtain ⟨f0, f1, f2, f3, f4, f5⟩ := hf it (by simp)
    have hl : its.toArray.size = i := by rw [List.size_toArray, ← hx]; exact rv.length.symm
    have D := Draws.tuple (prog := X.prog) (w := X.w) (A := X.A.in1) (I.ok.hd hc) it a n1 its.toArray
    rw [hl] at D
    exact wpAny_pyNext_enum_endD D he ⟨hit, p⟩ fun g hx => ⟨rfl, I.turned (t' := s.toks) (fun b o hb q => hx b o hb q) f0 f1 f3 f4 f5⟩
  self := fun A i s Q E st h => let ⟨⟨_, he⟩, _⟩ := st; wpAny_pyIter_enum he h
def iEnumT (K : PySem.W.Frag) (ta : TA) : TI := fun σ H R => ta σ H fun vs H1 => ∃ a xs, vs = [.ref a] ∧ SqT K H1 a xs ∧ R (IteT K a) H1
theorem pi_enumT {X : Cx} {e : Expr} {ta : TA} {p pos tpos : Pos} {elts : List Expr} {kk : Nat} (hg : Gl X "enumerate") (hm : X.mg "enumerate" = none) (ha : PA X [e] ta) (hs : starEach [e] X.env = [(false, eval e X.env)] := by rfl) :
    PI X (.Tuple elts kk tpos) (.Call (.Name "enumerate" p) [e] [] pos) (iEnumT X.K ta) := by
  refine ⟨fun pins s σ H R I h => Call_ (ld_blt I hg hm boot_enumerate (PyProof.Rows.callWith_type1 (thn (ha.run pos pins s σ H _ I h) fun us s1 ⟨vs, H1, I1, r1, q1⟩ => ?_) hs rfl))⟩
  obtain ⟨a, xs, ex, hq, q⟩ := q1
  subst ex
  cases r1 with
  | cons r rr =>
    cases rr
    cases r
    obtain ⟨its, rv, p', hz⟩ := I1.tuple hq
    have la : a < s1.heap.objs.size := by obtain ⟨o, ho, _⟩ := p'; exact Heap.lt_size ho
    refine et_begins (begins_tuple a its.toArray) p' fun g ge gi hk => wpAny_pyIter_enum ge ?_
    have I2 : Inv X pins σ H1 { s1 with heap := g } := I1.kept (t' := s1.toks) hk
    refine ⟨s1.heap.objs.size + 1, [s1.heap.objs.size + 1, s1.heap.objs.size], _, _, H1, rfl, I2, turn_et (Nat.ne_of_lt la) (Nat.succ_ne_self _), ⟨⟨.none, ge⟩, ⟨_, gi, rfl, rfl⟩⟩, fun b hb => ?_, q⟩
    have e' : b = s1.heap.objs.size + 1 ∨ b = s1.heap.objs.size := by simpa using hb
    have hle : s1.heap.objs.size ≤ b := by
      rcases e' with z | z
      · rw [z]; exact Nat.le_add_right _ _
      · rw [z]; exact Nat.le_refl _
    exact I1.fpOk hle (I1.hok.fresh hle)
end Kx

set_option Elab.async false
set_option linter.all false
set_option maxRecDepth 100000
set_option maxHeartbeats 4000000
namespace Kx
open PySem PySem.Spec PyProof.Rows L2 Evl HT
/-! ### spans, a new runner -/
def isFin : Row → Bool
  | .fin => true
  | _ => false
def isPiece : Row → Bool
  | .piece _ => true
  | _ => false
theorem word_end {r : Row} : decide (wordR r = "end") = isFin r := by
  cases r with
  | arc lf x y p q => cases lf <;> rfl
  | mode b => cases b <;> rfl
  | frame f => cases f <;> rfl
  | _ => rfl
theorem word_piece {r : Row} : decide (wordR r = "piece") = isPiece r := by
  cases r with
  | arc lf x y p q => cases lf <;> rfl
  | mode b => cases b <;> rfl
  | frame f => cases f <;> rfl
  | _ => rfl
theorem filter_first {n k : Nat} {p : Nat → Bool} (hk : k < n) (h1 : p k = true) (h0 : ∀ i, i < k → p i = false) : ((List.range n).filter p)[0]? = some k := by
  have e : n = (k + 1) + (n - (k + 1)) := by omega
  rw [e, List.range_add, List.filter_append, List.range_succ, List.filter_append]
  rw [List.filter_eq_nil_iff.mpr fun i hi => by rw [h0 i (by simpa using hi)]; decide]
  simp [h1]
/-- the first end behind a piece -/
theorem first_end {rs : List Row} (W : nest false rs = true) {k : Nat} {nm : Str} (h : rs[k]? = some (.piece nm)) : ((List.range (rs.length - k)).filter fun i => match rs[k + i]? with | some r => isFin r | none => false)[0]? = some (endOf rs (k + 1) - k) := by
  obtain ⟨_, h1, h2, h3, h4⟩ := piece_at W h
  have lt := (List.getElem?_eq_some_iff.mp h1).1
  refine filter_first (by omega) ?_ fun i hi => ?_
  · rw [show k + (endOf rs (k + 1) - k) = endOf rs (k + 1) by omega, h1]; rfl
  · by_cases h0 : i = 0
    · subst h0
      rw [Nat.add_zero, h]; rfl
    · have hl : k + i < rs.length := by omega
      have e : rs[k + i]? = some rs[k + i] := List.getElem?_eq_getElem hl
      rw [e]
      have := h2 (k + i) _ (by omega) (by omega) e
      cases hr : rs[k + i] with
      | fin => rw [hr] at this; cases this
      | _ => rfl
section
variable {K : PySem.W.Frag} {H H' : Hp} {σ : L2.St} {ta tb te tv : TE} {d : PyData} {v : V} {D : Ends} {tz : TS} {ds : List PyData}
theorem q_ini {a dx C : Addr} {fs : List (Str × V)} {f : Str} (h : EvD K te σ H d) (ha : Ev ta σ H (.ref a)) (hs : H a = some (.ins C dx fs)) (c : Cls K C) (n : NoAttr K C f) (hl : fs.length < 1000) (k : ∀ v H1, H1 a = some (.ins C dx (putF f v fs)) → Kp [a] H H1 → TK H H1 → Dt K H1 v d → tz D σ H1) : tSeq (sFld K ta te f) tz D σ H :=
  q_fldD h ha hs c n hl fun v H1 e1 hv => by
    have t := TK.upd (e1 _ _ hs) trivial (o := .ins C dx (putF f v fs))
    exact k v _ upd_same ((Kp.ex e1).trans (.wr (by simp))) ((TK.ex e1).trans t) (hv.tk t)
theorem q_iniN {a dx C : Addr} {fs : List (Str × V)} {f : Str} (h : EvN K te σ H ds) (ha : Ev ta σ H (.ref a)) (hs : H a = some (.ins C dx fs)) (c : Cls K C) (n : NoAttr K C f) (hl : fs.length < 1000) (k : ∀ p xs H1, H p = none → p ≠ a → H1 a = some (.ins C dx (putF f (.ref p) fs)) → Kp [a] H H1 → TK H H1 → H1 p = some (.lst xs) → DtL K H1 xs ds → tz D σ H1) : tSeq (sFld K ta te f) tz D σ H :=
  h H (Ex.refl H) _ fun p xs H1 hp e1 h1 hv => ha H1 e1 _ fun H2 e2 => by
    have hn : p ≠ a := fun e => by rw [e, hs] at hp; cases hp
    have e12 := e1.trans e2
    have t := TK.upd (e12 _ _ hs) trivial (o := .ins C dx (putF f (.ref p) fs))
    exact ⟨a, C, dx, fs, rfl, e12 _ _ hs, c, n, hl, k p xs _ hp hn upd_same ((Kp.ex e12).trans (.wr (by simp))) ((TK.ex e12).trans t) (by rw [upd_ne hn]; exact e2 _ _ h1) ((hv.ex e2).tk t)⟩
theorem s_iniN {a dx C : Addr} {fs : List (Str × V)} {f : Str} (h : EvN K te σ H ds) (ha : Ev ta σ H (.ref a)) (hs : H a = some (.ins C dx fs)) (c : Cls K C) (n : NoAttr K C f) (hl : fs.length < 1000) (k : ∀ p xs H1, H p = none → p ≠ a → H1 a = some (.ins C dx (putF f (.ref p) fs)) → Kp [a] H H1 → TK H H1 → H1 p = some (.lst xs) → DtL K H1 xs ds → D.nx σ H1) : sFld K ta te f D σ H :=
  q_iniN (tz := fun D => D.nx) (D := D) h ha hs c n hl k
end
section
variable {K : PySem.W.Frag} {H H' : Hp} {σ : L2.St} {ta : TE} {D : Ends} {tz tu : TS} {ds : List PyData}
theorem q_forEnT {i j : Nat} (h : EvD K ta σ H (.tuple ds)) (Pv : Nat → L2.St → Hp → Prop) (h0 : ∀ H1, Ex H H1 → Pv 0 σ H1) (hm : ∀ k σ' H' H'', Ex H' H'' → Pv k σ' H' → Pv k σ' H'')
    (hs : ∀ k d x a xs σ' H', ds[k]? = some d → Dt K H' x d → Pv k σ' H' → SqT K H' a xs → DtL K H' xs ds → tu { D with nx := fun σ2 H2 => Pv (k + 1) σ2 H2 ∧ SqT K H2 a xs ∧ DtL K H2 xs ds, ct := fun σ2 H2 => Pv (k + 1) σ2 H2 ∧ SqT K H2 a xs ∧ DtL K H2 xs ds, bk := tz D } ((σ'.set i (some (.int (k : Nat)))).set j (some x)) H')
    (hd : ∀ σ' H', Pv ds.length σ' H' → tz D σ' H') : tSeq (tFor (iEnumT K (tCons ta tNil)) (gTup K 2 (gCons (gName i) (gCons (gName j) gNil))) tu) tz D σ H := h H (Ex.refl H) _ fun v H1 e1 hv => by
  obtain ⟨a, xs, rfl, hq, hl⟩ := hv.tup_eq
  refine ⟨a, xs, rfl, hq, ?_⟩
  refine ⟨fun k m σ' H' => m = xs.length - k ∧ k ≤ xs.length ∧ Pv k σ' H' ∧ SqT K H' a xs ∧ DtL K H' xs ds, ⟨xs.length, by simp, Nat.zero_le _, h0 H1 e1, hq, hl⟩, ?_⟩
  rintro k m σ' H' ⟨rfl, hi, p, hq', hl'⟩
  by_cases hlt : k < xs.length
  · refine .inr ⟨⟨xs, xs[k], hq', by simp [hlt]⟩, fun σ2 H2 => Pv (k + 1) σ2 H2 ∧ SqT K H2 a xs ∧ DtL K H2 xs ds, fun σ2 H2 ⟨p', q1, q2⟩ => ⟨xs.length - (k + 1), by omega, rfl, hlt, p', q1, q2⟩, fun x H2 y => ?_⟩
    obtain ⟨T, z, rfl, hT, rfl, y⟩ := y
    have hx := y xs hq'
    obtain ⟨d, hd', hxd⟩ := hl'.get' hx
    have eT : Ex H' (upd H' T (.tup [.int (k : Nat), z])) := Ex.new hT
    refine ⟨T, _, rfl, SqT.of upd_same, rfl, _, _, rfl, _, _, rfl, rfl, ?_⟩
    exact hs k d z a xs σ' (upd H' T (.tup [.int (k : Nat), z])) hd' (hxd.ex eT) (hm k σ' _ _ eT p) (ex_t eT hq') (hl'.ex eT)
  · have e : k = ds.length := by rw [← hl.len]; omega
    subst e
    exact .inl ⟨⟨xs, hq', by rw [hl.len]⟩, hd σ' H' p⟩
theorem rng2 {lo hi : Int} {tA : TA} (ha : EvDs K tA σ H [.int lo, .int hi]) (hb : 0 ≤ lo ∧ lo ≤ 100000 ∧ -100000 ≤ hi ∧ hi ≤ 100000) : ∀ H1, Ex H H1 → ∀ R : It → Hp → Prop, (∀ H2, Ex H1 H2 → R (Itr lo (hi - lo).toNat) H2) → iRng2 tA σ H1 R := fun H1 e R q => ha H1 e _ fun vs H2 e2 hv => by
  cases hv with
  | cons h1 h2 =>
    cases h2 with
    | cons h2 h3 =>
      cases h3
      rw [h1.int_eq, h2.int_eq]
      exact ⟨lo, hi, rfl, ⟨by omega, by omega, by omega, by omega⟩, q H2 e2⟩
theorem rng1 {hi : Int} {tA : TA} (ha : EvDs K tA σ H [.int hi]) (hb : -100000 ≤ hi ∧ hi ≤ 100000) : ∀ H1, Ex H H1 → ∀ R : It → Hp → Prop, (∀ H2, Ex H1 H2 → R (Itr 0 hi.toNat) H2) → iRng1 tA σ H1 R := fun H1 e R q => ha H1 e _ fun vs H2 e2 hv => by
  cases hv with
  | cons h1 h2 =>
    cases h2
    rw [h1.int_eq]
    exact ⟨hi, rfl, by omega, by omega, q H2 e2⟩
theorem q_asgN {i : Nat} {te : TE} (h : EvN K te σ H ds) (k : ∀ p xs H1, H p = none → Ex H H1 → H1 p = some (.lst xs) → DtL K H1 xs ds → tz D (σ.set i (some (.ref p))) H1) : tSeq (tAsg te (gName i)) tz D σ H := h H (Ex.refl H) _ fun p xs H1 hp e hx hv => k p xs H1 hp e hx hv
theorem s_setD {te ta' tk : TE} {S : Addr} {kvs : List (Key × V)} {nm : Str} {d : PyData} (h : EvD K te σ H d) (ho : Ev ta' σ H (.ref S)) (hk : EvD K tk σ H (.str nm)) (hs : H S = some (.dK kvs)) (hl : kvs.length ≤ 100000) (k : ∀ v H1, Ex H H1 → Dt K H1 v d → H1 S = some (.dK kvs) → D.nx σ (upd H1 S (.dK (putK kvs (.inr nm) v)))) :
    tAsg te (gSub ta' tk rSetD) D σ H := h H (Ex.refl H) _ fun v H1 e1 hv => ho H1 e1 _ fun H2 e2 => hk H2 (e1.trans e2) _ fun w H3 e3 hw => by
  rw [hw.str_eq]
  have e := (e1.trans e2).trans e3
  exact ⟨S, _, rfl, DPut.k (k := Sum.inr nm) (e _ _ hs) (Nat.lt_of_le_of_lt hl (by show 100000 < sizeLine; decide)), k v H3 e (hv.ex (e2.trans e3)) (e _ _ hs)⟩
end
section
variable {w : World} {K : PySem.W.Frag} {mg : Str → Option Value} {base : Heap}
def spSpans (K : PySem.W.Frag) : Sp := fun vs H Q _ => ∃ v rs, vs = [v] ∧ Dt K H v (rowsD rs) ∧ WfR rs ∧ rs.length ≤ 1000 ∧ ∀ S H', H S = none → Ex H H' → SpanOk K H' S rs → Q (.ref S) H'
theorem sc_spans_of : FnScope ["rows", "found", "at", "row", "ends", "k"] ["rows"] (defScope Kd.s_spans_of) := ⟨rfl, rfl, rfl, by decide +kernel, rfl, by decide +kernel, by decide +kernel⟩
theorem ok_spans_of (T : Tx w K mg) : Ok Pg w K mg base CX0 1 (He.ga K "spans_of") ["rows"] (spSpans K) := by
  refine ok_of T.f_spans_of sc_spans_of (fun vs H Q E h => by obtain ⟨a, _, rfl, _⟩ := h; rfl) (fun _ _ _ _ _ _ us hl => match us, hl with | [_], _ => rfl) fun cdv A outer s0 H vs Q E hr h => ?_
  obtain ⟨v, rs, rfl, hv, W, hz, hk⟩ := h
  refine ⟨_, PSs.nox (pss_cons (ps_set (i := 1) sc_spans_of.nd rfl (Or.inl rfl) pe_dnewK)
    (pss_cons (ps_for PassesOwn.never rfl (pi_enumT rfl T.b_enumerate (pa_cons (pv 0) pa_nil)) (pg_tup (by rfl) (pgs_cons (pg_name (i := 2) sc_spans_of.nd rfl (.inl rfl)) (pgs_cons (pg_name (i := 3) sc_spans_of.nd rfl (.inl rfl)) pgs_nil)))
      (pss_one (ps_if (pt_cmpR op_eq (px (pv 3)) pe_str (nomark _))
        (pss_cons (ps_setLc (i := 4) (own := [("k", 5)]) (g := gName 5) (tt := tTest (tOp rEq (tOp (rIxT K) (tOp (rIxT K) (tVar 0) (tVar 5)) (tC (.int 0))) (tC (.str "end")))) (by rfl) sc_spans_of.nd rfl rfl (sw_true rfl rfl rfl (by decide +kernel)) (pi_range2 rfl T.b_range (pa_cons (pv 2) (pa_cons (pe_callB call_len_seq (by rfl) T.b_len PySem.boot_len (pa_cons (pv 0) pa_nil)) pa_nil)))
            (blkOk_by (own := [("k", 5)]) (N := ["rows", "found", "at", "row", "ends", "k"]) (sc := defScope Kd.s_spans_of) (by decide +kernel)) (fun _ _ _ _ _ => pg_name (i := 5) sc_spans_of.nd rfl (Or.inl rfl)) (fun _ _ _ _ _ => pts_one (pt_cmpR op_eq (px (pe_ix ix_tup (pv 0) (pv 5) fun _ _ => rfl)) pe_str (nomark _))) (fun _ _ _ _ _ => pv 5))
        (pss_one (ps_asg (pe_tup (pa_cons (pe_op op_add (pv 2) pe_int) (pa_cons (pe_ix ix_list (pv 4) pe_int fun _ _ => rfl) pa_nil))) (pg_sub (pv 1) (px (pv 3)) (set_dict (hu_of hr))))))
        pss_nil)))
    (pss_one (ps_ret (pv 1))))), ?_⟩
  refine fun S hS => ?_
  refine q_forEnT (K := K) (i := 2) (j := 3) (ds := rs.map rowD) (d_var (hv.ex (Ex.new hS)) rfl) (fun k σ' H' => ∃ o2 o3 o4 o5 kvs, σ' = [some v, some (.ref S), o2, o3, o4, o5] ∧ H' S = some (.dK kvs) ∧ kvs.length ≤ k ∧ Ex H H' ∧
    ∀ i nm, i < k → rs[i]? = some (.piece nm) → ∃ u, valV kvs (.inr nm) = some u ∧ Dt K H' u (.tuple [.int ((i : Int) + 1), .int (endOf rs (i + 1))])) (fun H1 e1 => ⟨none, none, none, none, [], rfl, e1 _ _ upd_same, Nat.le_refl _, (Ex.new hS).trans e1, fun i nm hi => absurd hi (by omega)⟩)
    (fun k σ' H' H'' e ⟨o2, o3, o4, o5, kvs, h1, h2, h3, h4, h5⟩ => ⟨o2, o3, o4, o5, kvs, h1, e _ _ h2, h3, h4.trans e, fun i nm hi hr => let ⟨u, a, b⟩ := h5 i nm hi hr; ⟨u, a, b.ex e⟩⟩) ?_ ?_
  · rintro k d x a xs σ' H' hd hx ⟨o2, o3, o4, o5, kvs, rfl, h2, h3, h4, h5⟩ hq hl
    rw [List.getElem?_map] at hd
    cases hr' : rs[k]? with
    | none => rw [hr'] at hd; cases hd
    | some r =>
      rw [hr'] at hd
      cases hd
      have hkl := (List.getElem?_eq_some_iff.mp hr').1
      have t0 : EvT (tTest (tOp rEq (tOp (rIxT K) (tVar 3) (tC (.int 0))) (tC (.str "piece")))) [some v, some (.ref S), some (.int (k : Nat)), some x, o4, o5] H' (isPiece r) := by
        have q := t_test (K := K) (d_eqS (b := "piece") (d_ix (K := K) (σ := [some v, some (.ref S), some (.int (k : Nat)), some x, o4, o5]) (ta := tVar 3) (d_var hx rfl) (d_int (n := 0)) (atI_nat' (j := 0) rfl)) d_str)
        rw [word_piece] at q
        exact q
      refine s_when t0 (fun hb H1 e1 => ?_) fun hb H1 e1 => ?_
      · cases r with
        | piece nm =>
          obtain ⟨_, hfin, hin, hle, _⟩ := piece_at W.nest hr'
          have hlt := (List.getElem?_eq_some_iff.mp hfin).1
          have n1 := n_lcR (K := K) (σ := [some v, some (.ref S), some (.int (k : Nat)), some x, o4, o5]) (H := H1) (lo := (k : Int)) (n := ((rs.length : Int) - (k : Int)).toNat) (wi := iRng2 (tCons (tVar 2) (tCons (tCB (rLenS K) (tCons (tVar 0) tNil)) tNil))) (j := 5) (vs := [5]) (te := tVar 5)
            (tt := tTest (tOp rEq (tOp (rIxT K) (tOp (rIxT K) (tVar 0) (tVar 5)) (tC (.int 0))) (tC (.str "end")))) (f := fun i => match rs[k + i]? with | some r => isFin r | none => false) (g := fun i => .int ((k : Int) + (i : Int)))
            (rng2 (ds_cons (d_vint rfl) (ds_cons (by have q := d_lenT (K := K) (σ := [some v, some (.ref S), some (.int (k : Nat)), some x, o4, o5]) (H := H1) (ta := tVar 0) (ds := rs.map rowD) (d_var ((hv.ex h4).ex e1) rfl); rw [List.length_map] at q; exact q) ds_nil)) ⟨by omega, by omega, by omega, by omega⟩) (by omega) (fun x => rfl)
            (fun i H2 e2 hi => by
              have hli : k + i < rs.length := by omega
              have er : rs[k + i]? = some rs[k + i] := List.getElem?_eq_getElem hli
              have q := t_test (K := K) (d_eqS (b := "end") (d_ix (K := K) (σ := [some v, some (.ref S), some (.int (k : Nat)), some x, o4, some (.int ((k : Int) + (i : Int)))]) (ta := tOp (rIxT K) (tVar 0) (tVar 5)) (d_ix (d_var (((hv.ex h4).ex e1).ex e2) rfl) (d_vint rfl) (rows_at er)) (d_int (n := 0)) (atI_nat' (j := 0) rfl)) d_str)
              rw [word_end] at q
              rw [er]
              exact q) (fun i H2 e2 hi _ => d_vint rfl)
          refine q_asgN (K := K) n1 fun p ys H2 hp e2 h6 h7 => ?_
          have fst : atI ((((List.range ((rs.length : Int) - (k : Int)).toNat).filter fun i => match rs[k + i]? with | some r => isFin r | none => false).map fun (i : Nat) => PyData.int ((k : Int) + (i : Int)))) (0 : Int) = some (.int (endOf rs (k + 1))) := by
            refine atI_nat' (j := 0) ?_
            have e0 : ((rs.length : Int) - (k : Int)).toNat = rs.length - k := by omega
            rw [List.getElem?_map, e0, first_end W.nest hr']
            show some (PyData.int ((k : Int) + ((endOf rs (k + 1) - k : Nat) : Int))) = _
            congr 2; omega
          obtain ⟨yv, hy1, hy2⟩ := h7.at fst
          have e12 := e1.trans e2
          refine s_setD (K := K) (S := S) (kvs := kvs) (nm := nm) (d := .tuple [.int ((k : Int) + 1), .int (endOf rs (k + 1))]) (d_tup2 (ds_cons (d_ii (f := fun i j => i + j) (d_vint rfl) d_int) (ds_cons (d_ixL (ev_var rfl) (sq_of h6) d_int hy1 hy2) ds_nil))) (ev_var rfl) (d_ix (d_var (hx.ex e12) rfl) d_int (atI_nat' (j := 1) rfl)) (e12 _ _ h2) (by omega) fun u H3 e3 hu hS3 => ?_
          have tk := TK.upd hS3 trivial (o := .dK (putK kvs (.inr nm) u))
          have e13 := e12.trans e3
          refine ⟨⟨_, _, _, _, putK kvs (.inr nm) u, rfl, upd_same, by have := length_putK kvs (Sum.inr nm : Key) u; omega, Ex.mut (h4.trans e13) hS, fun i nm' hi hri => ?_⟩, SqT.tk tk (ex_t e13 hq), (hl.ex e13).tk tk⟩
          rw [valV_put]
          by_cases hn : (Sum.inr nm' : Key) = Sum.inr nm
          · rw [if_pos hn]
            have hn' : nm' = nm := Sum.inr.inj hn
            subst hn'
            have : i = k := dup_at W.dup hri hr'
            subst this
            exact ⟨u, rfl, hu.tk tk⟩
          · rw [if_neg hn]
            have hik : i < k := by
              rcases Nat.lt_or_eq_of_le (Nat.lt_succ_iff.mp hi) with h | h
              · exact h
              · subst h
                rw [hr'] at hri
                cases hri
                exact absurd rfl hn
            obtain ⟨u', a', b'⟩ := h5 i nm' hik hri
            exact ⟨u', a', (b'.ex e13).tk tk⟩
        | _ => cases hb
      · refine ⟨⟨_, _, _, _, kvs, rfl, e1 _ _ h2, by omega, h4.trans e1, fun i nm' hi hri => ?_⟩, ex_t e1 hq, hl.ex e1⟩
        have hik : i < k := by
          rcases Nat.lt_or_eq_of_le (Nat.lt_succ_iff.mp hi) with h | h
          · exact h
          · subst h
            rw [hr'] at hri
            cases hri
            cases hb
        obtain ⟨u', a', b'⟩ := h5 i nm' hik hri
        exact ⟨u', a', b'.ex e1⟩
  · rintro σ' H' ⟨o2, o3, o4, o5, kvs, rfl, h2, h3, h4, h5⟩
    refine s_ret (ev_var rfl) fun H2 e2 => hk S H2 hS (h4.trans e2) ⟨kvs, e2 _ _ h2, fun nm hn => ?_⟩
    obtain ⟨j, hj1, hj2⟩ := beg_at hn
    obtain ⟨u, a, b⟩ := h5 j nm (by have := (List.getElem?_eq_some_iff.mp hj1).1; rw [List.length_map]; exact this) hj1
    rw [hj2]
    exact ⟨u, a, b.ex e2⟩
end
end Kx

set_option Elab.async false
set_option linter.all false
set_option maxRecDepth 100000
set_option maxHeartbeats 4000000
namespace Kx
open PySem PySem.Spec PyProof.Rows L2 Evl HT
def ms0 : Ms := ⟨[⟨0, 0, []⟩], ((0, 1), (0, 1)), false, 0, (0, 1), 0, []⟩
section
variable {w : World} {K : PySem.W.Frag} {mg : Str → Option Value} {base : Heap}
def spInit (K : PySem.W.Frag) : Sp := fun vs H Q _ => ∃ x dx rv rs, vs = [.ref x, rv] ∧ H x = some (.ins (CR K) dx []) ∧ Dt K H rv (rowsD rs) ∧ WfR rs ∧ rs.length ≤ 1000 ∧ ∀ tr fr md H', RunAt K H' x tr fr md rs ms0 → Kp [x] H H' → H tr = none → H fr = none → H md = none → Q .non H'
theorem Kp.none {L : List Addr} {H H' : Hp} {p : Addr} (k : Kp L H H') (h : H' p = none) (n : p ∉ L) : H p = none := by
  cases q : H p with
  | none => rfl
  | some o =>
    rw [k p o n q] at h
    cases h
theorem q_iniS {H : Hp} {σ : L2.St} {ta te : TE} {D : Ends} {tz : TS} {rs : List Row} {a dx C : Addr} {fs : List (Str × V)} {f : Str} (h : ∀ H1, Ex H H1 → ∀ Q : VK, (∀ S H2, H1 S = none → Ex H1 H2 → SpanOk K H2 S rs → Q (.ref S) H2) → te σ H1 Q) (ha : Ev ta σ H (.ref a)) (hs : H a = some (.ins C dx fs)) (c : Cls K C) (n : NoAttr K C f) (hl : fs.length < 1000)
    (k : ∀ S H1, S ≠ a → H1 a = some (.ins C dx (putF f (.ref S) fs)) → Kp [a] H H1 → TK H H1 → SpanOk K H1 S rs → tz D σ H1) : tSeq (sFld K ta te f) tz D σ H := h H (Ex.refl H) _ fun S H1 hS e1 sp => ha H1 e1 _ fun H2 e2 => by
  have hn : S ≠ a := fun e => by rw [e, hs] at hS; cases hS
  have e12 := e1.trans e2
  have t := TK.upd (e12 _ _ hs) trivial (o := .ins C dx (putF f (.ref S) fs))
  have kS := Kp.wr (L := [a]) (H := H2) (b := a) (o := .ins C dx (putF f (.ref S) fs)) (by simp)
  exact ⟨a, C, dx, fs, rfl, e12 _ _ hs, c, n, hl, k S _ hn upd_same ((Kp.ex e12).trans kS) ((TK.ex e12).trans t) ((sp.ex e2).kp kS t (by simp; exact hn))⟩
theorem sc_init : FnScope ["self", "rows"] ["self", "rows"] (defScope Kd.s_Runner_init) := ⟨rfl, rfl, rfl, by decide +kernel, rfl, by decide +kernel, by decide +kernel⟩
theorem ok_init (T : Tx w K mg) : Ok Pg w K mg base CX0 2 (He.ma K (CR K) "__init__") ["self", "rows"] (spInit K) := by
  refine ok_of T.f_Runner_init sc_init (fun vs H Q E h => by obtain ⟨a, _, _, _, rfl, _⟩ := h; rfl) (fun _ _ _ _ _ _ us hl => match us, hl with | [_, _], _ => rfl) fun cdv A outer s0 H vs Q E hr h => ?_
  obtain ⟨x, dx, rv, rs, rfl, hx, hv, W, hz, hk⟩ := h
  refine ⟨_, (pss_cons (ps_fld (pv 0) (pv 1) (by rfl))
    (pss_cons (ps_fld (pv 0) (pe_fn (ok_spans_of T) (hr.mono (by decide)) T.g_spans_of pass0 (pa_cons (pv 1) pa_nil)) (by rfl))
    (pss_cons (ps_fld (pv 0) (pe_lst (pa_cons (pe_tup (pa_cons pe_int (pa_cons pe_int pa_nil))) pa_nil)) (by rfl))
    (pss_cons (ps_fld (pv 0) (pgl T.g_CORNER) (by rfl))
    (pss_cons (ps_fld (pv 0) pe_str (by rfl))
    (pss_cons (ps_fld (pv 0) pe_int (by rfl))
    (pss_cons (ps_fld (pv 0) (pgl T.g_NOUGHT) (by rfl))
    (pss_cons (ps_fld (pv 0) (pe_lst (pa_cons (pe_tup pa_nil) pa_nil)) (by rfl))
    (pss_cons (ps_fld (pv 0) pe_int (by rfl))
    (pss_one (ps_fld (pv 0) (pe_lst pa_nil) (by rfl)))))))))))), ?_⟩
  refine q_ini (K := K) (d := rowsD rs) (d_var hv rfl) (ev_var rfl) hx T.c_Runner T.a_Runner_rows (show 0 < 1000 by decide) fun w1 H1 b1 k1 t1 d1 => ?_
  have hv1 := hv.tk t1
  refine q_iniS (K := K) (rs := rs) (fun H2 e2 Q q => (ea_cons (ta := tVar 1) (σ := start ["self", "rows"] [.ref x, rv]) (ev_var rfl) ea_nil) H2 (Ex.refl _) _ fun H3 e3 => ⟨rv, rs, rfl, (hv1.ex e2).ex e3, W, hz, fun S H4 hS e4 sp => q S H4 (fresh_back e3 hS) (e3.trans e4) sp⟩) (ev_var rfl) b1 T.c_Runner T.a_Runner_spans (show 1 < 1000 by decide) fun S G hxS b3 k3 T3 sp3 => ?_
  refine q_iniN (K := K) (ds := [.tuple [.int 0, .int 0]]) (n_lst (ds_cons (d_tup2 (ds_cons d_int (ds_cons d_int ds_nil))) ds_nil) (by show 1 ≤ 100000; decide)) (ev_var rfl) b3 T.c_Runner T.a_Runner_trail (show 2 < 1000 by decide) fun tr tvs H4 hn4 nx4 b4 k4 t4 l4 d4 => ?_
  refine q_ini (K := K) (d := pD ((0, 1), (0, 1))) (d_const (T.d_CORNER _)) (ev_var rfl) b4 T.c_Runner T.a_Runner_place (show 3 < 1000 by decide) fun w5 H5 b5 k5 t5 d5 => ?_
  refine q_ini (K := K) (d := .str "from") d_str (ev_var rfl) b5 T.c_Runner T.a_Runner_mode (show 4 < 1000 by decide) fun w6 H6 b6 k6 t6 d6 => ?_
  refine q_ini (K := K) (d := .int 0) d_int (ev_var rfl) b6 T.c_Runner T.a_Runner_pace (show 5 < 1000 by decide) fun w7 H7 b7 k7 t7 d7 => ?_
  refine q_ini (K := K) (d := nD (0, 1)) (d_const (T.d_NOUGHT _)) (ev_var rfl) b7 T.c_Runner T.a_Runner_side (show 6 < 1000 by decide) fun w8 H8 b8 k8 t8 d8 => ?_
  refine q_iniN (K := K) (ds := [.tuple []]) (n_lst (ds_cons (d_tup ds_nil (by show 0 ≤ 100000; decide)) ds_nil) (by show 1 ≤ 100000; decide)) (ev_var rfl) b8 T.c_Runner T.a_Runner_frames (show 7 < 1000 by decide) fun fr fvs H9 hn9 nx9 b9 k9 t9 l9 d9 => ?_
  refine q_ini (K := K) (d := .int 0) d_int (ev_var rfl) b9 T.c_Runner T.a_Runner_many (show 8 < 1000 by decide) fun w10 H10 b10 k10 t10 d10 => ?_
  refine s_iniN (K := K) (ds := []) (n_lst ds_nil (by show 0 ≤ 100000; decide)) (ev_var rfl) b10 T.c_Runner T.a_Runner_made (show 9 < 1000 by decide) fun md mvs H11 hn11 nx11 b11 k11 t11 l11 d11 => ?_
  have kp : ∀ p, p ≠ x → p ∉ [x] := fun p h => by simp; exact h
  -- from behind
  have T9 := t10.trans t11
  have T8 := t9.trans T9
  have T7 := t8.trans T8
  have T6 := t7.trans T7
  have T5 := t6.trans T6
  have T4 := t5.trans T5
  have TG := t4.trans T4
  have K9 := k10.trans k11
  have K8 := k9.trans K9
  have K4 := k5.trans (k6.trans (k7.trans (k8.trans K8)))
  have KG := k4.trans K4
  have K1 := k3.trans KG
  have KH := k1.trans K1
  have l9' := K9 _ _ (kp _ nx9) l9
  have l4' := K4 _ _ (kp _ nx4) l4
  have n1 : tr ≠ fr := fun e => by
    have z := (k5.trans (k6.trans (k7.trans k8))) _ _ (kp _ nx4) l4
    rw [e, hn9] at z
    cases z
  have n2 : tr ≠ md := fun e => by
    have z := (k5.trans (k6.trans (k7.trans (k8.trans (k9.trans k10))))) _ _ (kp _ nx4) l4
    rw [e, hn11] at z
    cases z
  have n3 : fr ≠ md := fun e => by
    have z := k10 _ _ (kp _ nx9) l9
    rw [e, hn11] at z
    cases z
  have f4 : H tr = none := (k1.trans k3).none hn4 (kp _ nx4)
  have f9 : H fr = none := (k1.trans (k3.trans (k4.trans (k5.trans (k6.trans (k7.trans k8)))))).none hn9 (kp _ nx9)
  have f11 : H md = none := (k1.trans (k3.trans (k4.trans (k5.trans (k6.trans (k7.trans (k8.trans (k9.trans k10)))))))).none hn11 (kp _ nx11)
  have spF := sp3.kp KG TG (kp _ hxS)
  refine hk tr fr md H11 ⟨dx, S, w1, w5, w8, tvs, fvs, mvs, ?_⟩ KH f4 f9 f11
  rw [d6.str_eq, d7.int_eq, d10.int_eq] at b11
  exact ⟨b11, d1.tk (T3.trans TG), spF, d5.tk T5, d8.tk T8, l4', d4.tk T4, l9', d9.tk T9, l11, d11, n1, n2, n3⟩
end
end Kx

set_option Elab.async false
set_option linter.all false
set_option maxRecDepth 100000
set_option maxHeartbeats 4000000
namespace Kx
open PySem PySem.Spec PyProof.Rows L2 Evl HT
/-! ### texts as data -/
section
variable {K : PySem.W.Frag} {H H' : Hp} {σ : L2.St} {ta tb tc te : TE} {tt : TT} {a b z : Str} {ds : List PyData}
theorem d_startS (ha : EvD K ta σ H (.str a)) (hb : EvD K tb σ H (.str b)) : EvD K (tM1 (fun x xs H Q => ∃ a b, x = .str a ∧ xs = [.str b] ∧ Q (.bl (Txt.startswith a b)) H) ta tb) σ H (.bool (Txt.startswith a b)) := fun H1 e Q q =>
  ha.str H1 e _ fun H2 e2 => ⟨⟨a, rfl⟩, hb.str H2 (e.trans e2) _ fun H3 e3 => ⟨a, b, rfl, rfl, q _ H3 (e2.trans e3) (.bl _)⟩⟩
def rLenT : List V → Hp → VK → Prop := fun xs H Q => ∃ z, xs = [.str z] ∧ z.length ≤ sizeLine ∧ Q (.int z.length) H
theorem d_lenS (ha : EvD K ta σ H (.str z)) (hz : z.length ≤ 100000) : EvD K (tCB rLenT (tCons ta tNil)) σ H (.int z.length) := fun H1 e Q q => ha.str H1 e _ fun H2 e2 => ⟨z, rfl, sz_of hz, q _ H2 e2 (.int _)⟩
theorem d_cutS {tl th : TO} {lo hi : Option Int} (ha : EvD K ta σ H (.str z)) (hl : EvO tl σ H lo) (hh : EvO th σ H hi) (hz : z.length ≤ 100000) : EvD K (tSl rSlS ta tl th) σ H (.str (cutS z lo hi)) := fun H1 e Q q =>
  ha.str H1 e _ fun H2 e2 => hl H2 (e.trans e2) _ fun H3 e3 => hh H3 ((e.trans e2).trans e3) _ fun H4 e4 => ⟨z, rfl, sz_of hz, q _ H4 ((e2.trans e3).trans e4) (.str _)⟩
theorem d_ixS {i : Int} {c : Nat} (ha : EvD K ta σ H (.str z)) (hb : EvD K tb σ H (.int i)) (hz : z.length ≤ 100000) (hc : atI z.cps.toList i = some c) : EvD K (tOp rIxS ta tb) σ H (.str ⟨#[c]⟩) := fun H1 e Q q =>
  ha.str H1 e _ fun H2 e2 => hb.int H2 (e.trans e2) _ fun H3 e3 => ⟨z, i, c, rfl, rfl, sz_of hz, hc, q _ H3 (e2.trans e3) (.str _)⟩
theorem d_chain {f g : Int → Int → Bool} {i j k : Int} (ha : EvD K ta σ H (.int i)) (hb : EvD K tb σ H (.int j)) (hc : EvD K tc σ H (.int k)) : EvD K (tChain (rI0 fun i j => .bl (f i j)) (rI0 fun i j => .bl (g i j)) ta tb tc) σ H (.bool (f i j && g j k)) := fun H1 e Q q =>
  ha.int H1 e _ fun H2 e2 => hb.int H2 (e.trans e2) _ fun H3 e3 => ⟨i, j, rfl, rfl, f i j, rfl, by
    cases hf : f i j with
    | false => rw [if_neg (by decide)]; rw [hf] at q; exact q _ H3 (e2.trans e3) (.bl _)
    | true =>
      rw [if_pos rfl]
      rw [hf] at q
      exact hc.int H3 ((e.trans e2).trans e3) _ fun H4 e4 => ⟨j, k, rfl, rfl, q _ H4 ((e2.trans e3).trans e4) (.bl _)⟩⟩
def rLeS : R2 := fun x y H Q => ∃ i j, x = .str i ∧ y = .str j ∧ Q (.bl (!decide (j.cps.toList < i.cps.toList))) H
theorem d_chainS {i j k : Str} (ha : EvD K ta σ H (.str i)) (hb : EvD K tb σ H (.str j)) (hc : EvD K tc σ H (.str k)) : EvD K (tChain rLeS rLeS ta tb tc) σ H (.bool (!decide (j.cps.toList < i.cps.toList) && !decide (k.cps.toList < j.cps.toList))) := fun H1 e Q q =>
  ha.str H1 e _ fun H2 e2 => hb.str H2 (e.trans e2) _ fun H3 e3 => ⟨i, j, rfl, rfl, _, rfl, by
    cases hf : !decide (j.cps.toList < i.cps.toList) with
    | false => rw [if_neg (by decide)]; rw [hf] at q; exact q _ H3 (e2.trans e3) (.bl _)
    | true =>
      rw [if_pos rfl]
      rw [hf] at q
      exact hc.str H3 ((e.trans e2).trans e3) _ fun H4 e4 => ⟨j, k, rfl, rfl, q _ H4 ((e2.trans e3).trans e4) (.bl _)⟩⟩
def rNiS : R2 := fun x y H Q => ∃ (c : Nat) (z : Str), x = .str ⟨#[c]⟩ ∧ y = .str z ∧ Q (.bl (!decide (c ∈ z.cps.toList))) H
theorem d_niS {c : Nat} (ha : EvD K ta σ H (.str ⟨#[c]⟩)) (hb : EvD K tb σ H (.str z)) : EvD K (tOp rNiS ta tb) σ H (.bool (!decide (c ∈ z.cps.toList))) := fun H1 e Q q =>
  ha.str H1 e _ fun H2 e2 => hb.str H2 (e.trans e2) _ fun H3 e3 => ⟨c, z, rfl, rfl, q _ H3 (e2.trans e3) (.bl _)⟩
/-- over a text's signs -/
theorem n_lcS {j : Nat} {vs : List Nat} {g : Nat → PyData} (h : EvD K ta σ H (.str z)) (hz : z.length ≤ 50000) (hw : ∀ x, wipe ((wipe σ vs).set j (some x)) vs = wipe σ vs)
    (he : ∀ (c : Nat) H1, Ex H H1 → c ∈ z.cps.toList → EvD K te ((wipe σ vs).set j (some (.str ⟨#[c]⟩))) H1 (g c)) : EvN K (tLc (iStr ta) (gName j) tYes te vs) σ H (z.cps.toList.map g) := fun H0 e0 Q q => h.str H0 e0 _ fun H1 e1 => by
  have e01 := e0.trans e1
  refine ⟨z, rfl, fun Dl hD => ?_⟩
  have hl : z.cps.toList.length = z.cps.size := by simp
  have hz' : z.cps.size ≤ 50000 := hz
  refine ⟨fun i m H' => m = z.cps.size - i ∧ i ≤ z.cps.size ∧ Ex H1 H' ∧ ∃ acc, H' Dl = some (.lst acc) ∧ DtL K H' acc ([] ++ ((z.cps.toList.take i).filter fun _ => true).map g), ⟨z.cps.size, rfl, Nat.zero_le _, Ex.new hD, [], upd_same, .nil⟩, ?_⟩
  rintro i m H' ⟨rfl, hi, ex1, hacc⟩
  by_cases hlt : i < z.cps.size
  · refine .inr ⟨hlt, fun H' => Ex H1 H' ∧ ∃ acc, H' Dl = some (.lst acc) ∧ DtL K H' acc ([] ++ ((z.cps.toList.take (i + 1)).filter fun _ => true).map g), fun H'' p => ⟨z.cps.size - (i + 1), by omega, rfl, hlt, p⟩, fun x H'' y => ?_⟩
    obtain ⟨rfl, c, hc, rfl⟩ := y
    have hc' : z.cps.toList[i]? = some c := by simpa using hc
    refine ⟨hw _, acc_next (pre := []) (ds := z.cps.toList) (f := fun _ => true) (g := g) (by simp; exact hz') hD hc' t_yes (fun H2 e2 _ => he c H2 ((e01.trans ex1).trans e2) (List.mem_of_getElem? hc')) ⟨ex1, hacc⟩⟩
  · have ie : i = z.cps.size := by omega
    subst ie
    obtain ⟨acc, h1, h2⟩ := hacc
    rw [List.take_of_length_le (by rw [hl]; exact Nat.le_refl _), List.filter_eq_self.mpr fun _ _ => rfl] at h2
    exact .inl ⟨Nat.le_refl _, q Dl acc H' (fresh_back e1 hD) (e1.trans ex1) h1 h2⟩
theorem dtl_bools {H : Hp} {xs : List V} {bs : List Bool} (h : DtL K H xs (bs.map .bool)) : xs = bs.map V.bl := by
  induction bs generalizing xs with
  | nil => cases h; rfl
  | cons b bs ih =>
    cases h with
    | cons h1 h2 => rw [h1.bool_eq, ih h2]; rfl
theorem d_anyN {bs : List Bool} (h : EvN K ta σ H (bs.map .bool)) : EvD K (tCB (rAny K) (tCons ta tNil)) σ H (.bool (bs.any id)) := fun H1 e Q q => h H1 e _ fun p xs H2 _ e2 h2 hd => ⟨p, bs, rfl, sq_of (by rw [h2, dtl_bools hd]), q _ H2 e2 (.bl _)⟩
theorem d_allN {bs : List Bool} (h : EvN K ta σ H (bs.map .bool)) : EvD K (tCB (rAll K) (tCons ta tNil)) σ H (.bool (bs.all id)) := fun H1 e Q q => h H1 e _ fun p xs H2 _ e2 h2 hd => ⟨p, bs, rfl, sq_of (by rw [h2, dtl_bools hd]), q _ H2 e2 (.bl _)⟩
def rIntS : List V → Hp → VK → Prop := fun xs H Q => ∃ a n, xs = [.str a] ∧ PySem.intText? a = some n ∧ a.length ≤ 640 ∧ Q (.int n) H
theorem d_intS {n : Int} (h : EvD K ta σ H (.str a)) (hn : PySem.intText? a = some n) (hl : a.length ≤ 640) : EvD K (tCB rIntS (tCons ta tNil)) σ H (.int n) := fun H1 e Q q => h.str H1 e _ fun H2 e2 => ⟨a, n, rfl, hn, hl, q _ H2 e2 (.int _)⟩
end
/-! ### whole numbers written -/
def wI (i : Int) : Str := Str.ofString (toString i)
def restW (w : Str) : Str := if Txt.startswith w "-" = true then cutS w (some 1) none else w
def wOkB (w : Str) (i : Int) : Bool := decide (1 ≤ (restW w).length) && (decide ((restW w).length ≤ 4) && ((restW w).cps.toList.all (fun c => decide (c ∈ ("0123456789" : Str).cps.toList)) && (decide ((restW w).cps.toList[0]? = some 48 → w = "0") && (decide (PySem.intText? w = some i) && decide (w.length ≤ 640)))))
theorem wI_ok {i : Int} (h : -20 ≤ i ∧ i ≤ 20) : wOkB (wI i) i = true := by
  have key : ∀ n : Fin 41, wOkB (wI ((n.val : Int) - 20)) ((n.val : Int) - 20) = true := by decide +kernel
  have e := key ⟨(i + 20).toNat, by omega⟩
  have e2 : (((i + 20).toNat : Nat) : Int) - 20 = i := by omega
  simp only [e2] at e
  exact e
end Kx

set_option Elab.async false
set_option linter.all false
set_option maxRecDepth 100000
set_option maxHeartbeats 4000000
namespace Kx
open PySem PySem.Spec PyProof.Rows L2 Evl HT
/-! ### readers -/
def RetN (K : PySem.W.Frag) (H : Hp) (Q : VK) (ds : List PyData) : Prop := ∀ p xs H', H p = none → Ex H H' → H' p = some (.lst xs) → DtL K H' xs ds → Q (.ref p) H'
theorem s_retN {K : PySem.W.Frag} {te : TE} {σ : L2.St} {H : Hp} {ds : List PyData} {D : Ends} (h : EvN K te σ H ds) (k : RetN K H D.rt ds) : tRet te D σ H := h H (Ex.refl H) _ fun p xs H1 hp e hx hd => k p xs H1 hp e hx hd
theorem RetN.go {K : PySem.W.Frag} {H H1 : Hp} {Q : VK} {ds : List PyData} (k : RetN K H Q ds) (e : Ex H H1) : RetN K H1 Q ds := fun p xs H' hp e' hx hd => k p xs H' (fresh_back e hp) (e.trans e') hx hd
section
variable {w : World} {K : PySem.W.Frag} {mg : Str → Option Value} {base : Heap}
def spWhole (K : PySem.W.Frag) : Sp := fun vs H Q _ => ∃ i lo hi : Int, vs = [.str (wI i), .int lo, .int hi] ∧ (-20 ≤ i ∧ i ≤ 20) ∧ lo ≤ i ∧ i ≤ hi ∧ RetN K H Q [.int i]
theorem sc_whole_in : FnScope ["word", "low", "high", "rest", "sign"] ["word", "low", "high"] (defScope Kd.s_whole_in) := ⟨rfl, rfl, rfl, by decide +kernel, rfl, by decide +kernel, by decide +kernel⟩
theorem restW_len {w : Str} (h : w.length ≤ 640) : (restW w).length ≤ 640 := by
  unfold restW
  split
  · unfold cutS
    show (List.toArray _).size ≤ 640
    rw [List.size_toArray, List.length_take, List.length_drop]
    have : w.cps.toList.length = w.length := by simp [Str.length]
    omega
  · exact h
theorem ok_whole_in (T : Tx w K mg) : Ok Pg w K mg base CX0 1 (He.ga K "whole_in") ["word", "low", "high"] (spWhole K) := by
  refine ok_of T.f_whole_in sc_whole_in (fun vs H Q E h => by obtain ⟨_, _, _, rfl, _⟩ := h; rfl) (fun _ _ _ _ _ _ us hl => match us, hl with | [_, _, _], _ => rfl) fun cdv A outer s0 H vs Q E hr h => ?_
  obtain ⟨i, lo, hi, rfl, hI, h1, h2, hk⟩ := h
  refine ⟨_, PSs.nox (pss_cons (ps_set (i := 3) sc_whole_in.nd rfl (Or.inl rfl) (pe_ifExp (pt_val (pe_m1 PySem.F.slot_str_startswith PySem.F.type_str_startswith mt_startswith (pv 0) pe_str)) (pe_slice sl_str (pv 0) (po_some pe_int) po_none) (pv 0)))
    (pss_cons (ps_if (PW.pt (pw_or (pt_not (pt_chain op_le op_le pe_int (pe_callB call_len_str (by rfl) T.b_len PySem.boot_len (pa_cons (pv 3) pa_nil)) (pgi T.n_MOST_FIGURES))) (pw_or1 (pt_val (pe_callB (cr_any rfl) (by rfl) T.b_any PyProof.Rows.boot_any (pa_cons (pe_lc (own := [("sign", 4)]) (g := gName 4) (tt := tYes) (by rfl) sc_whole_in.nd (pi_str (pv 3))
        (blkOk_by (own := [("sign", 4)]) (N := ["word", "low", "high", "rest", "sign"]) (sc := defScope Kd.s_whole_in) (by decide +kernel)) (fun _ _ _ _ _ => pg_name (i := 4) sc_whole_in.nd rfl (Or.inl rfl)) (fun _ _ _ _ _ => pts_nil) (fun _ _ _ _ _ => pe_cmpR op_notIn_sign (pv 4) pe_str (by rfl))) pa_nil)))))) (pss_one (ps_ret (pe_lst pa_nil))) pss_nil)
    (pss_cons (ps_if (PW.pt (pw_or (PW.pt (pw_and (pt_cmpR op_eq (pe_ix ix_str (pv 3) pe_int fun _ _ => rfl) pe_str (nomark _)) (pw_and1 (pt_cmpR op_ne (pv 0) pe_str (nomark _))))) (pw_or1 (pt_not (pt_chain op_le op_le (pv 1) (pe_callTy call_int_str (by rfl) T.b_int PyProof.Rows.boot_int (pa_cons (pv 0) pa_nil)) (pv 2)))))) (pss_one (ps_ret (pe_lst pa_nil))) pss_nil)
    (pss_one (ps_ret (pe_lst (pa_cons (pe_callTy call_int_str (by rfl) T.b_int PyProof.Rows.boot_int (pa_cons (pv 0) pa_nil)) pa_nil))))))), ?_⟩
  have ok := wI_ok hI
  unfold wOkB at ok
  simp only [Bool.and_eq_true, decide_eq_true_eq] at ok
  obtain ⟨g1, g2, g3, g4, g5, g6⟩ := ok
  have lr := restW_len g6
  refine q_asgD (K := K) (d := .str (restW (wI i))) ?_ fun v H1 e1 xr => ?_
  · unfold restW
    refine d_if (t_B (K := K) (d_startS (d_vstr rfl) d_str)) (fun h => ?_) fun h => ?_
    · rw [if_pos h]; exact d_cutS (d_vstr rfl) (eo_some (d_int (K := K)).int) eo_none (by omega)
    · rw [if_neg (by rw [h]; decide)]; exact d_vstr rfl
  rw [xr.str_eq]
  have n1 := n_lcS (K := K) (σ := [some (.str (wI i)), some (.int lo), some (.int hi), some (.str (restW (wI i))), none]) (H := H1) (ta := tVar 3) (te := tOp rNiS (tVar 4) (tC (.str "0123456789"))) (j := 4) (vs := [4]) (g := fun c => .bool (!decide (c ∈ ("0123456789" : Str).cps.toList))) (d_vstr rfl) (by omega) (fun x => rfl) fun c H2 e2 hc => d_niS (d_vstr rfl) d_str
  have n2 := d_anyN (K := K) (bs := (restW (wI i)).cps.toList.map fun c => !decide (c ∈ ("0123456789" : Str).cps.toList)) (n1.is (by rw [List.map_map]; rfl))
  have anyF : (((restW (wI i)).cps.toList.map fun c => !decide (c ∈ ("0123456789" : Str).cps.toList)).any id) = false := by
    rw [List.any_eq_false]
    intro b hb
    obtain ⟨c, hc, rfl⟩ := List.mem_map.mp hb
    have := List.all_eq_true.mp g3 c hc
    simp only [id]
    rw [this]; decide
  rw [anyF] at n2
  refine q_when (b := !(decide ((1 : Int) ≤ ((restW (wI i)).length : Int)) && decide (((restW (wI i)).length : Int) ≤ 4)) || false) (et_or (et_not (t_test (K := K) (d_chain (f := fun i j => decide (i ≤ j)) (g := fun i j => decide (i ≤ j)) d_int (d_lenS (d_vstr rfl) (by omega)) d_int))) fun _ => t_B n2) (fun hb => ?_) fun _ H2 e2 => ?_
  · have a1 : decide ((1 : Int) ≤ ((restW (wI i)).length : Int)) = true := decide_eq_true (by omega)
    have a2 : decide (((restW (wI i)).length : Int) ≤ 4) = true := decide_eq_true (by omega)
    rw [a1, a2] at hb
    exact absurd hb (by decide)
  obtain ⟨c0, hc0⟩ : ∃ c, (restW (wI i)).cps.toList[0]? = some c := by
    have : 0 < (restW (wI i)).cps.toList.length := by
      have : (restW (wI i)).cps.toList.length = (restW (wI i)).length := by simp [Str.length]
      omega
    exact ⟨_, List.getElem?_eq_getElem this⟩
  have eI : EvD K (tCB rIntS (tCons (tVar 0) tNil)) [some (.str (wI i)), some (.int lo), some (.int hi), some (.str (restW (wI i))), none] H2 (.int i) := d_intS (d_vstr rfl) g5 g6
  have z0 : decide ((⟨#[c0]⟩ : Str) = "0") = true → decide (wI i = "0") = true := fun h => by
    have e := of_decide_eq_true h
    have e2 : c0 = 48 := by
      have := congrArg (fun s : Str => s.cps.toList) e
      have q : [c0] = ("0" : Str).cps.toList := this
      rw [show ("0" : Str).cps.toList = [48] from by decide +kernel] at q
      exact List.head_eq_of_cons_eq q
    subst e2
    exact decide_eq_true (g4 hc0)
  refine q_when (b := (decide ((⟨#[c0]⟩ : Str) = "0") && !decide (wI i = "0")) || !(decide (lo ≤ i) && decide (i ≤ hi))) (et_or (et_and (t_test (K := K) (d_eqS (d_ixS (d_vstr rfl) d_int (by omega) (atI_nat' (j := 0) hc0)) d_str)) fun _ => t_test (K := K) (d_neS (d_vstr rfl) d_str)) fun _ => et_not (t_test (K := K) (d_chain (f := fun i j => decide (i ≤ j)) (g := fun i j => decide (i ≤ j)) (d_vint rfl) eI (d_vint rfl)))) (fun hb => ?_) fun _ H3 e3 => ?_
  · rw [decide_eq_true h1, decide_eq_true h2] at hb
    cases hz : decide ((⟨#[c0]⟩ : Str) = "0") with
    | false => rw [hz] at hb; simp at hb
    | true => rw [hz, z0 hz] at hb; simp at hb
  exact s_retN (n_lst (ds_cons (eI.mono e3) ds_nil) (by show 1 ≤ 100000; decide)) (hk.go ((e1.trans e2).trans e3))
/-! ### numbers, words, names -/
def NuOk (u : Nu) : Prop := (-20 ≤ u.1 ∧ u.1 ≤ 20) ∧ (u.2 = 1 ∨ ((2 ≤ u.2 ∧ u.2 ≤ 20) ∧ gcdI u.1 u.2 = 1))
def wN (u : Nu) : Str := Txt.join "/" (if 1 < u.2 then [wI u.1, wI u.2] else [wI u.1])
def wO : Option Nu → Str
  | none => "."
  | some u => wN u
def NameOk (nm : Str) : Prop := (1 ≤ nm.length ∧ nm.length ≤ 8) ∧ ∀ c ∈ nm.cps.toList, 97 ≤ c ∧ c ≤ 122
def RX (x : Str) (d : PyData) : Prop := ∃ z : Option Nu, (∀ u, z = some u → NuOk u) ∧ x = wO z ∧ d = oD z
def RR (x : Str) (d : PyData) : Prop := ∃ u, NuOk u ∧ x = wN u ∧ d = nD u
def RL (x : Str) (d : PyData) : Prop := ∃ u, NuOk u ∧ 0 < u.1 ∧ x = wN u ∧ d = nD u
def RP (x : Str) (d : PyData) : Prop := ∃ i : Int, (-20 ≤ i ∧ i ≤ 20) ∧ x = wI i ∧ d = .int i
def RG (x : Str) (d : PyData) : Prop := ∃ i : Int, (0 ≤ i ∧ i ≤ 9) ∧ x = wI i ∧ d = .int i
def RT (x : Str) (d : PyData) : Prop := ∃ i : Int, (1 ≤ i ∧ i ≤ 20) ∧ x = wI i ∧ d = .int i
def RN (x : Str) (d : PyData) : Prop := NameOk x ∧ d = .str x
def spRead (K : PySem.W.Frag) (R : Str → PyData → Prop) : Sp := fun vs H Q _ => ∃ x d, vs = [.str x] ∧ R x d ∧ RetN K H Q [d]
theorem n_read {R : Str → PyData → Prop} {σ : L2.St} {H : Hp} {ta : TE} {E : XK} {x : Str} {d : PyData} (h : EvD K ta σ H (.str x)) (r : R x d) : EvN K (tCall (spRead K R) [] E (tCons ta tNil)) σ H [d] := fun H1 e Q q =>
  (ea_cons h.str ea_nil) H1 e _ fun H2 e2 => ⟨x, d, rfl, r, fun p xs H3 hp e3 hx hd => q p xs H3 (fresh_back e2 hp) (e2.trans e3) hx hd⟩
theorem n_whole {σ : L2.St} {H : Hp} {ta tb tc : TE} {E : XK} {i lo hi : Int} (h : EvD K ta σ H (.str (wI i))) (h1 : EvD K tb σ H (.int lo)) (h2 : EvD K tc σ H (.int hi)) (b : -20 ≤ i ∧ i ≤ 20) (b1 : lo ≤ i) (b2 : i ≤ hi) : EvN K (tCall (spWhole K) [] E (tCons ta (tCons tb (tCons tc tNil)))) σ H [.int i] := fun H1 e Q q =>
  (ea_cons h.str (ea_cons h1.int (ea_cons h2.int ea_nil))) H1 e _ fun H2 e2 => ⟨i, lo, hi, rfl, b, b1, b2, fun p xs H3 hp e3 hx hd => q p xs H3 (fresh_back e2 hp) (e2.trans e3) hx hd⟩
theorem ok_read1 {x : Str} {st : Stmt} {N : List Str} {k : Nat} {R : Str → PyData → Prop} (F : ∃ fd, FunD K x x (defArgs st) (defBody st) (defScope st) [] [] (He.ga K x) fd) (S : FnScope N ["word"] (defScope st))
    (bnd : ∀ (kV doc pm : Value) (an : Option Addr) (cdv ct : Value) (us : List Value), us.length = 1 → bindArgs (PySem.W.fnOf x x (defArgs st) (defBody st) (defScope st) .none kV doc pm an cdv ct) ⟨us, []⟩ = pure ((["word"] : List Str).zip us))
    (hbody : ∀ (cdv : Value) (A : Around) (outer : List Env) (s0 : Shared) (H : Hp) (Q : VK) (E : XK), Room k (A.deeper (envOfC x (defScope st) s0.heap.objs.size (He.ga K x) cdv)) →
      ∃ t, PSs (cxOf CX0 Pg w K mg base N x (defScope st) (He.ga K x) cdv A outer s0 H E) (defBody st) t ∧ ∀ y d, R y d → RetN K H Q [d] → t { nx := fun _ H' => Q .non H', rt := Q } (start N [.str y]) H) :
    Ok Pg w K mg base CX0 (k + 1) (He.ga K x) ["word"] (spRead K R) := by
  refine ok_of F S (fun vs H Q E h => by obtain ⟨_, _, rfl, _⟩ := h; rfl) (fun kV doc pm an cdv ct us hl => bnd kV doc pm an cdv ct us hl) fun cdv A outer s0 H vs Q E hr h => ?_
  obtain ⟨y, d, rfl, h1, h2⟩ := h
  obtain ⟨t, ht, h⟩ := hbody cdv A outer s0 H Q E hr
  exact ⟨t, ht, h y d h1 h2⟩
theorem sc_turn_in : FnScope ["word"] ["word"] (defScope Kd.s_turn_in) := ⟨rfl, rfl, rfl, by decide +kernel, rfl, by decide +kernel, by decide +kernel⟩
theorem ok_turn_in (T : Tx w K mg) : Ok Pg w K mg base CX0 2 (He.ga K "turn_in") ["word"] (spRead K RP) := by
  refine ok_read1 T.f_turn_in sc_turn_in (fun _ _ _ _ _ _ us hl => match us, hl with | [_], _ => rfl) fun cdv A outer s0 H Q E hr => ⟨_, pss_one (ps_ret (pe_fn (ok_whole_in T) (hr.mono (by decide)) T.g_whole_in pass0 (pa_cons (pv 0) (pa_cons (pe_op op_sub pe_int (pgi T.n_MOST_TURN)) (pa_cons (pgi T.n_MOST_TURN) pa_nil))))), ?_⟩
  rintro y d ⟨i, hi, rfl, rfl⟩ hk
  exact s_retN (n_whole (d_vstr rfl) (d_ii (f := fun i j => i - j) d_int d_int) d_int hi (by omega) (by omega)) hk
theorem sc_pace_in : FnScope ["word"] ["word"] (defScope Kd.s_pace_in) := ⟨rfl, rfl, rfl, by decide +kernel, rfl, by decide +kernel, by decide +kernel⟩
theorem ok_pace_in (T : Tx w K mg) : Ok Pg w K mg base CX0 2 (He.ga K "pace_in") ["word"] (spRead K RG) := by
  refine ok_read1 T.f_pace_in sc_pace_in (fun _ _ _ _ _ _ us hl => match us, hl with | [_], _ => rfl) fun cdv A outer s0 H Q E hr => ⟨_, pss_one (ps_ret (pe_fn (ok_whole_in T) (hr.mono (by decide)) T.g_whole_in pass0 (pa_cons (pv 0) (pa_cons pe_int (pa_cons (pgi T.n_MOST_PACE) pa_nil))))), ?_⟩
  rintro y d ⟨i, hi, rfl, rfl⟩ hk
  exact s_retN (n_whole (d_vstr rfl) d_int d_int ⟨by omega, by omega⟩ (by omega) (by omega)) hk
theorem sc_times_in : FnScope ["word"] ["word"] (defScope Kd.s_times_in) := ⟨rfl, rfl, rfl, by decide +kernel, rfl, by decide +kernel, by decide +kernel⟩
theorem ok_times_in (T : Tx w K mg) : Ok Pg w K mg base CX0 2 (He.ga K "times_in") ["word"] (spRead K RT) := by
  refine ok_read1 T.f_times_in sc_times_in (fun _ _ _ _ _ _ us hl => match us, hl with | [_], _ => rfl) fun cdv A outer s0 H Q E hr => ⟨_, pss_one (ps_ret (pe_fn (ok_whole_in T) (hr.mono (by decide)) T.g_whole_in pass0 (pa_cons (pv 0) (pa_cons pe_int (pa_cons (pgi T.n_MOST_TIMES) pa_nil))))), ?_⟩
  rintro y d ⟨i, hi, rfl, rfl⟩ hk
  exact s_retN (n_whole (d_vstr rfl) d_int d_int ⟨by omega, by omega⟩ (by omega) (by omega)) hk
theorem sc_name_in : FnScope ["word", "sign"] ["word"] (defScope Kd.s_name_in) := ⟨rfl, rfl, rfl, by decide +kernel, rfl, by decide +kernel, by decide +kernel⟩
theorem ok_name_in (T : Tx w K mg) : Ok Pg w K mg base CX0 1 (He.ga K "name_in") ["word"] (spRead K RN) := by
  refine ok_read1 T.f_name_in sc_name_in (fun _ _ _ _ _ _ us hl => match us, hl with | [_], _ => rfl) fun cdv A outer s0 H Q E hr => ⟨_, PSs.nox (pss_cons (ps_if (PW.pt (pw_and (pt_chain op_le op_le pe_int (pe_callB call_len_str (by rfl) T.b_len PySem.boot_len (pa_cons (pv 0) pa_nil)) (pgi T.n_MOST_SIGNS)) (pw_and1 (pt_val (pe_callB (cr_all rfl) (by rfl) T.b_all PyProof.Rows.boot_all (pa_cons (pe_lc (own := [("sign", 1)]) (g := gName 1) (tt := tYes) (by rfl) sc_name_in.nd (pi_str (pv 0))
        (blkOk_by (own := [("sign", 1)]) (N := ["word", "sign"]) (sc := defScope Kd.s_name_in) (by decide +kernel)) (fun _ _ _ _ _ => pg_name (i := 1) sc_name_in.nd rfl (Or.inl rfl)) (fun _ _ _ _ _ => pts_nil) (fun _ _ _ _ _ => pe_chain op_le_str op_le_str pe_str (pv 1) pe_str)) pa_nil)))))) (pss_one (ps_ret (pe_lst (pa_cons (pv 0) pa_nil)))) pss_nil) (pss_one (ps_ret (pe_lst pa_nil)))), ?_⟩
  rintro y d ⟨⟨⟨h1, h2⟩, h3⟩, rfl⟩ hk
  have n1 := n_lcS (K := K) (σ := [some (.str y), none]) (H := H) (ta := tVar 0) (te := tChain rLeS rLeS (tC (.str "a")) (tVar 1) (tC (.str "z"))) (j := 1) (vs := [1]) (z := y) (g := fun c => .bool (!decide (([c] : List Nat) < ("a" : Str).cps.toList) && !decide (("z" : Str).cps.toList < ([c] : List Nat)))) (d_vstr rfl) (by omega) (fun x => rfl) fun c H2 e2 hc => d_chainS (i := "a") (j := (⟨#[c]⟩ : Str)) (k := "z") d_str (d_vstr rfl) d_str
  have n2 := d_allN (K := K) (bs := y.cps.toList.map fun c => (!decide (([c] : List Nat) < ("a" : Str).cps.toList) && !decide (("z" : Str).cps.toList < ([c] : List Nat)))) (n1.is (by rw [List.map_map]; rfl))
  have allT : ((y.cps.toList.map fun c => (!decide (([c] : List Nat) < ("a" : Str).cps.toList) && !decide (("z" : Str).cps.toList < ([c] : List Nat)))).all id) = true := by
    rw [List.all_eq_true]
    intro b hb
    obtain ⟨c, hc, rfl⟩ := List.mem_map.mp hb
    obtain ⟨c1, c2⟩ := h3 c hc
    have ea : ("a" : Str).cps.toList = [97] := by decide +kernel
    have ez : ("z" : Str).cps.toList = [122] := by decide +kernel
    rw [ea, ez]
    have n1 : ¬ ([c] : List Nat) < [97] := fun h => by
      rw [List.cons_lt_cons_iff] at h
      rcases h with h | ⟨_, h⟩
      · omega
      · exact absurd h (by decide)
    have n2 : ¬ ([122] : List Nat) < [c] := fun h => by
      rw [List.cons_lt_cons_iff] at h
      rcases h with h | ⟨_, h⟩
      · omega
      · exact absurd h (by decide)
    simp [n1, n2]
  rw [allT] at n2
  refine q_when (b := (decide ((1 : Int) ≤ (y.length : Int)) && decide ((y.length : Int) ≤ 8)) && true) (et_and (t_test (K := K) (d_chain (f := fun i j => decide (i ≤ j)) (g := fun i j => decide (i ≤ j)) d_int (d_lenS (d_vstr rfl) (by omega)) d_int)) fun _ => t_B n2) (fun _ H1 e1 => ?_) fun hb => ?_
  · exact s_retN (n_lst (ds_cons (d_vstr rfl) ds_nil) (by show 1 ≤ 100000; decide)) (hk.go e1)
  · have a1 : decide ((1 : Int) ≤ (y.length : Int)) = true := decide_eq_true (by omega)
    have a2 : decide ((y.length : Int) ≤ 8) = true := decide_eq_true (by omega)
    rw [a1, a2] at hb
    exact absurd hb (by decide)
end
end Kx

set_option Elab.async false
set_option linter.all false
set_option maxRecDepth 100000
set_option maxHeartbeats 4000000
namespace Kx
open PySem PySem.Spec PyProof.Rows L2 Evl HT TL
section
variable {K : PySem.W.Frag} {H H' : Hp} {σ : L2.St} {te tl : TE} {tt : TT} {ds : List PyData}
/-- a comprehension over a list that stands -/
theorem n_lcK {a : Addr} {xs : List V} {j : Nat} {vs : List Nat} {f : PyData → Bool} {g : PyData → PyData} (h : Ev tl σ H (.ref a)) (hs : SqL K H a xs) (hl : DtL K H xs ds) (hz : ds.length ≤ 50000) (hw : ∀ x, wipe ((wipe σ vs).set j (some x)) vs = wipe σ vs)
    (ht : ∀ x d H1, Ex H H1 → d ∈ ds → Dt K H1 x d → EvT tt ((wipe σ vs).set j (some x)) H1 (f d)) (he : ∀ x d H1, Ex H H1 → d ∈ ds → Dt K H1 x d → f d = true → EvD K te ((wipe σ vs).set j (some x)) H1 (g d)) :
    EvN K (tLc (iList K tl) (gName j) tt te vs) σ H ((ds.filter f).map g) := fun H0 e Q q => h H0 e _ fun H1 e1 => by
  have e01 := e.trans e1
  refine ⟨a, rfl, ⟨xs, ex_l e01 hs⟩, fun Dl hD => ?_⟩
  refine lc_list (K := K) (a := a) (xs := xs) (fun i H' => Ex H1 H' ∧ ∃ acc, H' Dl = some (.lst acc) ∧ DtL K H' acc ([] ++ ((ds.take i).filter f).map g)) ⟨Ex.new hD, [], upd_same, by simp; exact .nil⟩ (fun i H' _ p => ex_l (e01.trans p.1) hs) (fun i x H' hx p => ?_) fun H' p => ?_
  · obtain ⟨d, hd, hxd⟩ := hl.get' hx
    have hm := List.mem_of_getElem? hd
    have eH := e01.trans p.1
    exact ⟨hw x, acc_next (pre := []) (by simp; exact hz) hD hd (ht x d H' eH hm (hxd.ex eH)) (fun H2 e2 q => he x d H2 (eH.trans e2) hm (hxd.ex (eH.trans e2)) q) p⟩
  · obtain ⟨x1, acc, h1, h2⟩ := p
    rw [hl.len, List.take_length] at h2
    exact q Dl acc H' (fresh_back e1 hD) (e1.trans x1) h1 h2
/-- a, b, c = a text cut -/
theorem q_cut3 {i j k : Nat} {x y : Str} {D : Ends} {tz : TS} {ta tb : TE} (ha : EvD K ta σ H (.str x)) (hb : EvD K tb σ H (.str y)) (hy : (y.length == 0) = false) (hz : x.length ≤ 100000)
    (c : ∀ H1, Ex H H1 → tz D (((σ.set i (some (.str (Txt.partition x y).1))).set j (some (.str (Txt.partition x y).2.1))).set k (some (.str (Txt.partition x y).2.2))) H1) :
    tSeq (tAsg (tM1 (fun x xs H Q => ∃ a b, x = .str a ∧ xs = [.str b] ∧ (b.length == 0) = false ∧ a.length ≤ sizeLine ∧ ∀ p, H p = none → Q (.ref p) (upd H p (.tup [.str (Txt.partition a b).1, .str (Txt.partition a b).2.1, .str (Txt.partition a b).2.2]))) ta tb)
      (gTup K 3 (gCons (gName i) (gCons (gName j) (gCons (gName k) gNil))))) tz D σ H := ha.str H (Ex.refl _) _ fun H1 e1 => ⟨⟨x, rfl⟩, hb.str H1 e1 _ fun H2 e2 => ⟨x, y, rfl, rfl, hy, sz_of hz, fun p hp => ⟨p, _, rfl, SqT.of upd_same, rfl, _, _, rfl, _, _, rfl, _, _, rfl, rfl, c _ ((e1.trans e2).trans (Ex.new hp))⟩⟩⟩
end
theorem wI_noslash {i : Int} (h : -20 ≤ i ∧ i ≤ 20) : 47 ∉ tl (wI i) ∧ 32 ∉ tl (wI i) ∧ 10 ∉ tl (wI i) ∧ (wI i).length ≤ 3 ∧ 1 ≤ (wI i).length ∧ wI i ≠ "." := by
  have key : ∀ n : Fin 41, (decide (47 ∉ tl (wI ((n.val : Int) - 20))) && (decide (32 ∉ tl (wI ((n.val : Int) - 20))) && (decide (10 ∉ tl (wI ((n.val : Int) - 20))) && (decide ((wI ((n.val : Int) - 20)).length ≤ 3) && (decide (1 ≤ (wI ((n.val : Int) - 20)).length) && decide (wI ((n.val : Int) - 20) ≠ ".")))))) = true := by decide +kernel
  have e := key ⟨(i + 20).toNat, by omega⟩
  have e2 : (((i + 20).toNat : Nat) : Int) - 20 = i := by omega
  simp only [e2, Bool.and_eq_true, decide_eq_true_eq] at e
  exact e
theorem tl_slash : tl ("/" : Str) = [47] := by decide +kernel
theorem wN_one {u : Nu} (h : u.2 = 1) : wN u = wI u.1 := by
  unfold wN
  rw [if_neg (by omega), join_eq]; rfl
theorem wN_two {u : Nu} (h : 1 < u.2) : wN u = wI u.1 ++ "/" ++ wI u.2 := by
  unfold wN
  rw [if_pos h, join_eq]; rfl
theorem part_one {u : Nu} (h : NuOk u) (e : u.2 = 1) : Txt.partition (wN u) "/" = (wI u.1, Str.empty, Str.empty) := by
  rw [wN_one e]
  exact partition_none tl_slash (wI_noslash h.1).1
theorem part_two {u : Nu} (h : NuOk u) (e : 1 < u.2) : Txt.partition (wN u) "/" = (wI u.1, ("/" : Str), wI u.2) := by
  rw [wN_two e]
  exact partition_app tl_slash (wI_noslash h.1).1
theorem wN_len {u : Nu} (h : NuOk u) : (wN u).length ≤ 10 := by
  obtain ⟨h1, h2⟩ := h
  have l1 := (wI_noslash h1).2.2.2.1
  rcases h2 with e | ⟨hb, _⟩
  · rw [wN_one e]; omega
  · rw [wN_two (by omega)]
    have l2 := (wI_noslash (i := u.2) ⟨by omega, by omega⟩).2.2.2.1
    have e1 : ∀ a b : Str, (a ++ b).length = a.length + b.length := fun a b => by rw [len_tl, tl_append, List.length_append, ← len_tl, ← len_tl]
    rw [e1, e1]
    have : ("/" : Str).length = 1 := by decide +kernel
    omega
section
variable {w : World} {K : PySem.W.Frag} {mg : Str → Option Value} {base : Heap}
theorem sc_number_in : FnScope ["word", "top", "mark", "bottom", "one", "two"] ["word"] (defScope Kd.s_number_in) := ⟨rfl, rfl, rfl, by decide +kernel, rfl, by decide +kernel, by decide +kernel⟩
theorem ok_number_in (T : Tx w K mg) : Ok Pg w K mg base CX0 2 (He.ga K "number_in") ["word"] (spRead K RR) := by
  refine ok_read1 T.f_number_in sc_number_in (fun _ _ _ _ _ _ us hl => match us, hl with | [_], _ => rfl) fun cdv A outer s0 H Q E hr => ⟨_, PSs.nox (pss_cons (ps_asg (pe_partition (pv 0) pe_str) (pg_tup (by rfl) (pgs_cons (pg_name (i := 1) sc_number_in.nd rfl (.inl rfl)) (pgs_cons (pg_name (i := 2) sc_number_in.nd rfl (.inl rfl)) (pgs_cons (pg_name (i := 3) sc_number_in.nd rfl (.inl rfl)) pgs_nil)))))
    (pss_cons (ps_set (i := 4) sc_number_in.nd rfl (Or.inl rfl) (pe_fn (ok_whole_in T) (hr.mono (by decide)) T.g_whole_in pass0 (pa_cons (pv 1) (pa_cons (pe_op op_sub pe_int (pgi T.n_MOST_TOP)) (pa_cons (pgi T.n_MOST_TOP) pa_nil)))))
    (pss_cons (ps_if (pt_cmpR op_eq (pv 2) pe_str (nomark _)) (pss_one (ps_ret (pe_lc (own := [("top", 1)]) (g := gName 1) (tt := tYes) (by rfl) sc_number_in.nd (pi_list (pv 4)) (blkOk_by (own := [("top", 1)]) (N := ["word", "top", "mark", "bottom", "one", "two"]) (sc := defScope Kd.s_number_in) (by decide +kernel))
        (fun _ _ _ _ _ => pg_name (i := 1) sc_number_in.nd rfl (Or.inl rfl)) (fun _ _ _ _ _ => pts_nil) (fun _ _ _ _ _ => pe_tup (pa_cons (pv 1) (pa_cons pe_int pa_nil)))))) pss_nil)
    (pss_cons (ps_set (i := 5) sc_number_in.nd rfl (Or.inr rfl) (pe_fn (ok_whole_in T) (hr.mono (by decide)) T.g_whole_in pass0 (pa_cons (pv 3) (pa_cons pe_int (pa_cons (pgi T.n_MOST_BOTTOM) pa_nil)))))
    (pss_one (ps_ret (pe_lc2 (own := [("top", 1), ("bottom", 3)]) (vs1 := [3]) (g := gName 1) (tt := tYes) (wi1 := iList K (tVar 5)) (g1 := gName 3) (tt1 := tTest (tOp rEq (tCall (spP K fShared) [] E (tCons (tVar 1) (tCons (tVar 3) tNil))) (tC (.int 1)))) (by rfl) sc_number_in.nd (pi_list (pv 4)) (blkOk_by (own := [("top", 1), ("bottom", 3)]) (N := ["word", "top", "mark", "bottom", "one", "two"]) (sc := defScope Kd.s_number_in) (by decide +kernel)) (by decide)
        (fun _ _ _ _ _ => pg_name (i := 1) sc_number_in.nd rfl (Or.inl rfl)) (fun _ _ _ _ _ => pts_nil) (fun _ _ _ _ _ => pi_list (pv 5)) (fun _ _ _ _ _ => pg_name (i := 3) sc_number_in.nd rfl (Or.inl rfl)) (fun _ _ _ _ _ => pts_one (pt_cmpR op_eq (pe_fn (ok_shared T) (hr.mono (by decide)) T.g_shared pass0 (pa_cons (pv 1) (pa_cons (pv 3) pa_nil))) pe_int (nomark _))) (fun _ _ _ _ _ => pe_tup (pa_cons (pv 1) (pa_cons (pv 3) pa_nil)))))))))), ?_⟩
  rintro y d ⟨u, hu, rfl, rfl⟩ hk
  refine q_cut3 (K := K) (x := wN u) (y := "/") (d_vstr rfl) d_str (by decide +kernel) (by have := wN_len hu; omega) fun H1 e1 => ?_
  rcases hu.2 with h1 | ⟨h2, h3⟩
  · rw [part_one hu h1]
    refine q_asgN (K := K) (n_whole (i := u.1) (d_vstr rfl) (d_ii (f := fun i j => i - j) d_int d_int) d_int hu.1 (by have := hu.1; omega) (by have := hu.1; omega)) fun p xs H2 hp e2 hx hd => ?_
    refine q_when (b := decide (Str.empty = (""  : Str))) (t_test (K := K) (d_eqS (d_vstr rfl) d_str)) (fun _ H3 e3 => ?_) fun hb => absurd hb (by decide +kernel)
    refine s_retN ?_ (hk.go ((e1.trans e2).trans e3))
    have n := n_lcK (K := K) (σ := [some (.str (wN u)), some (.str (wI u.1)), some (.str Str.empty), some (.str Str.empty), some (.ref p), none]) (H := H3) (tl := tVar 4) (te := tTup (tCons (tVar 1) (tCons (tC (.int 1)) tNil))) (tt := tYes) (a := p) (xs := xs) (j := 1) (vs := [1]) (f := fun _ => true) (g := fun d => .tuple [d, .int 1]) (ev_var rfl) (sq_of (e3 _ _ hx)) (hd.ex e3) (by show 1 ≤ 50000; decide) (fun x => rfl) (fun x d H4 e4 hm hx4 => t_yes) fun x d H4 e4 hm hx4 _ => d_tup2 (ds_cons (d_var hx4 rfl) (ds_cons d_int ds_nil))
    refine n.is ?_
    show [PyData.tuple [.int u.1, .int 1]] = [nD u]
    rw [show nD u = .tuple [.int u.1, .int u.2] from rfl, h1]
  · rw [part_two hu (by omega)]
    refine q_asgN (K := K) (n_whole (i := u.1) (d_vstr rfl) (d_ii (f := fun i j => i - j) d_int d_int) d_int hu.1 (by have := hu.1; omega) (by have := hu.1; omega)) fun p xs H2 hp e2 hx hd => ?_
    refine q_when (b := decide (("/" : Str) = "")) (t_test (K := K) (d_eqS (d_vstr rfl) d_str)) (fun hb => absurd hb (by decide +kernel)) fun _ H3 e3 => ?_
    refine q_asgN (K := K) (n_whole (i := u.2) (d_vstr rfl) d_int d_int ⟨by omega, by omega⟩ h2.1 (by omega)) fun p2 xs2 H4 hp2 e4 hx2 hd2 => ?_
    refine s_retN ?_ (hk.go (((e1.trans e2).trans e3).trans e4))
    have hx' := e4 _ _ (e3 _ _ hx)
    have hd' := (hd.ex e3).ex e4
    have hl : xs.length = 1 := hd.len
    have n := n_lc2 (K := K) (σ := [some (.str (wN u)), some (.str (wI u.1)), some (.str "/"), some (.str (wI u.2)), some (.ref p), some (.ref p2)]) (H := H4) (tl := tVar 4) (te := tTup (tCons (tVar 1) (tCons (tVar 3) tNil))) (tt1 := tTest (tOp rEq (tCall (spP K fShared) [] E (tCons (tVar 1) (tCons (tVar 3) tNil))) (tC (.int 1)))) (a := p) (xs := xs) (wi1 := iList K (tVar 5)) (j := 1) (j1 := 3) (vs := [1, 3]) (vs1 := [3])
      (es := fun _ => [.int u.2]) (f := fun _ _ => true) (g := fun _ d => .tuple [.int u.1, d]) (ev_var rfl) (sq_of hx') (by rw [hl]; show 1 ≤ 50000; decide) (fun x => rfl) (fun x y => rfl)
      (fun i x hxi => ⟨Itl K p2, xs2, hd2, jok_l (sq_of hx2), fun H5 R e5 r => ⟨.ref p2, rfl, p2, rfl, ⟨xs2, sq_of (e5 _ _ hx2)⟩, r⟩⟩)
      (fun i x y d H5 e5 hxi hm hy => by
        have hi : i < xs.length := (List.getElem?_eq_some_iff.mp hxi).1
        have i0 : i = 0 := by omega
        subst i0
        obtain ⟨dx, q1, q2⟩ := hd'.get' hxi
        cases q1
        have dm : d = .int u.2 := List.mem_singleton.mp hm
        subst dm
        have q := t_test (K := K) (d_eqI (a := gcdI u.1 u.2) (d_call (E := E) (f := fShared) (σ := [some (.str (wN u)), some x, some (.str "/"), some y, some (.ref p), some (.ref p2)]) (H := H5) (tA := tCons (tVar 1) (tCons (tVar 3) tNil)) (ds_cons (d_var (q2.ex e5) rfl) (ds_cons (d_var hy rfl) ds_nil)) ⟨u.1, u.2, rfl, rfl⟩) (d_int (n := 1)))
        rw [h3] at q
        exact q)
      fun i x y d H5 e5 hxi hm hy _ => by
        have hi : i < xs.length := (List.getElem?_eq_some_iff.mp hxi).1
        have i0 : i = 0 := by omega
        subst i0
        obtain ⟨dx, q1, q2⟩ := hd'.get' hxi
        cases q1
        exact d_tup2 (ds_cons (d_var (q2.ex e5) rfl) (ds_cons (d_var hy rfl) ds_nil))
    refine n.is ?_
    rw [hl]
    rfl
theorem sc_coordinate_in : FnScope ["word"] ["word"] (defScope Kd.s_coordinate_in) := ⟨rfl, rfl, rfl, by decide +kernel, rfl, by decide +kernel, by decide +kernel⟩
theorem wN_dot {u : Nu} (h : NuOk u) : wN u ≠ "." := fun e => by
  rcases h.2 with h1 | ⟨h2, _⟩
  · rw [wN_one h1] at e
    exact (wI_noslash h.1).2.2.2.2.2 e
  · have q := part_two h (by omega)
    rw [e] at q
    have z : Txt.partition "." "/" = (("." : Str), Str.empty, Str.empty) := by decide +kernel
    rw [z] at q
    have := congrArg (fun t : Str × Str × Str => t.2.1) q
    exact absurd (show Str.empty = ("/" : Str) from this) (by decide +kernel)
theorem ok_coordinate_in (T : Tx w K mg) : Ok Pg w K mg base CX0 3 (He.ga K "coordinate_in") ["word"] (spRead K RX) := by
  refine ok_read1 T.f_coordinate_in sc_coordinate_in (fun _ _ _ _ _ _ us hl => match us, hl with | [_], _ => rfl) fun cdv A outer s0 H Q E hr => ⟨_, PSs.nox (pss_cons (ps_if (pt_cmpR op_eq (pv 0) pe_str (nomark _)) (pss_one (ps_ret (pe_lst (pa_cons pe_non pa_nil)))) pss_nil) (pss_one (ps_ret (pe_fn (ok_number_in T) (hr.mono (by decide)) T.g_number_in pass0 (pa_cons (pv 0) pa_nil))))), ?_⟩
  rintro y d ⟨z, hz, rfl, rfl⟩ hk
  cases z with
  | none =>
    refine q_when (b := decide (("." : Str) = ".")) (t_test (K := K) (d_eqS (d_vstr rfl) d_str)) (fun _ H1 e1 => ?_) fun hb => absurd hb (by decide +kernel)
    exact s_retN (n_lst (ds_cons d_non ds_nil) (by show 1 ≤ 100000; decide)) (hk.go e1)
  | some u =>
    have hu := hz u rfl
    refine q_when (b := decide (wN u = ".")) (t_test (K := K) (d_eqS (d_vstr rfl) d_str)) (fun hb => absurd (of_decide_eq_true hb) (wN_dot hu)) fun _ H1 e1 => ?_
    exact s_retN (n_read (R := RR) (d_vstr rfl) ⟨u, hu, rfl, rfl⟩) (hk.go e1)
theorem sc_length_in : FnScope ["word", "u"] ["word"] (defScope Kd.s_length_in) := ⟨rfl, rfl, rfl, by decide +kernel, rfl, by decide +kernel, by decide +kernel⟩
theorem ok_length_in (T : Tx w K mg) : Ok Pg w K mg base CX0 3 (He.ga K "length_in") ["word"] (spRead K RL) := by
  refine ok_read1 T.f_length_in sc_length_in (fun _ _ _ _ _ _ us hl => match us, hl with | [_], _ => rfl) fun cdv A outer s0 H Q E hr => ⟨_, pss_one (ps_ret (pe_lc (own := [("u", 1)]) (g := gName 1) (tt := tTest (tOp (rI0 fun i j => .bl (decide (i > j))) (tOp (rIxT K) (tVar 1) (tC (.int 0))) (tC (.int 0)))) (by rfl) sc_length_in.nd (pi_list (pe_fn (ok_number_in T) (hr.mono (by decide)) T.g_number_in (E := E) pass0 (pa_cons (pv 0) pa_nil)))
    (blkOk_by (own := [("u", 1)]) (N := ["word", "u"]) (sc := defScope Kd.s_length_in) (by decide +kernel)) (fun _ _ _ _ _ => pg_name (i := 1) sc_length_in.nd rfl (Or.inl rfl)) (fun _ _ _ _ _ => pts_one (pt_cmpR op_gt (px (pv 1)) pe_int (nomark _))) (fun _ _ _ _ _ => pv 1))), ?_⟩
  rintro y d ⟨u, hu, hp, rfl, rfl⟩ hk
  refine s_retN ?_ hk
  have n := n_lcN (K := K) (σ := [some (.str (wN u)), none]) (H := H) (tl := tCall (spRead K RR) [] E (tCons (tVar 0) tNil)) (te := tVar 1) (j := 1) (vs := [1]) (f := fun _ => true) (g := fun d => d) (n_read (R := RR) (d_vstr rfl) ⟨u, hu, rfl, rfl⟩) (by show 1 ≤ 50000; decide) (fun x => rfl)
    (tt := tTest (tOp (rI0 fun i j => .bl (decide (i > j))) (tOp (rIxT K) (tVar 1) (tC (.int 0))) (tC (.int 0)))) (fun x d H1 e1 hm hx => by
      have dm : d = nD u := List.mem_singleton.mp hm
      subst dm
      have q := t_test (K := K) (d_ib (f := fun i j => decide (i > j)) (d_ix (K := K) (σ := [some (.str (wN u)), some x]) (ta := tVar 1) (d_var hx rfl) (d_int (n := 0)) rfl) (d_int (n := 0)))
      rw [show decide (u.1 > 0) = true from decide_eq_true hp] at q
      exact q) fun x d H1 e1 hm hx _ => d_var hx rfl
  exact n
end
end Kx

set_option Elab.async false
set_option linter.all false
set_option maxRecDepth 100000
set_option maxHeartbeats 4000000
namespace Kx
open PySem PySem.Spec PyProof.Rows L2 Evl HT TL
/-! ### rows written -/
def PQ (p q : Int) : Prop := (-20 ≤ p ∧ p ≤ 20) ∧ (-20 ≤ q ∧ q ≤ 20) ∧ ¬ (p = 0 ∧ q = 0)
def OptOk (x : Option Nu) : Prop := ∀ u, x = some u → NuOk u
def OkRow : Row → Prop
  | .hop x y => OptOk x ∧ OptOk y
  | .cut x y => OptOk x ∧ OptOk y
  | .run p q l => PQ p q ∧ NuOk l ∧ 0 < l.1
  | .arc _ x y p q => (OptOk x ∧ OptOk y) ∧ PQ p q
  | .pace g => 0 ≤ g ∧ g ≤ 9
  | .side u => NuOk u
  | .frame (.shift a b) => NuOk a ∧ NuOk b
  | .frame (.turn p q) => PQ p q
  | .piece n => NameOk n
  | .call n t => NameOk n ∧ 1 ≤ t ∧ t ≤ 20
  | _ => True
def wordsR : Row → List Str
  | .hop x y => [wO x, wO y] | .cut x y => [wO x, wO y] | .run p q l => [wI p, wI q, wN l] | .arc _ x y p q => [wO x, wO y, wI p, wI q] | .mode _ => [] | .pace g => [wI g] | .side u => [wN u]
  | .frame (.shift a b) => [wN a, wN b] | .frame (.turn p q) => [wI p, wI q] | .frame .flip => [] | .back => [] | .piece n => [n] | .fin => [] | .call n t => [n, wI t]
def shapeR : Row → Str
  | .hop .. => "xx" | .cut .. => "xx" | .run .. => "ppl" | .arc .. => "xxpp" | .mode _ => "" | .pace _ => "g" | .side _ => "r" | .frame (.shift ..) => "rr" | .frame (.turn ..) => "pp" | .frame .flip => "" | .back => "" | .piece _ => "n" | .fin => "" | .call .. => "nt"
def rowT (r : Row) : Str := Txt.join " " (wordR r :: wordsR r)
def RdC (c : Nat) (x : Str) (d : PyData) : Prop := (c = 120 ∧ RX x d) ∨ (c = 114 ∧ RR x d) ∨ (c = 108 ∧ RL x d) ∨ (c = 112 ∧ RP x d) ∨ (c = 103 ∧ RG x d) ∨ (c = 116 ∧ RT x d) ∨ (c = 110 ∧ RN x d)
/-- sign by sign, word by word, value by value -/
def AllRd : List Nat → List Str → List PyData → Prop
  | [], [], [] => True
  | c :: cs, x :: xs, d :: ds => RdC c x d ∧ AllRd cs xs ds
  | _, _, _ => False
theorem rx {z : Option Nu} (h : OptOk z) : RdC 120 (wO z) (oD z) := .inl ⟨rfl, z, h, rfl, rfl⟩
theorem rr {u : Nu} (h : NuOk u) : RdC 114 (wN u) (nD u) := .inr (.inl ⟨rfl, u, h, rfl, rfl⟩)
theorem rp {p : Int} (h : -20 ≤ p ∧ p ≤ 20) : RdC 112 (wI p) (.int p) := .inr (.inr (.inr (.inl ⟨rfl, p, h, rfl, rfl⟩)))
theorem row_rd {r : Row} (h : OkRow r) : AllRd (shapeR r).cps.toList (wordsR r) (valsR r) := by
  have s1 : ("xx" : Str).cps.toList = [120, 120] := by decide +kernel
  have s2 : ("ppl" : Str).cps.toList = [112, 112, 108] := by decide +kernel
  have s3 : ("xxpp" : Str).cps.toList = [120, 120, 112, 112] := by decide +kernel
  have s4 : ("" : Str).cps.toList = [] := by decide +kernel
  have s5 : ("g" : Str).cps.toList = [103] := by decide +kernel
  have s6 : ("r" : Str).cps.toList = [114] := by decide +kernel
  have s7 : ("rr" : Str).cps.toList = [114, 114] := by decide +kernel
  have s8 : ("pp" : Str).cps.toList = [112, 112] := by decide +kernel
  have s9 : ("n" : Str).cps.toList = [110] := by decide +kernel
  have s10 : ("nt" : Str).cps.toList = [110, 116] := by decide +kernel
  cases r with
  | hop x y => simp only [shapeR, s1]; exact ⟨rx h.1, rx h.2, trivial⟩
  | cut x y => simp only [shapeR, s1]; exact ⟨rx h.1, rx h.2, trivial⟩
  | run p q l => simp only [shapeR, s2]; exact ⟨rp h.1.1, rp h.1.2.1, .inr (.inr (.inl ⟨rfl, l, h.2.1, h.2.2, rfl, rfl⟩)), trivial⟩
  | arc lf x y p q => simp only [shapeR, s3]; exact ⟨rx h.1.1, rx h.1.2, rp h.2.1, rp h.2.2.1, trivial⟩
  | mode b => simp only [shapeR, s4]; exact trivial
  | pace g => simp only [shapeR, s5]; exact ⟨.inr (.inr (.inr (.inr (.inl ⟨rfl, g, h, rfl, rfl⟩)))), trivial⟩
  | side u => simp only [shapeR, s6]; exact ⟨rr h, trivial⟩
  | frame f =>
    cases f with
    | shift a b => simp only [shapeR, s7]; exact ⟨rr h.1, rr h.2, trivial⟩
    | turn p q => simp only [shapeR, s8]; exact ⟨rp h.1, rp h.2.1, trivial⟩
    | flip => simp only [shapeR, s4]; exact trivial
  | back => simp only [shapeR, s4]; exact trivial
  | piece n => simp only [shapeR, s9]; exact ⟨.inr (.inr (.inr (.inr (.inr (.inr ⟨rfl, h, rfl⟩))))), trivial⟩
  | fin => simp only [shapeR, s4]; exact trivial
  | call n t => simp only [shapeR, s10]; exact ⟨.inr (.inr (.inr (.inr (.inr (.inr ⟨rfl, h.1, rfl⟩))))), .inr (.inr (.inr (.inr (.inr (.inl ⟨rfl, t, ⟨by have := h.2.1; omega, by have := h.2.2; omega⟩, rfl, rfl⟩))))), trivial⟩
theorem AllRd.len {cs : List Nat} {xs : List Str} {ds : List PyData} (h : AllRd cs xs ds) : xs.length = cs.length ∧ ds.length = cs.length := by
  induction cs generalizing xs ds with
  | nil =>
    cases xs with
    | nil => cases ds with
      | nil => exact ⟨rfl, rfl⟩
      | cons _ _ => exact h.elim
    | cons _ _ => exact h.elim
  | cons c cs ih =>
    cases xs with
    | nil => exact h.elim
    | cons x xs =>
      cases ds with
      | nil => exact h.elim
      | cons d ds =>
        obtain ⟨a, b⟩ := ih h.2
        exact ⟨by simp [a], by simp [b]⟩
theorem AllRd.at {cs : List Nat} {xs : List Str} {ds : List PyData} (h : AllRd cs xs ds) {i c : Nat} {x : Str} (hc : cs[i]? = some c) (hx : xs[i]? = some x) : ∃ d, ds[i]? = some d ∧ RdC c x d := by
  induction cs generalizing xs ds i with
  | nil => simp at hc
  | cons c' cs ih =>
    cases xs with
    | nil => exact h.elim
    | cons x' xs =>
      cases ds with
      | nil => exact h.elim
      | cons d ds =>
        cases i with
        | zero =>
          simp at hc hx
          subst hc hx
          exact ⟨d, rfl, h.1⟩
        | succ i => exact ih h.2 (i := i) (by simpa using hc) (by simpa using hx)
/-- words without blanks and line feeds -/
theorem wN_clean {u : Nu} (h : NuOk u) : 32 ∉ tl (wN u) ∧ 10 ∉ tl (wN u) := by
  obtain ⟨_, a1, a2, _⟩ := wI_noslash h.1
  rcases h.2 with e | ⟨hb, _⟩
  · rw [wN_one e]; exact ⟨a1, a2⟩
  · obtain ⟨_, b1, b2, _⟩ := wI_noslash (i := u.2) ⟨by omega, by omega⟩
    rw [wN_two (by omega), tl_append, tl_append, tl_slash]
    simp [a1, a2, b1, b2]
theorem wO_clean {z : Option Nu} (h : OptOk z) : 32 ∉ tl (wO z) ∧ 10 ∉ tl (wO z) := by
  cases z with
  | none => exact ⟨by decide +kernel, by decide +kernel⟩
  | some u => exact wN_clean (h u rfl)
theorem wI_clean {i : Int} (h : -20 ≤ i ∧ i ≤ 20) : 32 ∉ tl (wI i) ∧ 10 ∉ tl (wI i) := ⟨(wI_noslash h).2.1, (wI_noslash h).2.2.1⟩
theorem name_clean {n : Str} (h : NameOk n) : 32 ∉ tl n ∧ 10 ∉ tl n := ⟨fun m => by have := h.2 32 m; omega, fun m => by have := h.2 10 m; omega⟩
theorem word_clean (r : Row) : 32 ∉ tl (wordR r) ∧ 10 ∉ tl (wordR r) := by
  have all : ∀ x ∈ (["back", "by", "call", "cut", "end", "flip", "from", "hop", "left", "pace", "piece", "right", "run", "shift", "side", "turn"] : List Str), 32 ∉ tl x ∧ 10 ∉ tl x := by decide +kernel
  apply all
  cases r with
  | arc lf x y p q => cases lf <;> simp [wordR]
  | mode b => cases b <;> simp [wordR]
  | frame f => cases f <;> simp [wordR]
  | _ => simp [wordR]
end Kx

set_option Elab.async false
set_option linter.all false
set_option maxRecDepth 100000
set_option maxHeartbeats 4000000
namespace Kx
open PySem PySem.Spec PyProof.Rows L2 Evl HT TL
section
variable {K : PySem.W.Frag} {H H' : Hp} {σ : L2.St} {tx tb : TE} {D : Ends} {tz tu : TS}
/-- for sign, word in zip(text, list, strict=True) -/
theorem q_forZipS {i j : Nat} {x : Str} {b : Addr} {ws : List Str} (hx : Ev tx σ H (.str x)) (hb : Ev tb σ H (.ref b)) (hs : H b = some (.lst (ws.map V.str))) (hl : ws.length = x.cps.size) (Pv : Nat → L2.St → Hp → Prop) (hex : ∀ k σ' H', Pv k σ' H' → H' b = some (.lst (ws.map V.str))) (h0 : ∀ H1, Ex H H1 → Pv 0 σ H1)
    (hm : ∀ k σ' H' H'', Ex H' H'' → Pv k σ' H' → Pv k σ' H'')
    (step : ∀ k c w σ' H', x.cps.toList[k]? = some c → ws[k]? = some w → Pv k σ' H' → tu { D with nx := Pv (k + 1), ct := Pv (k + 1), bk := tz D } ((σ'.set i (some (.str ⟨#[c]⟩))).set j (some (.str w))) H')
    (hd : ∀ σ' H', Pv ws.length σ' H' → tz D σ' H') : tSeq (tFor (iZipS K (tCons tx (tCons tb tNil))) (gTup K 2 (gCons (gName i) (gCons (gName j) gNil))) tu) tz D σ H := by
  unfold tSeq tFor iZipS
  refine (ea_cons hx (ea_cons hb ea_nil)) H (Ex.refl H) _ fun H1 e1 => ?_
  refine ⟨x, b, ws.map V.str, rfl, sq_of (e1 _ _ hs), ?_⟩
  refine ⟨fun k m σ' H' => m = ws.length - k ∧ k ≤ ws.length ∧ Pv k σ' H', ⟨ws.length, by simp, Nat.zero_le _, h0 H1 e1⟩, ?_⟩
  rintro k m σ' H' ⟨rfl, hi, p⟩
  have hs' : SqL K H' b (ws.map V.str) := sq_of (hex _ _ _ p)
  by_cases hlt : k < ws.length
  · have hw : ws[k]? = some ws[k] := List.getElem?_eq_getElem hlt
    have hv : (ws.map V.str)[k]? = some (.str ws[k]) := by rw [List.getElem?_map, hw]; rfl
    refine .inr ⟨⟨by omega, _, _, hs', hv⟩, fun σ2 H2 => Pv (k + 1) σ2 H2, fun σ2 H2 p' => ⟨ws.length - (k + 1), by omega, rfl, hlt, p'⟩, fun v H2 y => ?_⟩
    obtain ⟨T, c, z, rfl, hT, rfl, hc, hz⟩ := y
    have ez := hz _ hs'
    rw [hv] at ez
    cases ez
    have eT : Ex H' (upd H' T (.tup [.str ⟨#[c]⟩, .str ws[k]])) := Ex.new hT
    refine ⟨T, _, rfl, SqT.of upd_same, rfl, _, _, rfl, _, _, rfl, rfl, ?_⟩
    exact step k c ws[k] σ' _ (by rw [Array.getElem?_toList]; exact hc) hw (hm k σ' _ _ eT p)
  · have e : k = ws.length := by omega
    subst e
    exact .inl ⟨⟨hl, _, hs', by rw [List.length_map]; exact hl⟩, hd σ' H' p⟩
theorem q_split {i j : Nat} {a b x : Str} {ws : List Str} {ta : TE} (ha : EvD K ta σ H (.str a)) (hb : EvD K tb σ H (.str b)) (hn : (b.length == 0) = false) (hz : a.length ≤ 50000) (hsp : Txt.split a b = x :: ws)
    (k : ∀ p H1, Ex H H1 → H1 p = some (.lst (ws.map V.str)) → tz D ((σ.set i (some (.str x))).set j (some (.ref p))) H1) :
    tSeq (tAsg (tM1 (fun x xs H Q => ∃ a b, x = .str a ∧ xs = [.str b] ∧ (b.length == 0) = false ∧ a.length + 2 ≤ sizeLine ∧ rNewStrs (Txt.split a b) H Q) ta tb) (gStar K (gName i) (gName j))) tz D σ H := ha.str H (Ex.refl _) _ fun H1 e1 => ⟨⟨a, rfl⟩, hb.str H1 e1 _ fun H2 e2 => ⟨a, b, rfl, rfl, hn, sz_of (by omega), by
      rw [hsp]
      exact fun p0 hp0 => ⟨p0, .str x, ws.map V.str, rfl, .inr (sq_of upd_same), fun p hp => k p _ ((e1.trans e2).trans ((Ex.new hp0).trans (Ex.new hp))) upd_same⟩⟩⟩
theorem d_lenW {p : Addr} {ws : List Str} {ta : TE} (ha : Ev ta σ H (.ref p)) (hs : SqL K H p (ws.map V.str)) : EvD K (tCB (rLenS K) (tCons ta tNil)) σ H (.int (ws.length : Int)) := d_of (by have q := ev_len ha hs; rw [List.length_map] at q; exact q) (.int _)
theorem d_findS {a b : Str} {ta : TE} (ha : EvD K ta σ H (.str a)) (hb : EvD K tb σ H (.str b)) : EvD K (tM1 (fun x xs H Q => ∃ a b, x = .str a ∧ xs = [.str b] ∧ Q (.int (Txt.find a b)) H) ta tb) σ H (.int (Txt.find a b)) := fun H1 e Q q =>
  ha.str H1 e _ fun H2 e2 => ⟨⟨a, rfl⟩, hb.str H2 (e.trans e2) _ fun H3 e3 => ⟨a, b, rfl, rfl, q _ H3 (e2.trans e3) (.int _)⟩⟩
theorem d_isN {d : PyData} {ta : TE} (h : EvD K ta σ H d) (h2 : EvD K tb σ H .none) : EvD K (tOp (fun x y H Q => y = .non ∧ Q (.bl (decide (x = .non))) H) ta tb) σ H (.bool (isN d)) := fun H1 e Q q =>
  h H1 e _ fun v H2 e2 hv => h2 H2 (e.trans e2) _ fun u H3 e3 hu => by
    cases hu
    have z : decide (v = .non) = isN d := by cases hv <;> rfl
    exact ⟨rfl, q _ H3 (e2.trans e3) (by rw [z]; exact .bl _)⟩
theorem s_appG {ta te : TE} {l : Addr} {xs : List V} (ha : Ev ta σ H (.ref l)) (hl : H l = some (.lst xs)) (hz : xs.length < 100000) (h : ∀ H1, Ex H H1 → ∀ Q : VK, (∀ v H2, H2 l = some (.lst xs) → D.nx σ (upd H2 l (.lst (xs ++ [v]))) → Q v H2) → te σ H1 Q) : tDrop (tBM K "list" rAppend ta (tCons te tNil)) D σ H := ha H (Ex.refl H) _ fun H1 e1 =>
  ⟨Or.inl ⟨rfl, xs, sq_of (e1 l _ hl)⟩, h H1 e1 _ fun v H2 h2 k => ⟨l, xs, v, rfl, rfl, h2, sz_lt hz, k⟩⟩
end
section
variable {w : World} {K : PySem.W.Frag} {mg : Str → Option Value} {base : Heap}
inductive RdN : Str → (Str → PyData → Prop) → Prop
  | x : RdN "coordinate_in" RX
  | r : RdN "number_in" RR
  | l : RdN "length_in" RL
  | p : RdN "turn_in" RP
  | g : RdN "pace_in" RG
  | t : RdN "times_in" RT
  | n : RdN "name_in" RN
theorem rdc_n {c : Nat} {x : Str} {d : PyData} (h : RdC c x d) : ∃ nm R, RdN nm R ∧ R x d ∧ ((⟨#[c]⟩ : Str), He.Dv.glo nm) ∈ Kd.kv_READERS := by
  rcases h with ⟨rfl, h⟩ | ⟨rfl, h⟩ | ⟨rfl, h⟩ | ⟨rfl, h⟩ | ⟨rfl, h⟩ | ⟨rfl, h⟩ | ⟨rfl, h⟩
  · exact ⟨_, _, .x, h, by simp [Kd.kv_READERS]; decide +kernel⟩
  · exact ⟨_, _, .r, h, by simp [Kd.kv_READERS]; decide +kernel⟩
  · exact ⟨_, _, .l, h, by simp [Kd.kv_READERS]; decide +kernel⟩
  · exact ⟨_, _, .p, h, by simp [Kd.kv_READERS]; decide +kernel⟩
  · exact ⟨_, _, .g, h, by simp [Kd.kv_READERS]; decide +kernel⟩
  · exact ⟨_, _, .t, h, by simp [Kd.kv_READERS]; decide +kernel⟩
  · exact ⟨_, _, .n, h, by simp [Kd.kv_READERS]; decide +kernel⟩
def SRead (K : PySem.W.Frag) (f : Addr) (sp : Sp) : Prop := ∃ nm R, RdN nm R ∧ f = He.ga K nm ∧ sp = spRead K R
theorem held_read (T : Tx w K mg) (f : Addr) (sp : Sp) (h : SRead K f sp) : HeldX Pg w K mg base CX0 3 f sp := by
  obtain ⟨nm, R, h, rfl, rfl⟩ := h
  cases h with
  | x => exact ⟨_, ok_coordinate_in T⟩
  | r => exact ⟨_, (ok_number_in T).mono (by decide)⟩
  | l => exact ⟨_, ok_length_in T⟩
  | p => exact ⟨_, (ok_turn_in T).mono (by decide)⟩
  | g => exact ⟨_, (ok_pace_in T).mono (by decide)⟩
  | t => exact ⟨_, (ok_times_in T).mono (by decide)⟩
  | n => exact ⟨_, (ok_name_in T).mono (by decide)⟩
theorem hu65 {A : Around} {k : Nat} (hr : Room k A) : A.units + 65 < cLine := by have := hr.un; omega
def fReadRow : List PyData → PyData → Prop := fun ds d => ∃ r, ds = [.str (rowT r)] ∧ OkRow r ∧ d = rowD r
theorem sc_read_row : FnScope ["text", "first", "rest", "shape", "found", "sign", "word", "reader", "values", "one", "value", "at"] ["text"] (defScope Kd.s_read_row) := ⟨rfl, rfl, rfl, by decide +kernel, rfl, by decide +kernel, by decide +kernel⟩
theorem joinL_len {S : List Nat} {m : Nat} : ∀ {ps : List (List Nat)}, (∀ p ∈ ps, p.length ≤ m) → (joinL S ps).length ≤ ps.length * (m + S.length)
  | [], _ => by simp [joinL]
  | [p], h => by
    have := h p (List.mem_singleton.mpr rfl)
    simp only [joinL, List.length_singleton]
    omega
  | p :: q :: r, h => by
    have h1 := h p (List.mem_cons_self ..)
    have h2 := joinL_len (S := S) (ps := q :: r) fun z hz => h z (List.mem_cons_of_mem _ hz)
    simp only [joinL, List.length_append]
    have e : (p :: q :: r).length * (m + S.length) = (q :: r).length * (m + S.length) + (m + S.length) := by rw [List.length_cons, Nat.succ_mul]
    rw [e]
    omega
theorem join_len {y : Str} {ps : List Str} {m : Nat} (h : ∀ p ∈ ps, p.length ≤ m) : (Txt.join y ps).length ≤ ps.length * (m + y.length) := by
  have q := joinL_len (S := tl y) (ps := ps.map tl) (m := m) fun p hp => by
    obtain ⟨z, hz, rfl⟩ := List.mem_map.mp hp
    rw [← len_tl]; exact h z hz
  rw [← tl_join, List.length_map, ← len_tl, ← len_tl, ← join_eq] at q
  exact q
theorem AllRd.mem {cs : List Nat} {xs : List Str} {ds : List PyData} (h : AllRd cs xs ds) {x : Str} (hx : x ∈ xs) : ∃ c d, d ∈ ds ∧ RdC c x d := by
  obtain ⟨i, hi⟩ := List.mem_iff_getElem?.mp hx
  have l := h.len
  have li := (List.getElem?_eq_some_iff.mp hi).1
  have hc : cs[i]? = some cs[i] := List.getElem?_eq_getElem (by omega)
  obtain ⟨d, hd, hr⟩ := h.at hc hi
  exact ⟨_, d, List.mem_of_getElem? hd, hr⟩
theorem rdc_word {c : Nat} {x : Str} {d : PyData} (h : RdC c x d) : x.length ≤ 10 ∧ 32 ∉ tl x ∧ 10 ∉ tl x := by
  have wi : ∀ {i : Int}, -20 ≤ i ∧ i ≤ 20 → (wI i).length ≤ 10 ∧ 32 ∉ tl (wI i) ∧ 10 ∉ tl (wI i) := fun h => ⟨by have := (wI_noslash h).2.2.2.1; omega, wI_clean h⟩
  rcases h with ⟨rfl, z, hz, rfl, rfl⟩ | ⟨rfl, u, hu, rfl, rfl⟩ | ⟨rfl, u, hu, _, rfl, rfl⟩ | ⟨rfl, i, hi, rfl, rfl⟩ | ⟨rfl, i, hi, rfl, rfl⟩ | ⟨rfl, i, hi, rfl, rfl⟩ | ⟨rfl, hn, rfl⟩
  · refine ⟨?_, wO_clean hz⟩
    cases z with
    | none => show ("." : Str).length ≤ 10; decide +kernel
    | some u => exact wN_len (hz u rfl)
  · exact ⟨wN_len hu, wN_clean hu⟩
  · exact ⟨wN_len hu, wN_clean hu⟩
  · exact wi hi
  · exact wi ⟨by omega, by omega⟩
  · exact wi ⟨by omega, by omega⟩
  · exact ⟨by have := hn.1.2; omega, name_clean hn⟩
theorem rdc_shp {c : Nat} {x : Str} {d : PyData} (h : RdC c x d) : Shp 1 d := by
  rcases h with ⟨rfl, z, hz, rfl, rfl⟩ | ⟨rfl, u, hu, rfl, rfl⟩ | ⟨rfl, u, hu, _, rfl, rfl⟩ | ⟨rfl, i, hi, rfl, rfl⟩ | ⟨rfl, i, hi, rfl, rfl⟩ | ⟨rfl, i, hi, rfl, rfl⟩ | ⟨rfl, hn, rfl⟩
  · cases z with
    | none => exact shp_non.mono (by decide)
    | some u => exact shp_nD u
  · exact shp_nD u
  · exact shp_nD u
  · exact (shp_int i).mono (by decide)
  · exact (shp_int i).mono (by decide)
  · exact (shp_int i).mono (by decide)
  · refine (shp_str ?_).mono (by decide)
    show Array.all _ _ = true
    rw [← Array.all_toList, List.all_eq_true]
    intro c hc
    have := hn.2 c hc
    exact decide_eq_true (by omega)
theorem words_len (r : Row) : (wordsR r).length ≤ 4 := by
  cases r with
  | frame f => cases f <;> simp [wordsR]
  | _ => simp [wordsR]
theorem wordR_len (r : Row) : (wordR r).length ≤ 5 := by
  have all : ∀ x ∈ (["back", "by", "call", "cut", "end", "flip", "from", "hop", "left", "pace", "piece", "right", "run", "shift", "side", "turn"] : List Str), x.length ≤ 5 := by decide +kernel
  apply all
  cases r with
  | arc lf x y p q => cases lf <;> simp [wordR]
  | mode b => cases b <;> simp [wordR]
  | frame f => cases f <;> simp [wordR]
  | _ => simp [wordR]
theorem word_mem {r : Row} (h : OkRow r) {x : Str} (hx : x ∈ wordR r :: wordsR r) : x.length ≤ 10 ∧ 32 ∉ tl x ∧ 10 ∉ tl x := by
  rcases List.mem_cons.mp hx with rfl | hx
  · exact ⟨by have := wordR_len r; omega, word_clean r⟩
  · obtain ⟨c, d, _, hr⟩ := (row_rd h).mem hx
    exact rdc_word hr
theorem rowT_len {r : Row} (h : OkRow r) : (rowT r).length ≤ 60 := by
  have q := join_len (y := " ") (ps := wordR r :: wordsR r) (m := 10) fun p hp => (word_mem h hp).1
  have e : (" " : Str).length = 1 := by decide +kernel
  have l := words_len r
  rw [e, List.length_cons] at q
  have : ((wordsR r).length + 1) * (10 + 1) ≤ 5 * 11 := Nat.mul_le_mul (by omega) (by decide)
  exact Nat.le_trans q (by omega)
theorem tl_blank : tl (" " : Str) = [32] := by decide +kernel
theorem tl_feed : tl ("\n" : Str) = [10] := by decide +kernel
theorem rowT_split {r : Row} (h : OkRow r) : Txt.split (rowT r) " " = wordR r :: wordsR r := split_join tl_blank (by decide +kernel) (by simp) fun p hp => (word_mem h hp).2.1
theorem joinL_free {s : Nat} {S : List Nat} (hs : s ∉ S) : ∀ {ps : List (List Nat)}, (∀ p ∈ ps, s ∉ p) → s ∉ joinL S ps
  | [], _ => by simp [joinL]
  | [p], h => h p (List.mem_singleton.mpr rfl)
  | p :: q :: r, h => by
    have h2 := joinL_free hs (ps := q :: r) fun z hz => h z (List.mem_cons_of_mem _ hz)
    simp only [joinL, List.mem_append]
    exact fun z => z.elim (h p (List.mem_cons_self ..)) fun z => z.elim hs h2
theorem rowT_clean {r : Row} (h : OkRow r) : 10 ∉ tl (rowT r) := by
  unfold rowT
  rw [join_eq, tl_join]
  refine joinL_free (by rw [tl_blank]; decide) fun p hp => ?_
  obtain ⟨z, hz, rfl⟩ := List.mem_map.mp hp
  exact (word_mem h hz).2.2
theorem pq_find {r : Row} (h : OkRow r) : Txt.find (shapeR r) "p" < 0 ∨ ∃ (i : Int) (p q : Int), Txt.find (shapeR r) "p" = i ∧ 0 ≤ i ∧ atI (valsR r) i = some (.int p) ∧ atI (valsR r) (i + 1) = some (.int q) ∧ ¬ (p = 0 ∧ q = 0) := by
  have s1 : Txt.find "xx" "p" < 0 := by decide +kernel
  have s2 : Txt.find "ppl" "p" = 0 := by decide +kernel
  have s3 : Txt.find "xxpp" "p" = 2 := by decide +kernel
  have s4 : Txt.find "" "p" < 0 := by decide +kernel
  have s5 : Txt.find "g" "p" < 0 := by decide +kernel
  have s6 : Txt.find "r" "p" < 0 := by decide +kernel
  have s7 : Txt.find "rr" "p" < 0 := by decide +kernel
  have s8 : Txt.find "pp" "p" = 0 := by decide +kernel
  have s9 : Txt.find "n" "p" < 0 := by decide +kernel
  have s10 : Txt.find "nt" "p" < 0 := by decide +kernel
  cases r with
  | hop x y => exact .inl s1
  | cut x y => exact .inl s1
  | run p q l => exact .inr ⟨0, p, q, s2, by decide, rfl, rfl, h.1.2.2⟩
  | arc lf x y p q => exact .inr ⟨2, p, q, s3, by decide, rfl, rfl, h.2.2.2⟩
  | mode b => exact .inl s4
  | pace g => exact .inl s5
  | side u => exact .inl s6
  | frame f =>
    cases f with
    | shift a b => exact .inl s7
    | turn p q => exact .inr ⟨0, p, q, s8, by decide, rfl, rfl, h.2.2⟩
    | flip => exact .inl s4
  | back => exact .inl s4
  | piece n => exact .inl s9
  | fin => exact .inl s4
  | call n t => exact .inl s10
theorem shape_in (r : Row) : (wordR r, He.Dv.str (shapeR r)) ∈ Kd.kv_SHAPES := by
  cases r with
  | arc lf x y p q => cases lf <;> simp [Kd.kv_SHAPES, wordR, shapeR]
  | mode b => cases b <;> simp [Kd.kv_SHAPES, wordR, shapeR]
  | frame f => cases f <;> simp [Kd.kv_SHAPES, wordR, shapeR]
  | _ => simp [Kd.kv_SHAPES, wordR, shapeR]
/-- lists of one item each -/
def Fnd (K : PySem.W.Frag) (H : Hp) (F : Addr) (acc : List V) (ds : List PyData) : Prop := acc.length = ds.length ∧ ∀ (i : Nat) (d : PyData), ds[i]? = some d → ∃ q x, acc[i]? = some (V.ref q) ∧ q ≠ F ∧ H q = some (.lst [x]) ∧ Dt K H x d
theorem Fnd.ex {H H' : Hp} {F : Addr} {acc : List V} {ds : List PyData} (h : Fnd K H F acc ds) (e : Ex H H') : Fnd K H' F acc ds := ⟨h.1, fun i d hd => let ⟨q, x, a, n, b, c⟩ := h.2 i d hd; ⟨q, x, a, n, e _ _ b, c.ex e⟩⟩
theorem Fnd.dp {H : Hp} {F : Addr} {acc : List V} {ds : List PyData} (h : Fnd K H F acc ds) : DpAll K H acc (ds.map fun d => .list [d]) := by
  induction ds generalizing acc with
  | nil =>
    cases acc with
    | nil => exact .nil
    | cons _ _ => exact absurd h.1 (by simp)
  | cons d ds ih =>
    cases acc with
    | nil => exact absurd h.1 (by simp)
    | cons v acc =>
      obtain ⟨q, x, a, n, b, c⟩ := h.2 0 d rfl
      simp at a
      subst a
      refine .cons (.lst (sq_of b) (.cons c.dp .nil)) (ih ⟨by have := h.1; simpa using this, fun i d' hd => ?_⟩)
      obtain ⟨q', x', a', r⟩ := h.2 (i + 1) d' (by simpa using hd)
      exact ⟨q', x', by simpa using a', r⟩
theorem Fnd.app {H : Hp} {F q : Addr} {acc ys : List V} {x : V} {d : PyData} {ds : List PyData} (h : Fnd K H F acc ds) (hF : H F = some (.lst ys)) (hq : H q = some (.lst [x])) (n : q ≠ F) (hx : Dt K H x d) : Fnd K (upd H F (.lst (acc ++ [.ref q]))) F (acc ++ [.ref q]) (ds ++ [d]) := by
  have tk : TK H (upd H F (.lst (acc ++ [.ref q]))) := TK.upd hF trivial
  refine ⟨by simp [h.1], fun i d' hd => ?_⟩
  by_cases hi : i < ds.length
  · rw [List.getElem?_append_left hi] at hd
    obtain ⟨q', x', a, n', b, c⟩ := h.2 i d' hd
    exact ⟨q', x', by rw [List.getElem?_append_left (by rw [h.1]; exact hi)]; exact a, n', by rw [upd_ne n']; exact b, c.tk tk⟩
  · have e : i = ds.length := by
      have := (List.getElem?_eq_some_iff.mp hd).1
      simp at this; omega
    subst e
    rw [List.getElem?_append_right (Nat.le_refl _), Nat.sub_self] at hd
    cases hd
    have h1 := h.1
    exact ⟨q, x, by rw [List.getElem?_append_right (by omega), ← h1, Nat.sub_self]; rfl, n, by rw [upd_ne n]; exact hq, hx.tk tk⟩
theorem t_inF {σ : L2.St} {ta : TE} {H : Hp} {F : Addr} {acc : List V} {ds : List PyData} (ha : Ev ta σ H (.ref F)) (hF : H F = some (.lst acc)) (hA : Fnd K H F acc ds) (shd : ∀ d ∈ ds, Shp 1 d) : EvT (tTest (tOp (rInD K) (tLst tNil) ta)) σ H false := by
  have q : EvD K (tOp (rInD K) (tLst tNil) ta) σ H (.bool false) := fun H1 e1 Q q => ⟨by show 0 ≤ sizeLine; decide, fun p hp => ha _ (e1.trans (Ex.new hp)) _ fun H2 e2 => by
    have e12 := (e1.trans (Ex.new hp)).trans e2
    refine ⟨.list [], ds.map fun d => .list [d], .lst (sq_of (e2 _ _ upd_same)) .nil, .lst (sq_of (e12 _ _ hF)) (hA.ex e12).dp, ?_, ?_, ?_⟩
    · exact (shp_lst (n := 0) (ds := []) fun d hd => by cases hd).shaped (by decide)
    · refine (shp_lst (n := 2) fun d hd => ?_).shaped (by decide)
      obtain ⟨d', hd', rfl⟩ := List.mem_map.mp hd
      refine shp_lst (n := 1) fun d2 h2 => ?_
      rw [List.mem_singleton] at h2
      subst h2
      exact shd _ hd'
    · have z : (ds.map fun d => PyData.list [d]).any (fun z => PyData.eqv z (.list [])) = false := by
        rw [List.any_eq_false]
        intro z hz
        obtain ⟨d', hd', rfl⟩ := List.mem_map.mp hz
        simp [PyData.eqv, PyData.eqvAll]
      rw [z]
      exact q _ H2 ((Ex.new hp).trans e2) (.bl _)⟩
  exact t_B q
theorem flat_ones {ds : List PyData} : ∀ n, n ≤ ds.length → flatN n (fun i => match ds[i]? with | some d => [d] | none => []) = ds.take n
  | 0, _ => by simp [flatN]
  | n + 1, h => by
    rw [flatN_succ, flat_ones n (by omega), List.take_add_one, List.getElem?_eq_getElem (by omega)]
    rfl
theorem ok_read_row (T : Tx w K mg) : Ok Pg w K mg base CX0 4 (He.ga K "read_row") ["text"] (spP K fReadRow) := by
  refine ok_of T.f_read_row sc_read_row (fun vs H Q E h => by obtain ⟨_, _, a, ⟨_, rfl, _⟩, _⟩ := h; exact a.len) (fun _ _ _ _ _ _ us hl => match us, hl with | [_], _ => rfl) fun cdv A outer s0 H vs Q E hr h => ?_
  obtain ⟨es1, n1, D1⟩ := T.tabS
  obtain ⟨es2, n2, D2⟩ := T.tabR
  refine ⟨_, PSs.nox (pss_cons (ps_asg (pe_split (pv 0) pe_str) (pg_star (by rfl) (pg_name (i := 1) sc_read_row.nd rfl (.inl rfl)) (pg_name (i := 2) sc_read_row.nd rfl (.inl rfl))))
    (pss_cons (ps_set (i := 3) sc_read_row.nd rfl (Or.inl rfl) (pe_kdget D1 (pgl T.g_SHAPES) (pv 1) ⟨rfl, rfl, rfl, rfl⟩))
    (pss_cons (ps_if (PW.pt (pw_or (pt_cmpR op_isN (pv 3) pe_non (nomark _)) (pw_or1 (pt_cmpR op_ne (pe_callB call_len_str (by rfl) T.b_len PySem.boot_len (pa_cons (pv 3) pa_nil)) (pe_callB call_len_seq (by rfl) T.b_len PySem.boot_len (pa_cons (pv 2) pa_nil)) (nomark _))))) (pss_one (ps_ret pe_non)) pss_nil)
    (pss_cons (ps_set (i := 4) sc_read_row.nd rfl (Or.inl rfl) (pe_lst pa_nil))
    (pss_cons (ps_for PassesOwn.never rfl (pi_zipS rfl T.b_zip (pa_cons (pv 3) (pa_cons (pv 2) pa_nil))) (pg_tup (by rfl) (pgs_cons (pg_name (i := 5) sc_read_row.nd rfl (.inl rfl)) (pgs_cons (pg_name (i := 6) sc_read_row.nd rfl (.inl rfl)) pgs_nil)))
      (pss_cons (ps_set (i := 7) sc_read_row.nd rfl (Or.inl rfl) (pe_ix (ix_kd D2) (pgl T.g_READERS) (pv 5) fun _ _ => rfl))
      (pss_one (ps_expr (pe_bm PySem.F.plainAttrs_list PySem.F.slot_list_append PySem.F.type_list_append mt_append (pv 4) (pa_cons (pe_callX (i := 7) (E := E) (held_read T) hr rfl (.inl rfl) pass0 (pa_cons (pv 6) pa_nil)) pa_nil))))))
    (pss_cons (ps_if (pt_cmpR (op_inD (hu65 hr)) (pe_lst pa_nil) (pv 4) (by rfl)) (pss_one (ps_ret pe_non)) pss_nil)
    (pss_cons (ps_set (i := 8) sc_read_row.nd rfl (Or.inl rfl) (pe_callTy call_tuple_of (by rfl) T.b_tuple PyProof.Rows.boot_tuple (pa_cons (pe_lc2 (own := [("one", 9), ("value", 10)]) (vs1 := [10]) (g := gName 9) (tt := tYes) (wi1 := iList K (tVar 9)) (g1 := gName 10) (tt1 := tYes) (by rfl) sc_read_row.nd (pi_list (pv 4)) (blkOk_by (own := [("one", 9), ("value", 10)]) (N := ["text", "first", "rest", "shape", "found", "sign", "word", "reader", "values", "one", "value", "at"]) (sc := defScope Kd.s_read_row) (by decide +kernel)) (by decide)
        (fun _ _ _ _ _ => pg_name (i := 9) sc_read_row.nd rfl (Or.inl rfl)) (fun _ _ _ _ _ => pts_nil) (fun _ _ _ _ _ => pi_list (pv 9)) (fun _ _ _ _ _ => pg_name (i := 10) sc_read_row.nd rfl (Or.inl rfl)) (fun _ _ _ _ _ => pts_nil) (fun _ _ _ _ _ => pv 10)) pa_nil)))
    (pss_cons (ps_set (i := 11) sc_read_row.nd rfl (Or.inl rfl) (pe_m1 PySem.F.slot_str_find PySem.F.type_str_find mt_find (pv 3) pe_str))
    (pss_cons (ps_if (PW.pt (pw_and (pt_cmpR op_ge (pv 11) pe_int (nomark _)) (pw_and (pt_cmpR op_eq (pe_ix ix_tup (pv 8) (pv 11) fun _ _ => rfl) pe_int (nomark _)) (pw_and1 (pt_cmpR op_eq (pe_ix ix_tup (pv 8) (pe_op op_add (pv 11) pe_int) fun _ _ => rfl) pe_int (nomark _)))))) (pss_one (ps_ret pe_non)) pss_nil)
    (pss_one (ps_ret (pe_op op_catA (pe_tup (pa_cons (pv 1) pa_nil)) (pv 8))))))))))))), ?_⟩
  obtain ⟨ds, d, hds, ⟨r, rfl, hr1, rfl⟩, hk⟩ := h
  obtain ⟨tv, rfl⟩ : ∃ v0, vs = [v0] := by
    match vs, hds.len with
    | [v0], _ => exact ⟨v0, rfl⟩
  have hT : Dt K H tv (.str (rowT r)) := by cases hds with | cons a _ => exact a
  rw [hT.str_eq]
  have len := rowT_len hr1
  have rd := row_rd hr1
  refine q_split (K := K) (d_vstr rfl) d_str (by decide +kernel) (by omega) (rowT_split hr1) fun p H3 e3 hP => ?_
  -- shape = SHAPES.get(first)
  obtain ⟨u, hu, ru⟩ := He.valsB_ok T.vals.2.1 (shape_in r)
  refine q_asgD (K := K) (d := .str (shapeR r)) (fun H4 e4 Q' q' => ev_c (v := .ref (He.ga K "SHAPES")) H4 (Ex.refl H4) _ fun H5 e5 => ⟨rfl, (ev_var (i := 1) (v := .str (wordR r)) rfl) H5 (Ex.refl H5) _ fun H6 e6 => ⟨wordR r, u, .str (shapeR r), rfl, hu, ru, q' _ H6 (e5.trans e6) (.str _)⟩⟩) fun v H4 e4 xs => ?_
  rw [xs.str_eq]
  clear xs
  have hP4 := e4 _ _ hP
  have ll := rd.len
  have lsh : (shapeR r).length = (wordsR r).length := by rw [ll.1]; simp [Str.length]
  have lw := words_len r
  -- no shape, or another length
  refine q_when (b := false || !decide (((shapeR r).length : Int) = ((wordsR r).length : Int))) (et_or (t_test (K := K) (d_isN (d_vstr rfl) d_non)) fun _ => t_test (K := K) (d_neI (d_lenS (d_vstr rfl) (by omega)) (d_lenW (ev_var rfl) (sq_of hP4)))) (fun hb => ?_) fun _ H5 e5 => ?_
  · rw [decide_eq_true (by omega)] at hb
    exact absurd hb (by decide)
  refine ⟨by show 0 ≤ sizeLine; decide, fun F hF => ?_⟩
  have eF : Ex H5 (upd H5 F (.lst [])) := Ex.new hF
  have hP6 : upd H5 F (.lst []) p = some (.lst ((wordsR r).map V.str)) := eF _ _ (e5 _ _ hP4)
  -- the readers
  have hP5 := e5 _ _ hP4
  have rx5 : Ex H H5 := (e3.trans e4).trans e5
  refine q_forZipS (K := K) (x := shapeR r) (b := p) (ws := wordsR r) (i := 5) (j := 6) (ev_var rfl) (ev_var rfl) hP6 (by rw [ll.1]; simp) (fun k σ' H' => ∃ (acc : List V) (o5 o6 o7 : Option V), σ' = [some (.str (rowT r)), some (.str (wordR r)), some (.ref p), some (.str (shapeR r)), some (.ref F), o5, o6, o7, none, none, none, none] ∧ Ex H5 H' ∧ H' F = some (.lst acc) ∧ Fnd K H' F acc ((valsR r).take k)) (fun k σ' H' ⟨_, _, _, _, _, ex, _⟩ => ex _ _ hP5)
    (fun H1 e1 => ⟨[], none, none, none, rfl, eF.trans e1, e1 _ _ upd_same, rfl, fun i d hd => by simp at hd⟩)
    (fun k σ' H' H'' e ⟨acc, o5, o6, o7, a, b, c, d⟩ => ⟨acc, o5, o6, o7, a, b.trans e, e _ _ c, d.ex e⟩) ?_ ?_
  · rintro k c wd σ' H' hc hw ⟨acc, o5, o6, o7, rfl, ex, hF', hA⟩
    obtain ⟨d, hd, hrd⟩ := rd.at hc hw
    obtain ⟨nm, R, hn, hR, hin⟩ := rdc_n hrd
    obtain ⟨u, hu, ru⟩ := He.valsB_ok T.vals.2.2.1 hin
    refine q_asg (v := .ref (He.ga K nm)) (ev_op (ev_c (v := .ref (He.ga K "READERS"))) (ev_var (i := 5) (v := .str ⟨#[c]⟩) rfl) fun H9 _ Q q => ⟨⟨#[c]⟩, u, _, rfl, rfl, hu, ru, q H9 (Ex.refl H9)⟩) fun H7 e7 => ?_
    have hd1 : (valsR r)[k]? = some d := hd
    have kl := (List.getElem?_eq_some_iff.mp hd1).1
    have al : acc.length ≤ 4 := by rw [hA.1, List.length_take]; omega
    refine s_appG (K := K) (l := F) (xs := acc) (ev_var rfl) (e7 _ _ hF') (by omega) fun H8 e8 Q' q' => ⟨He.ga K nm, spRead K R, rfl, ⟨nm, R, hn, rfl, rfl⟩, (ea_cons (ev_var (i := 6) (v := .str wd) rfl) ea_nil) H8 (Ex.refl H8) _ fun H9 e9 => ?_⟩
    refine ⟨wd, d, rfl, hR, fun q xs H10 hq e10 hx hdx => ?_⟩
    have e79 := (e7.trans e8).trans (e9.trans e10)
    have hF10 : H10 F = some (.lst acc) := e79 _ _ hF'
    have nq : q ≠ F := fun e => by
      have := e9 _ _ (e8 _ _ (e7 _ _ hF'))
      rw [← e, hq] at this
      cases this
    obtain ⟨x, rfl, hxd⟩ : ∃ x, xs = [x] ∧ Dt K H10 x d := by
      cases hdx with
      | cons a b => cases b; exact ⟨_, rfl, a⟩
    refine q' (.ref q) H10 hF10 ⟨acc ++ [.ref q], _, _, _, rfl, Ex.mut (ex.trans e79) hF, upd_same, ?_⟩
    have e1 : (valsR r).take (k + 1) = (valsR r).take k ++ [d] := by rw [List.take_add_one, hd1]; rfl
    rw [e1]
    exact (hA.ex e79).app hF10 hx nq hxd
  · rintro σ' H' ⟨acc, o5, o6, o7, rfl, ex, hF', hA⟩
    rw [show (valsR r).take (wordsR r).length = valsR r from List.take_of_length_le (by omega)] at hA
    have lv : (valsR r).length ≤ 4 := by omega
    have shd : ∀ d ∈ valsR r, Shp 1 d := fun d hd => by
      obtain ⟨i, hi⟩ := List.mem_iff_getElem?.mp hd
      have li := (List.getElem?_eq_some_iff.mp hi).1
      obtain ⟨d', h1, h2⟩ := rd.at (i := i) (List.getElem?_eq_getElem (by omega)) (List.getElem?_eq_getElem (by omega))
      rw [hi] at h1
      cases h1
      exact rdc_shp h2
    -- [] in found
    refine q_when (b := false) (t_inF (ev_var rfl) hF' hA shd) (fun hb => absurd hb (by decide)) fun _ H7 e7 => ?_
    replace hA := hA.ex e7
    replace hF' := e7 _ _ hF'
    have lA := hA.1
    have n := n_lc2 (K := K) (σ := [some (.str (rowT r)), some (.str (wordR r)), some (.ref p), some (.str (shapeR r)), some (.ref F), o5, o6, o7, none, none, none, none]) (H := H7) (tl := tVar 4) (te := tVar 10) (tt1 := tYes) (a := F) (xs := acc) (wi1 := iList K (tVar 9)) (j := 9) (j1 := 10) (vs := [9, 10]) (vs1 := [10])
      (es := fun i => match (valsR r)[i]? with | some d => [d] | none => []) (f := fun _ _ => true) (g := fun _ d => d) (ev_var rfl) (sq_of hF') (by rw [lA, flat_ones _ (Nat.le_refl _), List.take_length]; omega) (fun x => rfl) (fun x y => rfl)
      (fun i x hxi => by
        have hi := (List.getElem?_eq_some_iff.mp hxi).1
        have hd : (valsR r)[i]? = some (valsR r)[i] := List.getElem?_eq_getElem (by omega)
        obtain ⟨q, x', a, nq, b, c⟩ := hA.2 i _ hd
        rw [hxi] at a
        cases a
        refine ⟨Itl K q, [x'], ?_, jok_l (sq_of b), fun H8 R e8 rr => ⟨.ref q, rfl, q, rfl, ⟨[x'], sq_of (e8 _ _ b)⟩, rr⟩⟩
        rw [hd]
        exact .cons c .nil)
      (fun i x y d H8 e8 hxi hm hy => t_yes) fun i x y d H8 e8 hxi hm hy _ => d_var hy rfl
    have n' := n.is (es := valsR r) (by
      have e : ∀ l : List PyData, (l.filter fun _ => true).map (fun d => d) = l := fun l => by rw [List.map_id', List.filter_eq_self.mpr fun _ _ => rfl]
      simp only [e]
      rw [lA, flat_ones _ (Nat.le_refl _), List.take_length])
    refine q_asgD (K := K) (d := .tuple (valsR r)) (d_tupN n') fun v8 H8 e8 x8 => ?_
    refine q_asgD (K := K) (d := .int (Txt.find (shapeR r) "p")) (d_findS (d_vstr rfl) d_str) fun v9 H9 e9 x9 => ?_
    rw [x9.int_eq]
    have x8' := x8.ex e9
    refine q_when (b := false) ?_ (fun hb => absurd hb (by decide)) fun _ H10 e10 => ?_
    · rcases pq_find hr1 with hneg | ⟨i, a, b, hf, h0, h1, h2, hab⟩
      · exact et_is (a := decide (Txt.find (shapeR r) "p" ≥ 0) && false) (et_and (t_test (K := K) (d_ib (f := fun i j => decide (i ≥ j)) (d_vint rfl) (d_int (n := 0)))) fun hb => absurd (show Txt.find (shapeR r) "p" ≥ 0 from of_decide_eq_true hb) (by omega)) (Bool.and_false _)
      · rw [hf]
        have q := et_and (H := H9) (t_test (K := K) (d_ib (f := fun i j => decide (i ≥ j)) (d_vint (K := K) (i := 11) (σ := [some (.str (rowT r)), some (.str (wordR r)), some (.ref p), some (.str (shapeR r)), some (.ref F), o5, o6, o7, some v8, none, none, some (.int i)]) rfl) (d_int (n := 0)))) fun _ => et_and (t_test (K := K) (d_eqI (d_ix (d_var (i := 8) x8' rfl) (d_vint (i := 11) rfl) h1) (d_int (n := 0)))) fun _ => t_test (K := K) (d_eqI (d_ix (d_var (i := 8) x8' rfl) (d_ii (f := fun i j => i + j) (d_vint (i := 11) rfl) (d_int (n := 1))) h2) (d_int (n := 0)))
        have z : (decide (i ≥ 0) && (decide (a = 0) && decide (b = 0))) = false := by
          cases ha : decide (a = 0) with
          | false => simp
          | true =>
            cases hb : decide (b = 0) with
            | false => simp
            | true => exact absurd ⟨of_decide_eq_true ha, of_decide_eq_true hb⟩ hab
        rw [z] at q
        exact q
    · refine s_retD (d_catT (d_tup (ds_cons (d_vstr (i := 1) rfl) ds_nil) (by show 1 ≤ 100000; decide)) (d_var (i := 8) (x8'.ex e10) rfl) (by show 1 + _ ≤ 100000; omega)) fun v11 H11 e11 x11 => ?_
      exact hk v11 H11 ((((((rx5.trans ex).trans e7).trans e8).trans e9).trans e10).trans e11) x11
end
end Kx

set_option Elab.async false
set_option linter.all false
set_option maxRecDepth 100000
set_option maxHeartbeats 4000000
namespace Kx
open PySem PySem.Spec PyProof.Rows L2 Evl HT TL
/-- a statement that no run comes to -/
theorem pss_dead {X : Cx} {ss : List Stmt} : PSs X ss (fun _ _ _ => False) := ⟨fun _ _ _ _ _ _ h => h.elim⟩
theorem ps_dead {X : Cx} {s : Stmt} : PS X s (fun _ _ _ => False) := ⟨fun _ _ _ _ _ _ h => h.elim⟩
section
variable {w : World} {K : PySem.W.Frag} {mg : Str → Option Value} {base : Heap}
def Fits (r : Row) (o : Bool) (kvs : List (Key × V)) : Prop := match r with
  | .piece nm => o = false ∧ valV kvs (.inr nm) = none
  | .fin => o = true
  | _ => True
def spFit (K : PySem.W.Frag) : Sp := fun vs H Q _ => ∃ v r o S kvs, vs = [v, .bl o, .ref S] ∧ Dt K H v (rowD r) ∧ H S = some (.dK kvs) ∧ Fits r o kvs ∧ ∀ H', Ex H H' → Q (.bl true) H'
theorem sc_is_fitting : FnScope ["row", "opened", "names"] ["row", "opened", "names"] (defScope Kd.s_is_fitting) := ⟨rfl, rfl, rfl, by decide +kernel, rfl, by decide +kernel, by decide +kernel⟩
theorem ev_notIn {σ : L2.St} {H : Hp} {ta tb : TE} {S : Addr} {kvs : List (Key × V)} {nm : Str} (ha : EvD K ta σ H (.str nm)) (hb : Ev tb σ H (.ref S)) (hs : H S = some (.dK kvs)) : Ev (tDNotIn ta tb) σ H (.bl (!(valV kvs (.inr nm)).isSome)) := fun H1 e Q q =>
  ha.str H1 e _ fun H2 e2 => hb H2 (e.trans e2) _ fun H3 e3 => ⟨S, _, rfl, DGet.k (k := Sum.inr nm) (((e.trans e2).trans e3) _ _ hs), q H3 (e2.trans e3)⟩
theorem isFin_word {r : Row} : decide (wordR r = "end") = isFin r := by
  cases r with
  | arc lf x y p q => cases lf <;> rfl
  | mode b => cases b <;> rfl
  | frame f => cases f <;> rfl
  | _ => rfl
theorem isPiece_word {r : Row} : decide (wordR r = "piece") = isPiece r := by
  cases r with
  | arc lf x y p q => cases lf <;> rfl
  | mode b => cases b <;> rfl
  | frame f => cases f <;> rfl
  | _ => rfl
theorem ok_is_fitting (T : Tx w K mg) : Ok Pg w K mg base CX0 1 (He.ga K "is_fitting") ["row", "opened", "names"] (spFit K) := by
  refine ok_of T.f_is_fitting sc_is_fitting (fun vs H Q E h => by obtain ⟨_, _, _, _, _, rfl, _⟩ := h; rfl) (fun _ _ _ _ _ _ us hl => match us, hl with | [_, _, _], _ => rfl) fun cdv A outer s0 H vs Q E hr h => ?_
  obtain ⟨v, r, o, S, kvs, rfl, hv, hS, hf, hk⟩ := h
  refine ⟨_, PSs.nox (pss_cons (ps_if (pt_cmpR op_isN (pv 0) pe_non (nomark _)) pss_dead pss_nil)
    (pss_cons (ps_if (pt_cmpR op_eq (px (pv 0)) pe_str (nomark _)) (pss_one (ps_ret (pe_and (pe_not (pv 1)) (pe_one (pe_cmp (pc_dnotin (hu_of hr) (pe_ix ix_tup (pv 0) pe_int fun _ _ => rfl) (pv 2))))))) pss_nil)
    (pss_one (ps_ret (pe_or (pe_cmpR op_ne (px (pv 0)) pe_str (nomark _)) (pe_one (pv 1))))))), ?_⟩
  refine q_when (b := false) (t_test (K := K) (d_isN (d := rowD r) (d_var hv rfl) d_non)) (fun hb => absurd hb (by decide)) fun _ H1 e1 => ?_
  have hv1 := hv.ex e1
  refine q_when (b := isPiece r) (by have q := t_test (K := K) (d_eqS (b := "piece") (d_ix (K := K) (σ := start ["row", "opened", "names"] [v, .bl o, .ref S]) (ta := tVar 0) (d_var hv1 rfl) (d_int (n := 0)) (atI_nat' (j := 0) rfl)) d_str); rw [isPiece_word] at q; exact q) (fun hb H2 e2 => ?_) fun hb H2 e2 => ?_
  · cases r with
    | piece nm =>
      obtain ⟨rfl, h2⟩ := hf
      have n1 := ev_notIn (K := K) (σ := start ["row", "opened", "names"] [v, .bl false, .ref S]) (H := H2) (ta := tOp (rIxT K) (tVar 0) (tC (.int 1))) (tb := tVar 2) (nm := nm) (d_ix (d_var (hv1.ex e2) rfl) (d_int (n := 1)) (atI_nat' (j := 1) rfl)) (ev_var rfl) ((e1.trans e2) _ _ hS)
      rw [h2] at n1
      have q := ev_andV (ev_notV (ev_var (H := H2) (σ := start ["row", "opened", "names"] [v, .bl false, .ref S]) (i := 1) (v := .bl false) rfl)) fun _ => n1
      exact q H2 (Ex.refl H2) _ fun H3 e3 => hk H3 ((e1.trans e2).trans e3)
    | _ => cases hb
  · have q := ev_orV (d_neS (b := "end") (d_ix (K := K) (σ := start ["row", "opened", "names"] [v, .bl o, .ref S]) (H := H2) (ta := tVar 0) (d_var (hv1.ex e2) rfl) (d_int (n := 0)) (atI_nat' (j := 0) rfl)) d_str).bool fun _ => ev_var (H := H2) (σ := start ["row", "opened", "names"] [v, .bl o, .ref S]) (i := 1) (v := .bl o) rfl
    rw [isFin_word] at q
    have z : (!isFin r || o) = true := by
      cases r with
      | fin => show (!true || o) = true; rw [show o = true from hf]; rfl
      | _ => rfl
    rw [z] at q
    exact q H2 (Ex.refl H2) _ fun H3 e3 => hk H3 ((e1.trans e2).trans e3)
end
end Kx

set_option Elab.async false
set_option linter.all false
set_option maxRecDepth 100000
set_option maxHeartbeats 4000000
namespace Kx
open PySem PySem.Spec PyProof.Rows L2 Evl HT TL
section
variable {K : PySem.W.Frag} {H H' : Hp} {σ : L2.St} {te ta tb : TE} {t : TT} {D : Ends} {tz tu : TS} {ds : List PyData}
theorem n_if {b : Bool} (h : EvT t σ H b) (h1 : b = true → EvN K ta σ H ds) (h2 : b = false → EvN K tb σ H ds) : EvN K (tIf t ta tb) σ H ds := fun H1 a Q q => h H1 a _ fun H2 c => by
  cases b with
  | true => rw [if_pos rfl]; exact h1 rfl H2 (a.trans c) _ fun p xs H3 hp e hx hd => q p xs H3 (fresh_back c hp) (c.trans e) hx hd
  | false => rw [if_neg (by decide)]; exact h2 rfl H2 (a.trans c) _ fun p xs H3 hp e hx hd => q p xs H3 (fresh_back c hp) (c.trans e) hx hd
theorem dtl_strs {H : Hp} : ∀ ws : List Str, DtL K H (ws.map V.str) (ws.map .str)
  | [] => .nil
  | _ :: ws => .cons (.str _) (dtl_strs ws)
theorem n_split {a b : Str} (ha : EvD K ta σ H (.str a)) (hb : EvD K tb σ H (.str b)) (hn : (b.length == 0) = false) (hz : a.length ≤ 50000) :
    EvN K (tM1 (fun x xs H Q => ∃ a b, x = .str a ∧ xs = [.str b] ∧ (b.length == 0) = false ∧ a.length + 2 ≤ sizeLine ∧ rNewStrs (Txt.split a b) H Q) ta tb) σ H ((Txt.split a b).map .str) := fun H0 e0 Q q => ha.str H0 e0 _ fun H1 e1 => ⟨⟨a, rfl⟩, hb.str H1 (e0.trans e1) _ fun H2 e2 => ⟨a, b, rfl, rfl, hn, sz_of (by omega), fun p hp => q p _ _ (fresh_back (e1.trans e2) hp) ((e1.trans e2).trans (Ex.new hp)) upd_same (dtl_strs _)⟩⟩
theorem t_truS {a : Str} (ha : EvD K ta σ H (.str a)) (hz : a.length ≤ 100000) : EvT (fun σ H Q => ta σ H fun x H' => ∃ k, TruV K x H' k ∧ Q k H') σ H ((a.length : Int) != 0) := fun H1 e Q q => ha.str H1 e _ fun H2 e2 => ⟨_, ⟨sz_of hz, rfl⟩, q H2 e2⟩
/-- for at, x in enumerate(list) -/
theorem q_forEnL {i j : Nat} {a : Addr} {xs : List V} (h : Ev ta σ H (.ref a)) (hs : H a = some (.lst xs)) (hl : DtL K H xs ds) (Pv : Nat → L2.St → Hp → Prop) (hex : ∀ k σ' H', Pv k σ' H' → H' a = some (.lst xs) ∧ DtL K H' xs ds) (h0 : ∀ H1, Ex H H1 → Pv 0 σ H1)
    (hm : ∀ k σ' H' H'', Ex H' H'' → Pv k σ' H' → Pv k σ' H'')
    (step : ∀ k d x σ' H', ds[k]? = some d → Dt K H' x d → Pv k σ' H' → tu { D with nx := Pv (k + 1), ct := Pv (k + 1), bk := tz D } ((σ'.set i (some (.int (k : Nat)))).set j (some x)) H')
    (hd : ∀ σ' H', Pv ds.length σ' H' → tz D σ' H') : tSeq (tFor (iEnum K (tCons ta tNil)) (gTup K 2 (gCons (gName i) (gCons (gName j) gNil))) tu) tz D σ H := by
  unfold tSeq tFor iEnum
  refine (ea_cons h ea_nil) H (Ex.refl H) _ fun H1 e1 => ?_
  refine ⟨a, xs, rfl, sq_of (e1 _ _ hs), ?_⟩
  have ln := hl.len
  refine ⟨fun k m σ' H' => m = xs.length - k ∧ k ≤ xs.length ∧ Pv k σ' H', ⟨xs.length, by simp, Nat.zero_le _, h0 H1 e1⟩, ?_⟩
  rintro k m σ' H' ⟨rfl, hi, p⟩
  obtain ⟨hs', hl'⟩ := hex _ _ _ p
  by_cases hlt : k < xs.length
  · have hv : xs[k]? = some xs[k] := List.getElem?_eq_getElem hlt
    refine .inr ⟨⟨xs, _, sq_of hs', hv⟩, fun σ2 H2 => Pv (k + 1) σ2 H2, fun σ2 H2 p' => ⟨xs.length - (k + 1), by omega, rfl, hlt, p'⟩, fun v H2 y => ?_⟩
    obtain ⟨T, z, rfl, hT, rfl, hz⟩ := y
    have ez := hz _ (sq_of hs')
    obtain ⟨d, hd', hxd⟩ := hl'.get' ez
    have eT : Ex H' (upd H' T (.tup [.int (k : Nat), z])) := Ex.new hT
    refine ⟨T, _, rfl, SqT.of upd_same, rfl, _, _, rfl, _, _, rfl, rfl, ?_⟩
    exact step k d z σ' _ hd' (hxd.ex eT) (hm k σ' _ _ eT p)
  · have e : k = ds.length := by omega
    subst e
    exact .inl ⟨⟨xs, sq_of hs', by omega⟩, hd σ' H' p⟩
/-- for x in list -/
theorem q_forL {j : Nat} {a : Addr} {xs : List V} (h : Ev ta σ H (.ref a)) (hs : H a = some (.lst xs)) (hl : DtL K H xs ds) (Pv : Nat → L2.St → Hp → Prop) (hex : ∀ k σ' H', Pv k σ' H' → H' a = some (.lst xs) ∧ DtL K H' xs ds) (h0 : ∀ H1, Ex H H1 → Pv 0 σ H1)
    (step : ∀ k d x σ' H', ds[k]? = some d → Dt K H' x d → Pv k σ' H' → tu { D with nx := Pv (k + 1), ct := Pv (k + 1), bk := tz D } (σ'.set j (some x)) H')
    (hd : ∀ σ' H', Pv ds.length σ' H' → tz D σ' H') : tSeq (tFor (iList K ta) (gName j) tu) tz D σ H := h H (Ex.refl H) _ fun H1 e1 => by
  refine ⟨a, rfl, ⟨xs, sq_of (e1 _ _ hs)⟩, ?_⟩
  have ln := hl.len
  refine ⟨fun k m σ' H' => m = xs.length - k ∧ k ≤ xs.length ∧ Pv k σ' H', ⟨xs.length, by simp, Nat.zero_le _, h0 H1 e1⟩, ?_⟩
  rintro k m σ' H' ⟨rfl, hi, p⟩
  obtain ⟨hs', hl'⟩ := hex _ _ _ p
  by_cases hlt : k < xs.length
  · have hv : xs[k]? = some xs[k] := List.getElem?_eq_getElem hlt
    refine .inr ⟨⟨xs, _, sq_of hs', hv⟩, fun σ2 H2 => Pv (k + 1) σ2 H2, fun σ2 H2 p' => ⟨xs.length - (k + 1), by omega, rfl, hlt, p'⟩, fun v H2 y => ?_⟩
    obtain ⟨rfl, y⟩ := y
    have ez := y _ (sq_of hs')
    obtain ⟨d, hd', hxd⟩ := hl'.get' ez
    exact step k d v σ' _ hd' hxd p
  · have e : k = ds.length := by omega
    subst e
    exact .inl ⟨⟨xs, sq_of hs', by omega⟩, hd σ' H' p⟩
theorem s_ifG {b : Bool} {u1 u2 : TS} (h : EvT t σ H b) (h1 : b = true → ∀ H1, Ex H H1 → u1 D σ H1) (h2 : b = false → ∀ H1, Ex H H1 → u2 D σ H1) : tIfS t u1 u2 D σ H := h H (Ex.refl H) _ fun H1 e1 => by
  cases b with
  | true => rw [if_pos rfl]; exact h1 rfl H1 e1
  | false => rw [if_neg (by decide)]; exact h2 rfl H1 e1
theorem q_setDV {te ta' tk : TE} {S : Addr} {kvs : List (Key × V)} {nm : Str} {v : V} (h : Ev te σ H v) (ho : Ev ta' σ H (.ref S)) (hk : EvD K tk σ H (.str nm)) (hs : H S = some (.dK kvs)) (hl : kvs.length ≤ 100000) (k : ∀ H1, Ex H H1 → H1 S = some (.dK kvs) → tz D σ (upd H1 S (.dK (putK kvs (.inr nm) v)))) :
    tSeq (tAsg te (gSub ta' tk rSetD)) tz D σ H := h H (Ex.refl H) _ fun H1 e1 => ho H1 e1 _ fun H2 e2 => hk H2 (e1.trans e2) _ fun w H3 e3 hw => by
  rw [hw.str_eq]
  have e := (e1.trans e2).trans e3
  exact ⟨S, _, rfl, DPut.k (k := Sum.inr nm) (e _ _ hs) (Nat.lt_of_le_of_lt hl (by show 100000 < sizeLine; decide)), k H3 e (e _ _ hs)⟩
/-- a comprehension over data that stand for something -/
theorem n_lcM {α : Type} {as : List α} {dd g : α → PyData} {f : α → Bool} {tl : TE} {tt : TT} {j : Nat} {vs : List Nat} (h : EvN K tl σ H (as.map dd)) (hz : as.length ≤ 50000) (hw : ∀ x, wipe ((wipe σ vs).set j (some x)) vs = wipe σ vs)
    (ht : ∀ x a H1, Ex H H1 → a ∈ as → Dt K H1 x (dd a) → EvT tt ((wipe σ vs).set j (some x)) H1 (f a)) (he : ∀ x a H1, Ex H H1 → a ∈ as → Dt K H1 x (dd a) → f a = true → EvD K te ((wipe σ vs).set j (some x)) H1 (g a)) :
    EvN K (tLc (iList K tl) (gName j) tt te vs) σ H ((as.filter f).map g) := fun H0 e Q q => h H0 e _ fun a xs H1 hp e1 hs hl => by
  have e01 := e.trans e1
  refine ⟨a, rfl, ⟨xs, sq_of hs⟩, fun Dl hD => ?_⟩
  refine lc_list (K := K) (a := a) (xs := xs) (fun i H' => Ex H1 H' ∧ ∃ acc, H' Dl = some (.lst acc) ∧ DtL K H' acc ([] ++ ((as.take i).filter f).map g)) ⟨Ex.new hD, [], upd_same, by simp; exact .nil⟩ (fun i H' _ p => sq_of (p.1 _ _ hs)) (fun i x H' hx p => ?_) fun H' p => ?_
  · obtain ⟨d, hd, hxd⟩ := hl.get' hx
    rw [List.getElem?_map] at hd
    cases ha : as[i]? with
    | none => rw [ha] at hd; cases hd
    | some b =>
      rw [ha] at hd
      cases hd
      have hm := List.mem_of_getElem? ha
      have eH := e01.trans p.1
      exact ⟨hw x, acc_next (pre := []) (by simp; exact hz) hD ha (ht x b H' eH hm (hxd.ex p.1)) (fun H2 e2 q => he x b H2 (eH.trans e2) hm ((hxd.ex p.1).ex e2) q) p⟩
  · obtain ⟨x1, acc, h1, h2⟩ := p
    rw [hl.len, List.length_map, List.take_length] at h2
    exact q Dl acc H' (fresh_back e1 hD) (e1.trans x1) h1 h2
end
def progT (rs : List Row) : Str := Txt.join "\n" (rs.map rowT)
theorem joinL_ge {S p : List Nat} {ps : List (List Nat)} : p.length ≤ (joinL S (p :: ps)).length := by
  cases ps with
  | nil => exact Nat.le_refl _
  | cons q r => simp only [joinL, List.length_append]; omega
theorem wordR_pos (r : Row) : 1 ≤ (wordR r).length := by
  have all : ∀ x ∈ (["back", "by", "call", "cut", "end", "flip", "from", "hop", "left", "pace", "piece", "right", "run", "shift", "side", "turn"] : List Str), 1 ≤ x.length := by decide +kernel
  apply all
  cases r with
  | arc lf x y p q => cases lf <;> simp [wordR]
  | mode b => cases b <;> simp [wordR]
  | frame f => cases f <;> simp [wordR]
  | _ => simp [wordR]
theorem join_ge {y p : Str} {ps : List Str} : p.length ≤ (Txt.join y (p :: ps)).length := by
  rw [join_eq, len_tl, len_tl, tl_join]
  exact joinL_ge
theorem progT_pos {rs : List Row} (h : rs ≠ []) : 1 ≤ (progT rs).length := by
  cases rs with
  | nil => exact absurd rfl h
  | cons r rs =>
    have h1 : (rowT r).length ≤ (progT (r :: rs)).length := join_ge
    have h2 : (wordR r).length ≤ (rowT r).length := join_ge
    have := wordR_pos r
    omega
theorem progT_len {rs : List Row} (h : ∀ r ∈ rs, OkRow r) : (progT rs).length ≤ rs.length * 61 := by
  have q := join_len (y := "\n") (ps := rs.map rowT) (m := 60) fun p hp => by
    obtain ⟨r, hr, rfl⟩ := List.mem_map.mp hp
    exact rowT_len (h r hr)
  have e : ("\n" : Str).length = 1 := by decide +kernel
  rw [e, List.length_map] at q
  exact q
theorem progT_split {rs : List Row} (h : ∀ r ∈ rs, OkRow r) (hne : rs ≠ []) : Txt.split (progT rs) "\n" = rs.map rowT := split_join tl_feed (by decide +kernel) (by simpa using hne) fun p hp => by
  obtain ⟨r, hr, rfl⟩ := List.mem_map.mp hp
  exact rowT_clean (h r hr)
theorem nest_open {o : Bool} {rs : List Row} (h : nest o rs = true) : openAt o rs = false := by
  induction rs generalizing o with
  | nil => cases o <;> first | rfl | cases h
  | cons r rs ih => exact ih (nest_cons h)
theorem names_succ {rs : List Row} {k : Nat} {r : Row} (h : rs[k]? = some r) : namesR (rs.take (k + 1)) = namesR (rs.take k) ++ (match r with | .piece n => [n] | _ => []) := by
  have e : rs.take (k + 1) = rs.take k ++ [r] := by rw [List.take_add_one, h]; rfl
  unfold namesR
  rw [e, List.filterMap_append]
  cases r <;> rfl
/-- each row fits -/
theorem fits_at {rs : List Row} (W : WfR rs) {k : Nat} {r : Row} (h : rs[k]? = some r) {kvs : List (Key × V)} (hk : ∀ nm, (valV kvs (.inr nm)).isSome = decide (nm ∈ namesR (rs.take k))) : Fits r (openAt false (rs.take k)) kvs := by
  have hlt := (List.getElem?_eq_some_iff.mp h).1
  have n := nest_drop W.nest k
  rw [List.drop_eq_getElem_cons hlt, (List.getElem?_eq_some_iff.mp h).2] at n
  cases r with
  | piece nm =>
    refine ⟨by have := (Bool.and_eq_true_iff.mp n).1; simpa using this, ?_⟩
    have := hk nm
    have no : nm ∉ namesR (rs.take k) := fun hm => by
      obtain ⟨r', h1, h2⟩ := List.mem_filterMap.mp hm
      obtain ⟨i, hi⟩ := List.mem_iff_getElem?.mp h1
      have hik : i < k := by
        have := (List.getElem?_eq_some_iff.mp hi).1
        rw [List.length_take] at this; omega
      rw [List.getElem?_take, if_pos hik] at hi
      have e : r' = .piece nm := by
        cases r' with
        | piece n' => cases h2; rfl
        | _ => cases h2
      subst e
      have := dup_at W.dup hi h
      omega
    rw [decide_eq_false no] at this
    cases hv : valV kvs (.inr nm) with
    | none => rfl
    | some u => rw [hv] at this; cases this
  | fin => exact (Bool.and_eq_true_iff.mp n).1
  | _ => trivial
section
variable {w : World} {K : PySem.W.Frag} {mg : Str → Option Value} {base : Heap}
def fRowsOf : List PyData → PyData → Prop := fun ds d => ∃ rs, ds = [.str (progT rs)] ∧ (∀ r ∈ rs, OkRow r) ∧ WfR rs ∧ rs.length ≤ 60 ∧ d = rowsD rs
theorem sc_rows_of : FnScope ["text", "rows", "line", "names", "opened", "at", "row"] ["text"] (defScope Kd.s_rows_of) := ⟨rfl, rfl, rfl, by decide +kernel, rfl, by decide +kernel, by decide +kernel⟩
theorem ok_rows_of (T : Tx w K mg) : Ok Pg w K mg base CX0 5 (He.ga K "rows_of") ["text"] (spP K fRowsOf) := by
  refine ok_of T.f_rows_of sc_rows_of (fun vs H Q E h => by obtain ⟨_, _, a, ⟨_, rfl, _⟩, _⟩ := h; exact a.len) (fun _ _ _ _ _ _ us hl => match us, hl with | [_], _ => rfl) fun cdv A outer s0 H vs Q E hr h => ?_
  refine ⟨_, PSs.nox (pss_cons (ps_set (i := 1) sc_rows_of.nd rfl (Or.inl rfl) (pe_ifExp (pt_truth (pv 0) fun _ => rfl) (pe_lc (own := [("line", 2)]) (g := gName 2) (tt := tYes) (by rfl) sc_rows_of.nd (pi_list (pe_split (pv 0) pe_str)) (blkOk_by (own := [("line", 2)]) (N := ["text", "rows", "line", "names", "opened", "at", "row"]) (sc := defScope Kd.s_rows_of) (by decide +kernel))
        (fun _ _ _ _ _ => pg_name (i := 2) sc_rows_of.nd rfl (Or.inl rfl)) (fun _ _ _ _ _ => pts_nil) (fun _ _ _ _ _ => pe_fn (E := E) (ok_read_row T) (hr.mono (by decide)) T.g_read_row pass0 (pa_cons (pv 2) pa_nil))) (pe_lst pa_nil)))
    (pss_cons (ps_set (i := 3) sc_rows_of.nd rfl (Or.inl rfl) pe_dnewK)
    (pss_cons (ps_set (i := 4) sc_rows_of.nd rfl (Or.inl rfl) pe_bl)
    (pss_cons (ps_for PassesOwn.never rfl (pi_enum rfl T.b_enumerate (pa_cons (pv 1) pa_nil)) (pg_tup (by rfl) (pgs_cons (pg_name (i := 5) sc_rows_of.nd rfl (.inl rfl)) (pgs_cons (pg_name (i := 6) sc_rows_of.nd rfl (.inl rfl)) pgs_nil)))
      (pss_cons (ps_if (pt_not (pt_val (pe_fn (E := E) (ok_is_fitting T) (hr.mono (by decide)) T.g_is_fitting pass0 (pa_cons (pv 6) (pa_cons (pv 4) (pa_cons (pv 3) pa_nil)))))) pss_dead pss_nil)
      (pss_one (ps_if (pt_cmpR op_eq (px (pv 6)) pe_str (nomark _)) (pss_cons (ps_asg pe_bl (pg_sub (pv 3) (pe_ix ix_tup (pv 6) pe_int fun _ _ => rfl) (set_dict (hu_of hr)))) (pss_one (ps_set (i := 4) sc_rows_of.nd rfl (Or.inl rfl) pe_bl)))
        (pss_one (ps_if (pt_cmpR op_eq (px (pv 6)) pe_str (nomark _)) (pss_one (ps_set (i := 4) sc_rows_of.nd rfl (Or.inl rfl) pe_bl)) pss_nil))))))
    (pss_cons (ps_if (pt_val (pv 4)) pss_dead pss_nil)
    (pss_cons (ps_for PassesOwn.never rfl (pi_list (pv 1)) (pg_name (i := 6) sc_rows_of.nd rfl (.inl rfl)) (pss_one (ps_if (PW.pt (pw_and (pt_cmpR op_eq (px (pv 6)) pe_str (nomark _)) (pw_and1 (pt_cmp (pc_dnotin (hu_of hr) (pe_ix ix_tup (pv 6) pe_int fun _ _ => rfl) (pv 3)))))) pss_dead pss_nil)))
    (pss_one (ps_ret (pe_callTy call_tuple_of (by rfl) T.b_tuple PyProof.Rows.boot_tuple (pa_cons (pv 1) pa_nil)))))))))), ?_⟩
  obtain ⟨ds, d, hds, ⟨rs, rfl, hok, W, hz, rfl⟩, hk⟩ := h
  obtain ⟨tv, rfl⟩ : ∃ v0, vs = [v0] := by
    match vs, hds.len with
    | [v0], _ => exact ⟨v0, rfl⟩
  have hT : Dt K H tv (.str (progT rs)) := by cases hds with | cons a _ => exact a
  rw [hT.str_eq]
  have len := progT_len hok
  have len' : (progT rs).length ≤ 3660 := Nat.le_trans len (by omega)
  have nB : EvN K (tIf (fun σ H Q => tVar 0 σ H fun x H' => ∃ k, TruV K x H' k ∧ Q k H') (tLc (iList K (tM1 (fun x xs H Q => ∃ a b, x = .str a ∧ xs = [.str b] ∧ (b.length == 0) = false ∧ a.length + 2 ≤ sizeLine ∧ rNewStrs (Txt.split a b) H Q) (tVar 0) (tC (.str "\n")))) (gName 2) tYes (tCall (spP K fReadRow) [] E (tCons (tVar 2) tNil)) [2]) (tLst tNil)) [some (.str (progT rs)), none, none, none, none, none, none] H (rs.map rowD) := by
    refine n_if (t_truS (d_vstr rfl) (by omega)) (fun hb => ?_) fun hb => ?_
    · have hne : rs ≠ [] := fun e => by
        subst e
        revert hb
        decide +kernel
      have sp := n_split (K := K) (σ := [some (.str (progT rs)), none, none, none, none, none, none]) (H := H) (ta := tVar 0) (tb := tC (.str "\n")) (a := progT rs) (b := "\n") (d_vstr rfl) d_str (by decide +kernel) (by omega)
      rw [progT_split hok hne, List.map_map] at sp
      have n := n_lcM (K := K) (as := rs) (dd := PyData.str ∘ rowT) (te := tCall (spP K fReadRow) [] E (tCons (tVar 2) tNil)) (tt := tYes) (j := 2) (vs := [2]) (f := fun _ => true) (g := rowD) sp (by omega) (fun x => rfl) (fun x d H1 e1 hm hx => t_yes) fun x r H1 e1 hm hx _ => d_call (ds_cons (d_var hx rfl) ds_nil) ⟨r, rfl, hok r hm, rfl⟩
      rw [List.filter_eq_self.mpr fun _ _ => rfl] at n
      exact n
    · have hne : rs = [] := by
        cases rs with
        | nil => rfl
        | cons r rs' =>
          have := progT_pos (rs := r :: rs') (by simp)
          simp at hb
          omega
      subst hne
      exact n_lst ds_nil (by show 0 ≤ 100000; decide)
  refine q_asgN (K := K) nB fun p xs H1 hp e1 hx hd => ?_
  refine fun S hS => ?_
  have eS : Ex H1 (upd H1 S (.dK [])) := Ex.new hS
  refine q_asg (v := .bl false) ev_c fun H2 e2 => ?_
  have hx2 := e2 _ _ (eS _ _ hx)
  have hd2 := (hd.ex eS).ex e2
  refine q_forEnL (K := K) (ds := rs.map rowD) (a := p) (xs := xs) (i := 5) (j := 6) (ev_var rfl) hx2 hd2 (fun k σ' H' => ∃ o5 o6 kvs, σ' = [some (.str (progT rs)), some (.ref p), none, some (.ref S), some (.bl (openAt false (rs.take k))), o5, o6] ∧ H' S = some (.dK kvs) ∧ kvs.length ≤ k ∧ Ex H1 H' ∧ TK (upd H1 S (.dK [])) H' ∧ ∀ nm, (valV kvs (.inr nm)).isSome = decide (nm ∈ namesR (rs.take k)))
    (fun k σ' H' ⟨_, _, _, _, _, _, ex, tk, _⟩ => ⟨ex _ _ hx, hd.ex ex⟩) (fun H3 e3 => ⟨none, none, [], rfl, e3 _ _ (e2 _ _ upd_same), Nat.le_refl _, (eS.trans e2).trans e3, TK.ex (e2.trans e3), fun nm => rfl⟩)
    (fun k σ' H' H'' e ⟨o5, o6, kvs, a, b, c, d, f, g⟩ => ⟨o5, o6, kvs, a, e _ _ b, c, d.trans e, f.trans (TK.ex e), g⟩) ?_ ?_
  · rintro k d x σ' H' hkd hxd ⟨o5, o6, kvs, rfl, hSS, hl, ex, tk, hn⟩
    rw [List.getElem?_map] at hkd
    cases hr' : rs[k]? with
    | none => rw [hr'] at hkd; cases hkd
    | some r =>
      rw [hr'] at hkd
      cases hkd
      have hkl := (List.getElem?_eq_some_iff.mp hr').1
      have hft := fits_at W hr' hn
      have eFit : Ev (tCall (spFit K) [] E (tCons (tVar 6) (tCons (tVar 4) (tCons (tVar 3) tNil)))) [some (.str (progT rs)), some (.ref p), none, some (.ref S), some (.bl (openAt false (rs.take k))), some (.int (k : Nat)), some x] H' (.bl true) := fun H3 e3 Q' q' =>
        (ea_cons (ev_var rfl) (ea_cons (ev_var rfl) (ea_cons (ev_var rfl) ea_nil))) H3 (Ex.refl H3) _ fun H4 e4 => ⟨x, r, openAt false (rs.take k), S, kvs, rfl, hxd.ex (e3.trans e4), (e3.trans e4) _ _ hSS, hft, fun H5 e5 => q' H5 (e4.trans e5)⟩
      refine q_when (b := !true) (et_not (et_B eFit)) (fun hb => absurd hb (by decide)) fun _ H3 e3 => ?_
      have tkS : ∀ {H4 : Hp} {o : HO}, H4 S = some (.dK kvs) → TK H4 (upd H4 S o) := fun h => TK.upd h trivial
      have e13 := ex.trans e3
      have fin : ∀ (b : Bool) (H4 : Hp), Ex H3 H4 → openS (openAt false (rs.take k)) r = b → (match r with | .piece _ => False | _ => True) → ∃ o5 o6 kvs, ([some (.str (progT rs)), some (.ref p), none, some (.ref S), some (.bl b), some (.int (k : Nat)), some x] : L2.St) = [some (.str (progT rs)), some (.ref p), none, some (.ref S), some (.bl (openAt false (rs.take (k + 1)))), o5, o6] ∧ H4 S = some (.dK kvs) ∧ kvs.length ≤ k + 1 ∧ Ex H1 H4 ∧ TK (upd H1 S (.dK [])) H4 ∧ ∀ nm, (valV kvs (.inr nm)).isSome = decide (nm ∈ namesR (rs.take (k + 1))) := fun b H4 e4 ho hnp => ⟨_, _, kvs, by rw [openAt_succ hr', ho], e4 _ _ (e3 _ _ hSS), by omega, e13.trans e4, tk.trans (TK.ex (e3.trans e4)), fun nm => by
        rw [hn nm, names_succ hr']
        cases r with
        | piece _ => exact hnp.elim
        | _ => simp⟩
      have w0 : ∀ {H4 : Hp} {b : Str}, Ex H3 H4 → EvT (tTest (tOp rEq (tOp (rIxT K) (tVar 6) (tC (.int 0))) (tC (.str b)))) [some (.str (progT rs)), some (.ref p), none, some (.ref S), some (.bl (openAt false (rs.take k))), some (.int (k : Nat)), some x] H4 (decide (wordR r = b)) := fun {H4 b} e4 => t_test (K := K) (d_eqS (d_ix (ta := tVar 6) (d_var (hxd.ex (e3.trans e4)) rfl) (d_int (n := 0)) (atI_nat' (j := 0) rfl)) d_str)
      refine s_ifG (et_is (w0 (Ex.refl H3)) isPiece_word) (fun hb H4 e4 => ?_) fun hb H4 e4 => ?_
      · cases r with
        | piece nm =>
          have e34 := e3.trans e4
          refine q_setDV (K := K) (S := S) (kvs := kvs) (nm := nm) (v := .bl true) ev_c (ev_var rfl) (d_ix (d_var (hxd.ex e34) rfl) (d_int (n := 1)) (atI_nat' (j := 1) rfl)) (e34 _ _ hSS) (by omega) fun H5 e5 hS5 => ?_
          refine s_asg (v := .bl true) ev_c fun H6 e6 => ?_
          have tk5 : TK H5 (upd H5 S (.dK (putK kvs (.inr nm) (.bl true)))) := TK.upd hS5 trivial
          have e45 := e34.trans e5
          refine ⟨_, _, putK kvs (.inr nm) (.bl true), by rw [openAt_succ hr']; rfl, e6 _ _ upd_same, by have := length_putK kvs (Sum.inr nm : Key) (.bl true); omega, (Ex.mut (ex.trans e45) hS).trans e6, (tk.trans (TK.ex e45)).trans (tk5.trans (TK.ex e6)), fun nm' => ?_⟩
          rw [valV_put, names_succ hr']
          by_cases hnn : (Sum.inr nm' : Key) = Sum.inr nm
          · rw [if_pos hnn, Sum.inr.inj hnn]; simp
          · rw [if_neg hnn, hn nm']
            have : nm' ≠ nm := fun e => hnn (by rw [e])
            simp [this]
        | _ => cases hb
      · refine s_when (et_is (w0 e4) isFin_word) (fun hb2 H5 e5 => ?_) fun hb2 H5 e5 => ?_
        · refine s_asg (v := .bl false) ev_c fun H6 e6 => ?_
          refine fin false H6 ((e4.trans e5).trans e6) ?_ ?_
          · cases r with
            | fin => rfl
            | _ => cases hb2
          · cases r with
            | piece _ => cases hb
            | _ => trivial
        · refine fin _ H5 (e4.trans e5) ?_ ?_
          · cases r with
            | piece _ => cases hb
            | fin => cases hb2
            | _ => rfl
          · cases r with
            | piece _ => cases hb
            | _ => trivial
  · rintro σ' H' ⟨o5, o6, kvs, rfl, hSS, hl, ex, tk, hn⟩
    rw [List.length_map, List.take_length] at *
    have ho := nest_open W.nest
    rw [ho]
    refine q_when (b := false) (et_B (ev_var rfl)) (fun hb => absurd hb (by decide)) fun _ H3 e3 => ?_
    have eH3 := ex.trans e3
    refine q_forL (K := K) (ds := rs.map rowD) (a := p) (xs := xs) (j := 6) (ev_var rfl) (eH3 _ _ hx) (hd.ex eH3) (fun k σ' H' => ∃ o6, σ' = [some (.str (progT rs)), some (.ref p), none, some (.ref S), some (.bl false), o5, o6] ∧ Ex H3 H') (fun k σ' H' ⟨_, _, e⟩ => ⟨(eH3.trans e) _ _ hx, hd.ex (eH3.trans e)⟩) (fun H4 e4 => ⟨o6, rfl, e4⟩) ?_ ?_
    · rintro k d x σ' H4 hkd hxd ⟨o6', rfl, e4⟩
      rw [List.getElem?_map] at hkd
      cases hr' : rs[k]? with
      | none => rw [hr'] at hkd; cases hkd
      | some r =>
        rw [hr'] at hkd
        cases hkd
        have t1 : EvT (tTest (tOp rEq (tOp (rIxT K) (tVar 6) (tC (.int 0))) (tC (.str "call")))) [some (.str (progT rs)), some (.ref p), none, some (.ref S), some (.bl false), o5, some x] H4 (isCall r) := et_is (t_test (K := K) (d_eqS (d_ix (ta := tVar 6) (d_var hxd rfl) (d_int (n := 0)) (atI_nat' (j := 0) rfl)) d_str)) word_call
        refine s_when (b := isCall r && false) (et_and t1 fun hc => ?_) (fun hb => absurd hb (by simp)) fun _ H5 e5 => ⟨_, rfl, e4.trans e5⟩
        cases r with
        | call nm n =>
          have hin := (W.calls nm n (List.mem_of_getElem? hr')).1
          have hm : nm ∈ namesR rs := List.mem_filterMap.mpr ⟨_, hin, rfl⟩
          have n1 := ev_notIn (K := K) (σ := [some (.str (progT rs)), some (.ref p), none, some (.ref S), some (.bl false), o5, some x]) (H := H4) (ta := tOp (rIxT K) (tVar 6) (tC (.int 1))) (tb := tVar 3) (nm := nm) (d_ix (d_var hxd rfl) (d_int (n := 1)) (atI_nat' (j := 1) rfl)) (ev_var rfl) ((e3.trans e4) _ _ hSS)
          rw [hn nm, decide_eq_true hm] at n1
          exact et_test n1
        | _ => cases hc
    · rintro σ' H4 ⟨o6', rfl, e4⟩
      have e14 := eH3.trans e4
      refine s_retD (d_tupK (K := K) (ev_var rfl) (e14 _ _ hx) (hd.ex e14)) fun v5 H5 e5 x5 => ?_
      exact hk v5 H5 ((e1.trans e14).trans e5) x5
end
end Kx

set_option Elab.async false
set_option linter.all false
set_option maxRecDepth 100000
set_option maxHeartbeats 4000000
namespace Kx
open PySem PySem.Spec PyProof.Rows L2 Evl HT TL
theorem progT_count {rs : List Row} (h : ∀ r ∈ rs, OkRow r) (hz : rs.length ≤ 60) : Txt.count (progT rs) "\n" ≤ 60 := by
  by_cases hne : rs = []
  · subst hne; decide +kernel
  · have sp := progT_split h hne
    have pos := progT_pos hne
    have e1 : ("\n" : Str).length = 1 := by decide +kernel
    have c1 : (decide ((progT rs).length < ("\n" : Str).length) || decide (Builtin.Str.strKind (progT rs) < Builtin.Str.strKind "\n")) = false := by
      rw [decide_eq_false (by omega), decide_eq_false (kind_ok (by decide +kernel))]; rfl
    unfold Txt.split at sp
    rw [c1, if_neg (by decide)] at sp
    unfold Txt.count
    cases ho : (Builtin.Str.occurrences (progT rs) "\n" 0 (progT rs).length ((progT rs).length + 1)).isEmpty with
    | true =>
      have := List.isEmpty_iff.mp ho
      rw [this]; decide
    | false =>
      rw [ho, if_neg (by decide)] at sp
      have l := congrArg List.length sp
      rw [PySem.length_partsBetween, List.length_map] at l
      omega
section
variable {w : World} {K : PySem.W.Frag} {mg : Str → Option Value} {base : Heap}
theorem d_isStr {σ : L2.St} {H : Hp} {ta : TE} {z : Str} (ha : EvD K ta σ H (.str z)) : EvD K (tCB RZ.rIsTy (tCons ta (tCons (tC (.ty "str")) tNil))) σ H (.bool true) := fun H1 e Q q =>
  (ea_cons ha.str (ea_cons ev_c ea_nil)) H1 e _ fun H2 e2 => ⟨.str z, "str", rfl, .str z, q _ H2 e2 (.bl true)⟩
theorem d_countS {σ : L2.St} {H : Hp} {a b : Str} {ta tb : TE} (ha : EvD K ta σ H (.str a)) (hb : EvD K tb σ H (.str b)) : EvD K (tM1 (fun x xs H Q => ∃ a b, x = .str a ∧ xs = [.str b] ∧ Q (.int (Txt.count a b)) H) ta tb) σ H (.int (Txt.count a b)) := fun H1 e Q q =>
  ha.str H1 e _ fun H2 e2 => ⟨⟨a, rfl⟩, hb.str H2 (e.trans e2) _ fun H3 e3 => ⟨a, b, rfl, rfl, q _ H3 (e2.trans e3) (.int _)⟩⟩
theorem sc_read_program : FnScope ["text"] ["text"] (defScope Kd.s_read_program) := ⟨rfl, rfl, rfl, by decide +kernel, rfl, by decide +kernel, by decide +kernel⟩
theorem ok_read_program (T : Tx w K mg) : Ok Pg w K mg base CX0 6 (He.ga K "read_program") ["text"] (spP K fRowsOf) := by
  refine ok_of T.f_read_program sc_read_program (fun vs H Q E h => by obtain ⟨_, _, a, ⟨_, rfl, _⟩, _⟩ := h; exact a.len) (fun _ _ _ _ _ _ us hl => match us, hl with | [_], _ => rfl) fun cdv A outer s0 H vs Q E hr h => ?_
  refine ⟨_, PSs.nox (pss_cons (ps_if (pt_not (pt_val (pe_callB RZ.call_isTy (by rfl) T.b_isinstance PyProof.Rows.boot_isinstance (pa_cons (pv 0) (pa_cons (pe_bltn (v := .ty "str") (by rfl) T.b_str PyProof.Rows.boot_str rfl) pa_nil))))) pss_dead pss_nil)
    (pss_cons (ps_if (pt_cmpR op_ge (pe_m1 PySem.F.slot_str_count PySem.F.type_str_count mt_count (pv 0) pe_str) (pgi T.n_MOST_ROWS) (nomark _)) pss_dead pss_nil)
    (pss_one (ps_ret (pe_fn (E := E) (ok_rows_of T) (hr.mono (by decide)) T.g_rows_of pass0 (pa_cons (pv 0) pa_nil)))))), ?_⟩
  obtain ⟨ds, d, hds, ⟨rs, rfl, hok, W, hz, rfl⟩, hk⟩ := h
  obtain ⟨tv, rfl⟩ : ∃ v0, vs = [v0] := by
    match vs, hds.len with
    | [v0], _ => exact ⟨v0, rfl⟩
  have hT : Dt K H tv (.str (progT rs)) := by cases hds with | cons a _ => exact a
  rw [hT.str_eq]
  refine q_when (b := !true) (et_not (t_B (K := K) (d_isStr (d_vstr rfl)))) (fun hb => absurd hb (by decide)) fun _ H1 e1 => ?_
  have hc := progT_count hok hz
  refine q_when (b := decide (Txt.count (progT rs) "\n" ≥ 80)) (t_test (K := K) (d_ib (f := fun i j => decide (i ≥ j)) (d_countS (d_vstr rfl) d_str) d_int)) (fun hb => absurd (show Txt.count (progT rs) "\n" ≥ 80 from of_decide_eq_true hb) (by omega)) fun _ H2 e2 => ?_
  refine s_retD (d_call (ds_cons (d_vstr rfl) ds_nil) ⟨rs, rfl, hok, W, hz, rfl⟩) fun v3 H3 e3 x3 => hk v3 H3 ((e1.trans e2).trans e3) x3
end
end Kx

set_option Elab.async false
set_option linter.all false
set_option maxRecDepth 100000
set_option maxHeartbeats 4000000
namespace Kx
open PySem PySem.Spec PyProof.Rows L2 Evl HT TL
section
variable {w : World} {K : PySem.W.Frag} {mg : Str → Option Value} {base : Heap}
/-- an error's object -/
def ExcE (K : PySem.W.Frag) (H : Hp) (E : XK) (b : Bad) : Prop := ∀ dd H', H dd = none → Ex H H' → H' dd = some (.xd [(fldB b, .int (numB b))]) → E (.ref (He.ga K (clsB b))) (some dd) H'
def spRoad (K : PySem.W.Frag) : Sp := fun vs H Q E => ∃ rs m o, vs = [.str (progT rs)] ∧ (∀ r ∈ rs, OkRow r) ∧ WfR rs ∧ rs.length ≤ 60 ∧ Pre rs m ms0 o ∧ (∀ ds x H', o = .ok ds → RoadAt K H' x ds → Ex H H' → Q (.ref x) H') ∧ ∀ b, o = .error b → ExcE K H E b
theorem s_call1 {sp : Sp} {E : XK} {te : TE} {D : Ends} {σ : L2.St} {H : Hp} (h : te σ H fun v H1 => sp [v] H1 D.rt E) : tRet (tCall sp [] E (tCons te tNil)) D σ H := h
theorem sc_road_of : FnScope ["text"] ["text"] (defScope Kd.s_road_of) := ⟨rfl, rfl, rfl, by decide +kernel, rfl, by decide +kernel, by decide +kernel⟩
theorem ok_road_of (T : Tx w K mg) : Ok Pg w K mg base (L2.CX Pg w) 47 (He.ga K "road_of") ["text"] (spRoad K) := by
  refine ok_of T.f_road_of sc_road_of (fun vs H Q E h => by obtain ⟨_, _, _, rfl, _⟩ := h; rfl) (fun _ _ _ _ _ _ us hl => match us, hl with | [_], _ => rfl) fun cdv A outer s0 H vs Q E hr h => ?_
  obtain ⟨rs, m, o, rfl, hok, W, hz, hP, hk, he⟩ := h
  refine ⟨_, pss_one (ps_ret (pe_fn (E := E) (ok_road_by T) (hr.mono (by decide)) T.g_road_by (passes_call (takes_of rfl rfl rfl rfl) fun _ _ _ _ h => h) (pa_cons (pe_mk1 (E := fun _ _ _ => False) T.k_Runner (ok_init T) (hr.mono (by decide)) T.g_Runner pass0 (pa_cons (pe_fn (E := fun _ _ _ => False) (ok_read_program T) (hr.mono (by decide)) T.g_read_program pass0 (pa_cons (pv 0) pa_nil)) pa_nil)) pa_nil))), ?_⟩
  have rd : EvDs K (tCons (tCall (spP K fRowsOf) [] (fun _ _ _ => False) (tCons (tVar 0) tNil)) tNil) (start ["text"] [.str (progT rs)]) H [rowsD rs] := ds_cons (d_call (ds_cons (d_vstr rfl) ds_nil) ⟨rs, rfl, hok, W, hz, rfl⟩) ds_nil
  refine s_call1 ?_
  unfold tMake
  refine rd H (Ex.refl H) _ ?_
  intro vs H1 e1 hvs x dx hx hdx hn
  obtain ⟨rv, rfl⟩ : ∃ v0, vs = [v0] := by
    match vs, hvs.len with
    | [v0], _ => exact ⟨v0, rfl⟩
  have hv : Dt K H1 rv (rowsD rs) := by cases hvs with | cons a _ => exact a
  have e2 : Ex H1 (upd (upd H1 dx (.own x)) x (.ins (CR K) dx [])) := fun b o hb => by
    rw [upd_ne (ne_of_none hb hx), upd_ne (ne_of_none hb hdx)]; exact hb
  refine ⟨x, dx, rv, rs, rfl, upd_same, hv.ex e2, W, by omega, fun tr fr md H2 hR k2 h1 h2 h3 => ⟨rfl, ?_⟩⟩
  have e12 := e1.trans e2
  have hxH : H x = none := fresh_back e1 hx
  have eH : Ex H H2 := fun b o hb => k2 b o (by simp; exact ne_of_none hb hxH) (e12 _ _ hb)
  have eK : ∀ H3, Kp [x, tr, fr, md] H2 H3 → Ex H H3 := fun H3 k3 b o hb => k3 b o (by
    have hb2 := e12 _ _ hb
    simp only [List.mem_cons, List.not_mem_nil, or_false, not_or]
    exact ⟨ne_of_none hb hxH, ne_of_none hb2 h1, ne_of_none hb2 h2, ne_of_none hb2 h3⟩) (eH _ _ hb)
  refine ⟨x, tr, fr, md, rs, ms0, m, o, rfl, hR, W, hP, fun ds y H3 ho hy k3 => hk ds y H3 ho hy (eK H3 k3), fun b hb dd H3 g1 g2 g3 => he b hb dd H3 (fresh_back eH g1) (eK H3 g2) g3⟩
end
end Kx

set_option Elab.async false
set_option linter.all false
set_option maxRecDepth 100000
set_option maxHeartbeats 4000000
namespace Kx
open PySem PySem.Spec PyProof.Rows L2 Evl HT
/-! ### how numbers grow: a number as a part of D -/
def Low (u : Nu) : Prop := 0 < u.2 ∧ Int.gcd u.1 u.2 = 1
def Rep (D : Int) (u : Nu) (a : Int) : Prop := Low u ∧ u.1 * D = a * u.2
theorem rat_fac (t : Int) {b : Int} (hb : 0 < b) : ∃ g : Int, 0 < g ∧ t = g * (rat t b).1 ∧ b = g * (rat t b).2 := by
  refine ⟨gcdI t b, gcdI_pos hb, ?_, ?_⟩
  · exact (Int.mul_ediv_cancel' (Int.gcd_dvd_left ..)).symm
  · exact (Int.mul_ediv_cancel' (Int.gcd_dvd_right ..)).symm
theorem pos_of_mul {a b : Int} (ha : 0 < a) (h : 0 < a * b) : 0 < b := by
  refine Int.lt_of_not_ge fun hb => ?_
  have := Int.mul_le_mul_of_nonneg_left hb (Int.le_of_lt ha)
  rw [Int.mul_zero] at this
  omega
theorem dvd_of_cop {a b c : Int} (h : a ∣ b * c) (g : Int.gcd a b = 1) : a ∣ c := by
  have h' := Int.natAbs_dvd_natAbs.mpr h
  rw [Int.natAbs_mul] at h'
  exact Int.natAbs_dvd_natAbs.mp (Nat.Coprime.dvd_of_dvd_mul_left g h')
theorem low_rat (t : Int) {b : Int} (hb : 0 < b) : Low (rat t b) := by
  have h : 0 < Int.gcd t b := Nat.pos_of_ne_zero fun e => by have := Int.gcd_eq_zero_iff.mp e; omega
  refine ⟨?_, Int.gcd_ediv_gcd_ediv_gcd h⟩
  obtain ⟨g, hg, _, h2⟩ := rat_fac t hb
  rw [h2] at hb
  exact pos_of_mul hg hb
theorem rep_rat {t b D a : Int} (hb : 0 < b) (h : t * D = a * b) : Rep D (rat t b) a := by
  refine ⟨low_rat t hb, ?_⟩
  obtain ⟨g, hg, h1, h2⟩ := rat_fac t hb
  refine Int.eq_of_mul_eq_mul_left (Int.ne_of_gt hg) ?_
  rw [← Int.mul_assoc, ← h1, h]
  conv => lhs; rw [h2]
  rw [← Int.mul_assoc, Int.mul_comm a g, Int.mul_assoc]
theorem Rep.add {D a b : Int} {u v : Nu} (h : Rep D u a) (g : Rep D v b) : Rep D (addN u v) (a + b) := by
  refine rep_rat (Int.mul_pos h.1.1 g.1.1) ?_
  have h2 := h.2
  have g2 := g.2
  grind
theorem Rep.mul {D E a b : Int} {u v : Nu} (h : Rep D u a) (g : Rep E v b) : Rep (D * E) (mulN u v) (a * b) := by
  refine rep_rat (Int.mul_pos h.1.1 g.1.1) ?_
  have h2 := h.2
  have g2 := g.2
  grind
theorem Rep.opp {D a : Int} {u : Nu} (h : Rep D u a) : Rep D (oppN u) (-a) := by
  refine ⟨⟨h.1.1, ?_⟩, ?_⟩
  · show Int.gcd (0 - u.1) u.2 = 1
    rw [Int.zero_sub, Int.neg_gcd]; exact h.1.2
  · show (0 - u.1) * D = -a * u.2
    have h2 := h.2
    grind
theorem Rep.sub {D a b : Int} {u v : Nu} (h : Rep D u a) (g : Rep D v b) : Rep D (subN u v) (a - b) := by
  have := h.add g.opp
  rw [show a + -b = a - b by omega] at this
  exact this
theorem Rep.scale {D a : Int} {u : Nu} (h : Rep D u a) (E : Int) : Rep (D * E) u (a * E) := by
  refine ⟨h.1, ?_⟩
  have h2 := h.2
  grind
theorem rep_int (n : Int) (D : Int) : Rep D (n, 1) (n * D) := ⟨⟨by show (0 : Int) < 1; decide, by simp⟩, by simp⟩
/-- what it bounds -/
theorem Rep.le {D a : Int} {u : Nu} (h : Rep D u a) (hD : 0 < D) : u.2 ≤ D ∧ u.1.natAbs ≤ a.natAbs := by
  have dv : u.2 ∣ u.1 * D := ⟨a, by rw [h.2, Int.mul_comm]⟩
  have c : Int.gcd u.2 u.1 = 1 := by rw [Int.gcd_comm]; exact h.1.2
  obtain ⟨k, hk⟩ := dvd_of_cop dv c
  have hp := h.1.1
  have hkp : 0 < k := by
    rw [hk] at hD
    exact pos_of_mul hp hD
  refine ⟨?_, ?_⟩
  · rw [hk]
    have := Int.mul_le_mul_of_nonneg_left (show (1 : Int) ≤ k by omega) (Int.le_of_lt hp)
    omega
  · have h2 := h.2
    rw [hk] at h2
    have e : a = u.1 * k := by
      refine Int.eq_of_mul_eq_mul_right (Int.ne_of_gt hp) ?_
      rw [← h2]; grind
    rw [e, Int.natAbs_mul]
    exact Nat.le_mul_of_pos_right _ (by omega)
/-- a place in parts of D, within X -/
def InM (D X : Nat) (p : Pl) : Prop := 0 < D ∧ ∃ a b : Int, Rep D p.1 a ∧ Rep D p.2 b ∧ a.natAbs ≤ X * D ∧ b.natAbs ≤ X * D
theorem InM.mono {D X Y : Nat} {p : Pl} (h : InM D X p) (l : X ≤ Y) : InM D Y p := by
  obtain ⟨hD, a, b, h1, h2, h3, h4⟩ := h
  exact ⟨hD, a, b, h1, h2, Nat.le_trans h3 (Nat.mul_le_mul_right _ l), Nat.le_trans h4 (Nat.mul_le_mul_right _ l)⟩
theorem InM.scale {D X : Nat} {p : Pl} (h : InM D X p) {E : Nat} (hE : 0 < E) : InM (D * E) X p := by
  obtain ⟨hD, a, b, h1, h2, h3, h4⟩ := h
  refine ⟨Nat.mul_pos hD hE, a * E, b * E, by have := h1.scale E; simpa using this, by have := h2.scale E; simpa using this, ?_, ?_⟩
  · rw [Int.natAbs_mul, Int.natAbs_natCast, ← Nat.mul_assoc]; exact Nat.mul_le_mul_right _ h3
  · rw [Int.natAbs_mul, Int.natAbs_natCast, ← Nat.mul_assoc]; exact Nat.mul_le_mul_right _ h4
theorem InM.add {D X Y : Nat} {p q : Pl} (h : InM D X p) (g : InM D Y q) : InM D (X + Y) (addP p q) := by
  obtain ⟨hD, a, b, h1, h2, h3, h4⟩ := h
  obtain ⟨_, c, d, g1, g2, g3, g4⟩ := g
  refine ⟨hD, a + c, b + d, h1.add g1, h2.add g2, ?_, ?_⟩
  · rw [Nat.add_mul]; omega
  · rw [Nat.add_mul]; omega
theorem InM.sub {D X Y : Nat} {p q : Pl} (h : InM D X p) (g : InM D Y q) : InM D (X + Y) (subP p q) := by
  obtain ⟨hD, a, b, h1, h2, h3, h4⟩ := h
  obtain ⟨_, c, d, g1, g2, g3, g4⟩ := g
  refine ⟨hD, a - c, b - d, h1.sub g1, h2.sub g2, ?_, ?_⟩
  · rw [Nat.add_mul]; omega
  · rw [Nat.add_mul]; omega
theorem rep_head {u v : Int} (hn : ¬ (u = 0 ∧ v = 0)) : Rep (u * u + v * v) (headP u v).1 (v * v - u * u) ∧ Rep (u * u + v * v) (headP u v).2 (2 * u * v) := ⟨rep_rat (sqs_pos hn) rfl, rep_rat (sqs_pos hn) rfl⟩
theorem head_le (u v : Int) : (v * v - u * u).natAbs ≤ (u * u + v * v).toNat ∧ (2 * u * v).natAbs ≤ (u * u + v * v).toNat := by
  have h1 := sq_nn u
  have h2 := sq_nn v
  have h3 : 0 ≤ (u + v) * (u + v) := sq_nn _
  have h4 : 0 ≤ (u - v) * (u - v) := sq_nn _
  have e3 : (u + v) * (u + v) = u * u + v * v + 2 * u * v := by grind
  have e4 : (u - v) * (u - v) = u * u + v * v - 2 * u * v := by grind
  generalize u * u = a at *
  generalize v * v = b at *
  generalize 2 * u * v = c at *
  constructor <;> omega
theorem InM.trn {D X : Nat} {p : Pl} (h : InM D X p) {u v : Int} (hn : ¬ (u = 0 ∧ v = 0)) : InM (D * (u * u + v * v).toNat) (2 * X) (trnP p (headP u v)) := by
  obtain ⟨hD, a, b, h1, h2, h3, h4⟩ := h
  obtain ⟨g1, g2⟩ := rep_head hn
  obtain ⟨l1, l2⟩ := head_le u v
  have pos := sqs_pos hn
  have eN : ((u * u + v * v).toNat : Int) = u * u + v * v := Int.toNat_of_nonneg (Int.le_of_lt pos)
  have eD : ((D * (u * u + v * v).toNat : Nat) : Int) = (D : Int) * (u * u + v * v) := by rw [Int.natCast_mul, eN]
  have m : ∀ {x y : Int}, x.natAbs ≤ X * D → y.natAbs ≤ (u * u + v * v).toNat → (x * y).natAbs ≤ X * (D * (u * u + v * v).toNat) := fun {x y} hx hy => by
    rw [Int.natAbs_mul, ← Nat.mul_assoc]; exact Nat.mul_le_mul hx hy
  refine ⟨Nat.mul_pos hD (by omega), _, _, by rw [eD]; exact (h1.mul g1).sub (h2.mul g2), by rw [eD]; exact (h1.mul g2).add (h2.mul g1), ?_, ?_⟩
  · have m1 := m h3 l1
    have m2 := m h4 l2
    rw [Nat.mul_assoc]
    omega
  · have m1 := m h3 l2
    have m2 := m h4 l1
    rw [Nat.mul_assoc]
    omega
def GenF : Fr → Prop
  | .shift a b => (a.2 = 1 ∧ a.1.natAbs ≤ 9) ∧ (b.2 = 1 ∧ b.1.natAbs ≤ 9)
  | .turn p q => ¬ (p = 0 ∧ q = 0) ∧ p.natAbs ≤ 2 ∧ q.natAbs ≤ 2
  | .flip => True
theorem inm_int {D : Nat} (hD : 0 < D) {a b : Nu} (h : (a.2 = 1 ∧ a.1.natAbs ≤ 9) ∧ (b.2 = 1 ∧ b.1.natAbs ≤ 9)) : InM D 9 (a, b) := by
  obtain ⟨⟨h1, h2⟩, h3, h4⟩ := h
  obtain ⟨a1, a2⟩ := a
  obtain ⟨b1, b2⟩ := b
  dsimp only at h1 h2 h3 h4
  subst h1 h3
  refine ⟨hD, a1 * D, b1 * D, rep_int a1 D, rep_int b1 D, ?_, ?_⟩
  · rw [Int.natAbs_mul, Int.natAbs_natCast]; exact Nat.mul_le_mul_right _ h2
  · rw [Int.natAbs_mul, Int.natAbs_natCast]; exact Nat.mul_le_mul_right _ h4
theorem InM.flip {D X : Nat} {p : Pl} (h : InM D X p) : InM D X (p.1, oppN p.2) := by
  obtain ⟨hD, a, b, h1, h2, h3, h4⟩ := h
  exact ⟨hD, a, -b, h1, h2.opp, h3, by rw [Int.natAbs_neg]; exact h4⟩
theorem sq_le8 {p q : Int} (hn : ¬ (p = 0 ∧ q = 0)) (hp : p.natAbs ≤ 2) (hq : q.natAbs ≤ 2) : 0 < (p * p + q * q).toNat ∧ (p * p + q * q).toNat ≤ 8 := by
  have sq : ∀ {x : Int}, x.natAbs ≤ 2 → x * x ≤ 4 := fun {x} hx => by
    have : (x * x).natAbs ≤ 2 * 2 := by rw [Int.natAbs_mul]; exact Nat.mul_le_mul hx hx
    omega
  have a := sq hp
  have b := sq hq
  have c := sqs_pos hn
  omega
theorem frame_inm {f : Fr} (hf : GenF f) {D X : Nat} {p : Pl} (h : InM D X p) : (∃ E, (0 < E ∧ E ≤ 8) ∧ InM (D * E) (2 * X + 9) (byF f p)) ∧ (∃ E, (0 < E ∧ E ≤ 8) ∧ InM (D * E) (2 * X + 9) (dirF f p)) ∧ ∃ E, (0 < E ∧ E ≤ 8) ∧ InM (D * E) (2 * X + 9) (backF f p) := by
  have one : ∀ {Y : Nat} {q : Pl}, InM D Y q → Y ≤ 2 * X + 9 → ∃ E, (0 < E ∧ E ≤ 8) ∧ InM (D * E) (2 * X + 9) q := fun hq l => ⟨1, by decide, by rw [Nat.mul_one]; exact hq.mono l⟩
  cases f with
  | shift a b => exact ⟨one (h.add (inm_int h.1 hf)) (by omega), one h (by omega), one (h.sub (inm_int h.1 hf)) (by omega)⟩
  | turn u v =>
    have s1 := sq_le8 hf.1 hf.2.1 hf.2.2
    have t1 : ∃ E, (0 < E ∧ E ≤ 8) ∧ InM (D * E) (2 * X + 9) (trnP p (headP u v)) := ⟨_, s1, (h.trn hf.1).mono (by omega)⟩
    have hn : ¬ (0 - u = 0 ∧ v = 0) := fun ⟨e1, e2⟩ => hf.1 ⟨by omega, e2⟩
    exact ⟨t1, t1, _, sq_le8 hn (by have := hf.2.1; omega) hf.2.2, (h.trn hn).mono (by omega)⟩
  | flip => exact ⟨one h.flip (by omega), one h.flip (by omega), one h.flip (by omega)⟩
/-- many frames -/
theorem foldr_inm {g : Fr → Pl → Pl} (hg : ∀ f, GenF f → ∀ D X p, InM D X p → ∃ E, (0 < E ∧ E ≤ 8) ∧ InM (D * E) (2 * X + 9) (g f p)) {D X : Nat} {p : Pl} (h : InM D X p) : ∀ fs : List Fr, (∀ f ∈ fs, GenF f) → ∃ E, (0 < E ∧ E ≤ 8 ^ fs.length) ∧ InM (D * E) (2 ^ fs.length * (X + 9) - 9) (fs.foldr g p)
  | [], _ => ⟨1, by decide, by rw [Nat.mul_one]; exact h.mono (by simp)⟩
  | f :: fs, hf => by
    obtain ⟨E, ⟨e1, e2⟩, h1⟩ := foldr_inm hg h fs fun x hx => hf x (List.mem_cons_of_mem _ hx)
    obtain ⟨E2, ⟨e3, e4⟩, h2⟩ := hg f (hf f (List.mem_cons_self ..)) _ _ _ h1
    refine ⟨E * E2, ⟨Nat.mul_pos e1 e3, by rw [List.length_cons, Nat.pow_succ]; exact Nat.mul_le_mul e2 e4⟩, ?_⟩
    rw [← Nat.mul_assoc]
    refine h2.mono ?_
    have : 1 ≤ 2 ^ fs.length := Nat.one_le_two_pow
    have : 9 ≤ 2 ^ fs.length * (X + 9) := Nat.le_trans (by omega) (Nat.mul_le_mul this (Nat.le_refl (X + 9)))
    rw [List.length_cons, Nat.pow_succ, Nat.mul_right_comm]
    omega
theorem foldl_inm {D X : Nat} {p : Pl} (h : InM D X p) (fs : List Fr) (hf : ∀ f ∈ fs, GenF f) : ∃ E, (0 < E ∧ E ≤ 8 ^ fs.length) ∧ InM (D * E) (2 ^ fs.length * (X + 9) - 9) (fromP fs p) := by
  have q := foldr_inm (g := backF) (fun f hf D X p h => (frame_inm hf h).2.2) h fs.reverse fun f hm => hf f (List.mem_reverse.mp hm)
  rw [List.length_reverse, List.foldr_reverse] at q
  exact q
end Kx

set_option Elab.async false
set_option linter.all false
set_option maxRecDepth 100000
set_option maxHeartbeats 4000000
namespace Kx
open PySem PySem.Spec PyProof.Rows L2 Evl HT
theorem InM.sm {D X n : Nat} {p : Pl} (h : InM D X p) (h1 : D < 2 ^ n) (h2 : X * D < 2 ^ n) : SmP n p := by
  obtain ⟨hD, a, b, r1, r2, h3, h4⟩ := h
  have hD' : (0 : Int) < D := by omega
  obtain ⟨a1, a2⟩ := r1.le hD'
  obtain ⟨b1, b2⟩ := r2.le hD'
  have p1 := r1.1.1
  have p2 := r2.1.1
  exact ⟨⟨by omega, p1, by omega⟩, by omega, p2, by omega⟩
def GenN (u : Nu) : Prop := Low u ∧ u.1.natAbs ≤ 9 ∧ (u.2 = 1 ∨ u.2 = 11)
theorem rep_gen {u : Nu} (h : GenN u) {D : Nat} (hD : 0 < D) : ∃ a, Rep ((D * 11 : Nat) : Int) u a ∧ a.natAbs ≤ 9 * (D * 11) := by
  obtain ⟨l, t, b⟩ := h
  rcases b with b | b
  · refine ⟨u.1 * ((D * 11 : Nat) : Int), ⟨l, by rw [b]; omega⟩, ?_⟩
    rw [Int.natAbs_mul, Int.natAbs_natCast]
    exact Nat.mul_le_mul_right _ t
  · refine ⟨u.1 * (D : Int), ⟨l, by rw [b, Int.mul_assoc]; congr 1⟩, ?_⟩
    rw [Int.natAbs_mul, Int.natAbs_natCast]
    exact Nat.mul_le_mul t (by omega)
def GenX (x : Option Nu) : Prop := ∀ u, x = some u → GenN u
theorem InM.put {D X : Nat} {p : Pl} (h : InM D X p) {x y : Option Nu} (hx : GenX x) (hy : GenX y) : InM (D * 11) (X + 9) (x.getD p.1, y.getD p.2) := by
  obtain ⟨hD, a, b, r1, r2, h3, h4⟩ := h
  have one : ∀ {z : Option Nu} {u : Nu} {c : Int}, GenX z → Rep D u c → c.natAbs ≤ X * D → ∃ a, Rep ((D * 11 : Nat) : Int) (z.getD u) a ∧ a.natAbs ≤ (X + 9) * (D * 11) := fun {z u c} hz r hc => by
    cases z with
    | none =>
      refine ⟨c * 11, by have := r.scale 11; simpa using this, ?_⟩
      rw [Int.natAbs_mul, ← Nat.mul_assoc]
      refine Nat.mul_le_mul_right 11 (Nat.le_trans hc (Nat.mul_le_mul_right _ (by omega)))
    | some v =>
      obtain ⟨a, r1, r2⟩ := rep_gen (hz v rfl) hD
      exact ⟨a, r1, Nat.le_trans r2 (Nat.mul_le_mul_right _ (by omega))⟩
  obtain ⟨a', q1, q2⟩ := one hx r1 h3
  obtain ⟨b', q3, q4⟩ := one hy r2 h4
  exact ⟨by omega, a', b', q1, q3, q2, q4⟩
theorem inm_zero {D : Nat} (hD : 0 < D) : InM D 0 ((0, 1), (0, 1)) := ⟨hD, 0, 0, by have := rep_int 0 D; simpa using this, by have := rep_int 0 D; simpa using this, by simp, by simp⟩
theorem byF_inm (f : Fr) (hf : GenF f) (D X : Nat) (p : Pl) (h : InM D X p) : ∃ E, (0 < E ∧ E ≤ 8) ∧ InM (D * E) (2 * X + 9) (byF f p) := (frame_inm hf h).1
theorem dirF_inm (f : Fr) (hf : GenF f) (D X : Nat) (p : Pl) (h : InM D X p) : ∃ E, (0 < E ∧ E ≤ 8) ∧ InM (D * E) (2 * X + 9) (dirF f p) := (frame_inm hf h).2.1
theorem gen_drop {fs : List Fr} (h : ∀ f ∈ fs, GenF f) (k : Nat) : ∀ f ∈ fs.drop k, GenF f := fun f hf => h f (List.mem_of_mem_drop hf)
theorem gen_take {fs : List Fr} (h : ∀ f ∈ fs, GenF f) (k : Nat) : ∀ f ∈ fs.take k, GenF f := fun f hf => h f (List.mem_of_mem_take hf)
theorem pow8 {n : Nat} (h : n ≤ 8) : 8 ^ n ≤ 2 ^ 24 ∧ 2 ^ n ≤ 256 := ⟨Nat.le_trans (Nat.pow_le_pow_right (by decide) h) (by decide), Nat.le_trans (Nat.pow_le_pow_right (by decide) h) (by decide)⟩
/-- one fold of at most eight frames, in short -/
theorem fold8 {g : Fr → Pl → Pl} (hg : ∀ f, GenF f → ∀ D X p, InM D X p → ∃ E, (0 < E ∧ E ≤ 8) ∧ InM (D * E) (2 * X + 9) (g f p)) {D X : Nat} {p : Pl} (h : InM D X p) {fs : List Fr} (hf : ∀ f ∈ fs, GenF f) (l : fs.length ≤ 8) : ∃ E, (0 < E ∧ E ≤ 2 ^ 24) ∧ InM (D * E) (256 * (X + 9)) (fs.foldr g p) := by
  obtain ⟨E, ⟨e1, e2⟩, h1⟩ := foldr_inm hg h fs hf
  obtain ⟨p1, p2⟩ := pow8 l
  exact ⟨E, ⟨e1, Nat.le_trans e2 p1⟩, h1.mono (Nat.le_trans (Nat.sub_le _ _) (Nat.mul_le_mul_right _ p2))⟩
theorem from8 {D X : Nat} {p : Pl} (h : InM D X p) {fs : List Fr} (hf : ∀ f ∈ fs, GenF f) (l : fs.length ≤ 8) : ∃ E, (0 < E ∧ E ≤ 2 ^ 24) ∧ InM (D * E) (256 * (X + 9)) (fromP fs p) := by
  obtain ⟨E, ⟨e1, e2⟩, h1⟩ := foldl_inm h fs hf
  obtain ⟨p1, p2⟩ := pow8 l
  exact ⟨E, ⟨e1, Nat.le_trans e2 p1⟩, h1.mono (Nat.le_trans (Nat.sub_le _ _) (Nat.mul_le_mul_right _ p2))⟩
end Kx

set_option Elab.async false
set_option linter.all false
set_option maxRecDepth 100000
set_option maxHeartbeats 4000000
namespace Kx
open PySem PySem.Spec PyProof.Rows L2 Evl HT
theorem mp2 {a b x y : Nat} (h : a ≤ 2 ^ x) (g : b ≤ 2 ^ y) : a * b ≤ 2 ^ (x + y) := by rw [Nat.pow_add]; exact Nat.mul_le_mul h g
theorem pw {a x y : Nat} (h : a ≤ 2 ^ x) (l : x ≤ y) : a ≤ 2 ^ y := Nat.le_trans h (Nat.pow_le_pow_right (by decide) l)
theorem up9 {X m : Nat} (h : X ≤ 2 ^ m) : X + 9 ≤ 2 ^ (m + 4) := by
  have : 1 ≤ 2 ^ m := Nat.one_le_two_pow
  rw [Nat.pow_add]
  have : (2 : Nat) ^ 4 = 16 := by decide
  rw [this]; omega
theorem up {X m : Nat} (h : X ≤ 2 ^ m) : 256 * (X + 9) ≤ 2 ^ (m + 12) := by
  have q := mp2 (show 256 ≤ 2 ^ 8 by decide) (up9 h)
  exact pw q (by omega)
theorem InM.sm2 {D X d m n : Nat} {p : Pl} (h : InM D X p) (hD : D ≤ 2 ^ d) (hX : X ≤ 2 ^ m) (l : d + m < n) : SmP n p := by
  have lt : ∀ {a : Nat}, a ≤ 2 ^ (m + d) → a < 2 ^ n := fun ha => Nat.lt_of_le_of_lt ha (Nat.pow_lt_pow_right (by decide) (by omega))
  exact h.sm (lt (pw hD (by omega))) (lt (mp2 hX hD))
/-- where a row leads -/
theorem spot_inm {s : Ms} {fs : List Fr} {x y : Option Nu} {D X m : Nat} (h : InM D X s.place) (hX : X ≤ 2 ^ m) (hf : ∀ f ∈ fs, GenF f) (l : fs.length ≤ 8) (gx : GenX x) (gy : GenX y) : ∃ E X', (0 < E ∧ E ≤ 2 ^ 52) ∧ X' ≤ 2 ^ (m + 28) ∧ InM (D * E) X' (spotM s fs x y) := by
  unfold spotM
  cases hb : s.by_ with
  | true =>
    rw [if_pos rfl]
    have b := (inm_zero h.1).put gx gy
    obtain ⟨E, ⟨e1, e2⟩, h1⟩ := fold8 dirF_inm b hf l
    have h2 := h.scale (E := 11 * E) (by omega)
    rw [Nat.mul_assoc] at h1
    refine ⟨11 * E, _, ⟨by omega, pw (mp2 (show 11 ≤ 2 ^ 4 by decide) e2) (by omega)⟩, ?_, h2.add h1⟩
    have : 1 ≤ 2 ^ m := Nat.one_le_two_pow
    rw [Nat.pow_add]
    have : (2 : Nat) ^ 28 = 268435456 := by decide
    rw [this]; omega
  | false =>
    rw [if_neg (by decide)]
    obtain ⟨E, ⟨e1, e2⟩, h1⟩ := from8 h hf l
    have b := h1.put gx gy
    obtain ⟨E2, ⟨e3, e4⟩, h2⟩ := fold8 byF_inm b hf l
    refine ⟨E * 11 * E2, _, ⟨Nat.mul_pos (by omega) e3, pw (mp2 (mp2 e2 (show 11 ≤ 2 ^ 4 by decide)) e4) (by omega)⟩, ?_, by rw [← Nat.mul_assoc, ← Nat.mul_assoc]; exact h2⟩
    exact pw (up (up9 (up hX))) (by omega)
theorem fit_xy {s : Ms} {fs : List Fr} {x y : Option Nu} {D X : Nat} (h : InM D X s.place) (hD : D ≤ 2 ^ 6000) (hX : X ≤ 2 ^ 6000) (hf : ∀ f ∈ fs, GenF f) (l : fs.length ≤ 8) (gx : GenX x) (gy : GenX y) : FitXY s fs x y := by
  have ld : ∀ k, (fs.drop k).length ≤ 8 := fun k => by rw [List.length_drop]; omega
  have lt : ∀ k, (fs.take k).length ≤ 8 := fun k => by rw [List.length_take]; omega
  refine ⟨fun _ k => ?_, fun _ => ⟨fun k => ?_, fun k => ?_⟩⟩
  · have b := (inm_zero (D := 1) (by decide)).put gx gy
    obtain ⟨E, ⟨e1, e2⟩, h1⟩ := fold8 dirF_inm b (gen_drop hf k) (ld k)
    exact h1.sm2 (mp2 (show 1 * 11 ≤ 2 ^ 4 by decide) e2) (show 256 * (0 + 9 + 9) ≤ 2 ^ 13 by decide) (by decide)
  · obtain ⟨E, ⟨e1, e2⟩, h1⟩ := from8 h (gen_take hf k) (lt k)
    exact h1.sm2 (mp2 hD e2) (up hX) (by decide)
  · obtain ⟨E, ⟨e1, e2⟩, h1⟩ := from8 h hf l
    have b := h1.put gx gy
    obtain ⟨E2, ⟨e3, e4⟩, h2⟩ := fold8 byF_inm b (gen_drop hf k) (ld k)
    exact h2.sm2 (mp2 (mp2 (mp2 hD e2) (show 11 ≤ 2 ^ 4 by decide)) e4) (up (up9 (up hX))) (by decide)
theorem InM.scl {D X : Nat} {p : Pl} (h : InM D X p) {u : Nu} (hu : u.2 = 1 ∧ u.1.natAbs ≤ 9) : InM D (9 * X) (sclP p u) := by
  obtain ⟨hD, a, b, r1, r2, h3, h4⟩ := h
  obtain ⟨n, e⟩ := u
  dsimp only at hu
  obtain ⟨rfl, hn⟩ := hu
  have r := rep_int n 1
  have le : ∀ {x : Int}, x.natAbs ≤ X * D → (x * (n * 1)).natAbs ≤ 9 * X * D := fun {x} hx => by
    rw [Int.mul_one, Int.natAbs_mul, Nat.mul_comm, Nat.mul_assoc]; exact Nat.mul_le_mul hn hx
  exact ⟨hD, _, _, by have := r1.mul r; rw [Int.mul_one] at this; exact this, by have := r2.mul r; rw [Int.mul_one] at this; exact this, le h3, le h4⟩
theorem head_inm {u v : Int} (hn : ¬ (u = 0 ∧ v = 0)) : InM (u * u + v * v).toNat 1 (headP u v) := by
  obtain ⟨g1, g2⟩ := rep_head hn
  obtain ⟨l1, l2⟩ := head_le u v
  have pos := sqs_pos hn
  have eN : ((u * u + v * v).toNat : Int) = u * u + v * v := Int.toNat_of_nonneg (Int.le_of_lt pos)
  exact ⟨by omega, _, _, by rw [eN]; exact g1, by rw [eN]; exact g2, by rw [Nat.one_mul]; exact l1, by rw [Nat.one_mul]; exact l2⟩
end Kx

set_option Elab.async false
set_option linter.all false
set_option maxRecDepth 100000
set_option maxHeartbeats 4000000
namespace Kx
open PySem PySem.Spec PyProof.Rows L2 Evl HT
def GenPQ (p q : Int) : Prop := ¬ (p = 0 ∧ q = 0) ∧ p.natAbs ≤ 2 ∧ q.natAbs ≤ 2
/-- the rows that the law draws -/
def GenRow : Row → Prop
  | .hop x y => GenX x ∧ GenX y
  | .cut x y => GenX x ∧ GenX y
  | .run p q l => GenPQ p q ∧ l.2 = 1 ∧ 1 ≤ l.1 ∧ l.1 ≤ 9
  | .arc _ x y p q => (GenX x ∧ GenX y) ∧ GenPQ p q
  | .pace g => 0 ≤ g ∧ g ≤ 9
  | .side u => GenN u
  | .frame f => GenF f
  | .piece n => NameOk n
  | .call n t => NameOk n ∧ 1 ≤ t ∧ t ≤ 3
  | _ => True
theorem gen_nu {u : Nu} (h : GenN u) : NuOk u := by
  obtain ⟨⟨l1, l2⟩, t, b⟩ := h
  refine ⟨by omega, ?_⟩
  rcases b with b | b
  · exact .inl b
  · exact .inr ⟨by omega, by unfold gcdI; rw [l2]; rfl⟩
theorem gen_opt {x : Option Nu} (h : GenX x) : OptOk x := fun u e => gen_nu (h u e)
theorem gen_pq {p q : Int} (h : GenPQ p q) : PQ p q := ⟨by have := h.2.1; omega, by have := h.2.2; omega, h.1⟩
theorem gen_ok {r : Row} (h : GenRow r) : OkRow r := by
  cases r with
  | hop x y => exact ⟨gen_opt h.1, gen_opt h.2⟩
  | cut x y => exact ⟨gen_opt h.1, gen_opt h.2⟩
  | run p q l =>
    obtain ⟨h1, h2, h3, h4⟩ := h
    exact ⟨gen_pq h1, ⟨by omega, .inl h2⟩, by omega⟩
  | arc lf x y p q => exact ⟨⟨gen_opt h.1.1, gen_opt h.1.2⟩, gen_pq h.2⟩
  | mode b => trivial
  | pace g => exact h
  | side u => exact gen_nu h
  | frame f =>
    cases f with
    | shift a b =>
      obtain ⟨⟨h1, h2⟩, h3, h4⟩ := h
      exact ⟨⟨by omega, .inl h1⟩, by omega, .inl h3⟩
    | turn p q => exact gen_pq h
    | flip => trivial
  | back => trivial
  | piece n => exact h
  | fin => trivial
  | call n t => exact ⟨h.1, h.2.1, by have := h.2.2; omega⟩
theorem genf_ok {f : Fr} (h : GenF f) : OkF f := by
  cases f with
  | shift a b =>
    obtain ⟨⟨h1, h2⟩, h3, h4⟩ := h
    exact ⟨⟨by omega, by omega, by omega⟩, by omega, by omega, by omega⟩
  | turn p q => exact ⟨h.1, by have := h.2.1; omega, by have := h.2.2; omega⟩
  | flip => trivial
theorem fit_pq {p q : Int} (h : GenPQ p q) : FitPQ p q := ⟨h.1, by have := h.2.1; omega, by have := h.2.2; omega⟩
theorem fit_row {s : Ms} {r : Row} {D X : Nat} (h : InM D X s.place) (hD : D ≤ 2 ^ 6000) (hX : X ≤ 2 ^ 6000) (hf : ∀ f ∈ allF s.stk, GenF f) (l : (allF s.stk).length ≤ 8) (g : GenRow r) : FitRow s r := by
  refine ⟨fun f hm => genf_ok (hf f hm), l, h.sm2 hD hX (by decide), ?_⟩
  cases r with
  | hop x y => exact fit_xy h hD hX hf l g.1 g.2
  | cut x y => exact fit_xy h hD hX hf l g.1 g.2
  | arc lf x y p q => exact ⟨fit_xy h hD hX hf l g.1.1 g.1.2, fit_pq g.2⟩
  | run p q u =>
    obtain ⟨h1, h2, h3, h4⟩ := g
    refine ⟨fit_pq h1, fun k => ?_, by omega, by omega, by omega⟩
    obtain ⟨E, ⟨e1, e2⟩, q1⟩ := fold8 dirF_inm (head_inm h1.1) (gen_drop hf k) (by rw [List.length_drop]; omega)
    exact q1.sm2 (mp2 (pw (x := 3) (sq_le8 h1.1 h1.2.1 h1.2.2).2 (y := 3) (by decide)) e2) (show 256 * (1 + 9) ≤ 2 ^ 12 by decide) (by decide)
  | _ => trivial
/-- a step's end -/
theorem step_inm {s : Ms} {fs : List Fr} {r : Row} {D X m : Nat} {d : PyData} {t : Pl} (h : InM D X s.place) (hX : X ≤ 2 ^ m) (hf : ∀ f ∈ fs, GenF f) (l : fs.length ≤ 8) (g : GenRow r) (hs : stepOf s fs r = some (d, t)) : ∃ E X', (0 < E ∧ E ≤ 2 ^ 56) ∧ X' ≤ 2 ^ (m + 32) ∧ InM (D * E) X' t := by
  have sp : ∀ {x y : Option Nu}, GenX x → GenX y → ∃ E X', (0 < E ∧ E ≤ 2 ^ 56) ∧ X' ≤ 2 ^ (m + 32) ∧ InM (D * E) X' (spotM s fs x y) := fun {x y} gx gy => by
    obtain ⟨E, X', ⟨e1, e2⟩, e3, q⟩ := spot_inm h hX hf l gx gy
    exact ⟨E, X', ⟨e1, pw e2 (by decide)⟩, pw e3 (by omega), q⟩
  cases r with
  | hop x y =>
    cases hs
    exact sp g.1 g.2
  | cut x y =>
    unfold stepOf at hs
    dsimp only at hs
    split at hs
    · cases hs
      exact sp g.1 g.2
    · cases hs
  | run p q u =>
    obtain ⟨h1, h2, h3, h4⟩ := g
    cases hs
    obtain ⟨E, ⟨e1, e2⟩, q1⟩ := fold8 dirF_inm (head_inm h1.1) hf l
    have s8 := sq_le8 h1.1 h1.2.1 h1.2.2
    have q2 := (q1.scl (u := u) ⟨h2, by omega⟩).scale (E := D) h.1
    rw [Nat.mul_comm] at q2
    have q3 := (h.scale (E := (p * p + q * q).toNat * E) (Nat.mul_pos s8.1 e1)).add q2
    refine ⟨_, _, ⟨Nat.mul_pos s8.1 e1, pw (mp2 (pw (x := 3) s8.2 (y := 3) (by decide)) e2) (by decide)⟩, ?_, q3⟩
    have : 1 ≤ 2 ^ m := Nat.one_le_two_pow
    rw [Nat.pow_add]
    have : (2 : Nat) ^ 32 = 4294967296 := by decide
    rw [this]; omega
  | arc lf x y p q =>
    unfold stepOf at hs
    dsimp only at hs
    split at hs
    · cases hs
      obtain ⟨E, X', ⟨e1, e2⟩, e3, q1⟩ := spot_inm h hX hf l g.1.1 g.1.2
      have hn : ∀ {w : Int}, w = 1 ∨ w = -1 → ¬ (w * p = 0 ∧ q = 0) ∧ (w * p).natAbs ≤ 2 := fun {w} hw => by
        have h1 := g.2.1
        have h2 := g.2.2.1
        rcases hw with rfl | rfl
        · refine ⟨fun ⟨a, b⟩ => h1 ⟨by omega, b⟩, by omega⟩
        · refine ⟨fun ⟨a, b⟩ => h1 ⟨by omega, b⟩, by omega⟩
      have hw : (if (lf != aboutF fs) = true then (1 : Int) else -1) = 1 ∨ (if (lf != aboutF fs) = true then (1 : Int) else -1) = -1 := by split <;> simp
      obtain ⟨n1, n2⟩ := hn hw
      have s8 := sq_le8 n1 n2 g.2.2.2
      have q2 := ((h.scale e1).sub q1).trn n1
      have q3 := (q1.scale s8.1).add q2
      refine ⟨E * _, _, ⟨Nat.mul_pos e1 s8.1, pw (mp2 e2 (pw (x := 3) s8.2 (y := 3) (by decide))) (by decide)⟩, ?_, by rw [← Nat.mul_assoc]; exact q3⟩
      have a1 : X ≤ 2 ^ (m + 28) := pw hX (by omega)
      have a2 : (2 : Nat) ^ (m + 32) = 2 ^ (m + 28) * 16 := by rw [show m + 32 = m + 28 + 4 by omega, Nat.pow_add]
      rw [a2]; omega
    · cases hs
  | _ => cases hs
end Kx

set_option Elab.async false
set_option linter.all false
set_option maxRecDepth 100000
set_option maxHeartbeats 4000000
namespace Kx
open PySem PySem.Spec PyProof.Rows L2 Evl HT
theorem allF_lv (l : Lv) (rest : List Lv) : allF (l :: rest) = allF rest ++ l.frs := by
  unfold allF
  rw [List.reverse_cons, List.map_append, List.flatten_append]
  simp
theorem pass_frs {rs : List Row} {a b : List Lv} (h : pass1 rs a = some b) : ∃ g, allF a = allF b ++ g := by
  cases a with
  | nil => cases h
  | cons l rest =>
    rw [pass1_cons] at h
    split at h
    · cases h
      exact ⟨[], by rw [allF_lv, allF_lv, List.append_nil]⟩
    · split at h
      · cases h
      · split at h
        · split at h
          · cases h
            exact ⟨l.frs, by simp only [allF_lv, List.append_nil]⟩
          · cases h
            exact ⟨l.frs, by simp only [allF_lv]⟩
        · cases h
    · cases h
theorem sett_frs {rs : List Row} {n : Nat} {a b : List Lv} (h : Sett rs n a b) : ∃ g, allF a = allF b ++ g := by
  induction h with
  | done h => exact ⟨[], by rw [List.append_nil]⟩
  | step h t ih =>
    obtain ⟨g1, e1⟩ := pass_frs h
    obtain ⟨g2, e2⟩ := ih
    exact ⟨g2 ++ g1, by rw [e1, e2, List.append_assoc]⟩
/-- what holds between rows -/
structure StI (rs : List Row) (s : Ms) : Prop where
  ch : ∃ l rest, s.stk = l :: rest ∧ Chain rs l rest ∧ l.turn = 0
  len : s.stk.length ≤ 9
  made : s.made.length ≤ 100
  fr : ∀ f ∈ allF s.stk, GenF f
  fl : (allF s.stk).length ≤ 8
  pl : ∃ D X, InM D X s.place ∧ D ≤ 2 ^ (56 * s.made.length) ∧ X ≤ 2 ^ (32 * s.made.length)
theorem StI.sett {rs : List Row} {s : Ms} (h : StI rs s) (W : WfR rs) : ∃ n st, Sett rs n s.stk st ∧ pass1 rs st = none ∧ StI rs { s with stk := st } := by
  obtain ⟨l, rest, e, c, t⟩ := h.ch
  obtain ⟨n, st, S⟩ := sett_total W rest l c t
  rw [← e] at S
  obtain ⟨l', rest', e', c', t', ln, hp⟩ := S.chain W e c t
  obtain ⟨g, hg⟩ := sett_frs S
  have fr := h.fr
  have fl := h.fl
  rw [hg] at fr fl
  exact ⟨n, st, S, hp, ⟨l', rest', e', c', t'⟩, Nat.le_trans ln h.len, h.made, fun f hf => fr f (List.mem_append.mpr (.inl hf)), by rw [List.length_append] at fl; show (allF st).length ≤ 8; omega, h.pl⟩
theorem deed_st {rs : List Row} {s s1 : Ms} {l : Lv} {rest : List Lv} {r : Row} (h : StI rs s) (e : s.stk = l :: rest) (g : GenRow r) (hm : ¬ (isStep r = true ∧ s.made.length = 100)) (hp : plain r = true) (hd : deedM rs s l rest r = .ok s1) :
    (∀ f ∈ allF s1.stk, GenF f) ∧ (allF s1.stk).length ≤ 8 ∧ s1.made.length ≤ 100 ∧ ∃ D X, InM D X s1.place ∧ D ≤ 2 ^ (56 * s1.made.length) ∧ X ≤ 2 ^ (32 * s1.made.length) := by
  have fr := h.fr
  have fl := h.fl
  have same : ∀ s2 : Ms, s2.stk = s.stk → s2.made = s.made → s2.place = s.place → (∀ f ∈ allF s2.stk, GenF f) ∧ (allF s2.stk).length ≤ 8 ∧ s2.made.length ≤ 100 ∧ ∃ D X, InM D X s2.place ∧ D ≤ 2 ^ (56 * s2.made.length) ∧ X ≤ 2 ^ (32 * s2.made.length) := fun s2 h1 h2 h3 => by
    rw [h1, h2, h3]
    exact ⟨fr, fl, h.made, h.pl⟩
  have st : isStep r = true → (match stepOf s (allF s.stk) r with
    | some (d, t) => Except.ok ({ s with place := t, made := s.made ++ [entD s d] } : Ms)
    | none => Except.error (Bad.uneven l.row)) = .ok s1 → (∀ f ∈ allF s1.stk, GenF f) ∧ (allF s1.stk).length ≤ 8 ∧ s1.made.length ≤ 100 ∧ ∃ D X, InM D X s1.place ∧ D ≤ 2 ^ (56 * s1.made.length) ∧ X ≤ 2 ^ (32 * s1.made.length) := fun hs h' => by
    split at h'
    · rename_i d t hst
      cases h'
      obtain ⟨D, X, q1, q2, q3⟩ := h.pl
      obtain ⟨E, X', ⟨e1, e2⟩, e3, q⟩ := step_inm q1 q3 fr fl g hst
      have hl : (s.made ++ [entD s d]).length = s.made.length + 1 := by simp
      refine ⟨fr, fl, ?_, D * E, X', q, ?_, ?_⟩
      · show (s.made ++ [entD s d]).length ≤ 100
        rw [hl]
        have := h.made
        have : ¬ s.made.length = 100 := fun z => hm ⟨hs, z⟩
        omega
      · show D * E ≤ 2 ^ (56 * (s.made ++ [entD s d]).length)
        rw [hl]
        exact pw (mp2 q2 e2) (by omega)
      · show X' ≤ 2 ^ (32 * (s.made ++ [entD s d]).length)
        rw [hl]
        exact pw e3 (by omega)
    · cases h'
  rw [e, allF_lv] at fr fl
  cases r with
  | mode b => cases hd; exact same _ rfl rfl rfl
  | pace b => cases hd; exact same _ rfl rfl rfl
  | side b => cases hd; exact same _ rfl rfl rfl
  | frame f =>
    simp only [deedM] at hd
    split at hd
    · cases hd
    · rename_i h8
      cases hd
      rw [e, allF_lv] at h8
      refine ⟨fun x hx => ?_, ?_, h.made, h.pl⟩
      · rw [allF_lv] at hx
        rcases List.mem_append.mp hx with hx | hx
        · exact fr x (List.mem_append.mpr (.inl hx))
        · rcases List.mem_append.mp hx with hx | hx
          · exact fr x (List.mem_append.mpr (.inr hx))
          · rw [List.mem_singleton] at hx; subst hx; exact g
      · rw [allF_lv]
        simp only [List.length_append, List.length_singleton] at h8 fl ⊢
        omega
  | back =>
    simp only [deedM] at hd
    split at hd
    · cases hd
    · cases hd
      refine ⟨fun x hx => ?_, ?_, h.made, h.pl⟩
      · rw [allF_lv] at hx
        rcases List.mem_append.mp hx with hx | hx
        · exact fr x (List.mem_append.mpr (.inl hx))
        · exact fr x (List.mem_append.mpr (.inr ((List.dropLast_sublist _).subset hx)))
      · rw [allF_lv]
        simp only [List.length_append, List.length_dropLast] at fl ⊢
        omega
  | call nm n =>
    simp only [deedM] at hd
    split at hd
    · cases hd
    · cases hd
      refine ⟨fun x hx => ?_, ?_, h.made, h.pl⟩
      · rw [allF_lv, allF_lv, List.append_nil] at hx; exact fr x hx
      · rw [allF_lv, allF_lv, List.append_nil]; exact fl
  | hop x y => exact st rfl hd
  | cut x y => exact st rfl hd
  | run x y z => exact st rfl hd
  | arc x y z p q => exact st rfl hd
  | piece x => cases hp
  | fin => cases hp
theorem on_pm (r : Row) (s : Ms) : (onM r s).place = s.place ∧ (onM r s).made = s.made ∧ (onM r s).many = s.many + 1 ∨ s.stk = [] := by
  unfold onM
  split
  · exact .inl ⟨rfl, rfl, rfl⟩
  · split
    · exact .inl ⟨rfl, rfl, rfl⟩
    · rename_i h; exact .inr h
theorem on_frs {r : Row} {s : Ms} (h : s.stk ≠ []) : allF (onM r s).stk = allF s.stk := by
  unfold onM
  split
  · rfl
  · split
    · rename_i e
      rw [e, allF_lv, allF_lv]
    · rfl
theorem run_total {rs : List Row} (W : WfR rs) (G : ∀ r ∈ rs, GenRow r) : ∀ (k : Nat) (s : Ms), s.many + k = 2000 → StI rs s → pass1 rs s.stk = none → ∃ m o, RunF rs m s o := by
  intro k
  induction k with
  | zero =>
    intro s hk h hp
    obtain ⟨l, rest, e, c, t⟩ := h.ch
    rw [e] at hp
    rcases settled W c hp with ⟨h1, h2⟩ | ⟨r, h1, h2, _⟩
    · subst h1
      exact ⟨0, _, .fin (by rw [e]; exact decide_eq_true h2) e h.made c t⟩
    · obtain ⟨D, X, q1, q2, q3⟩ := h.pl
      have hm := h.made
      have S : StepOk rs s l rest r := ⟨e, h1, h2, c, t, h.len, h.made, fit_row q1 (pw q2 (by omega)) (pw q3 (by omega)) h.fr h.fl (G r (List.mem_of_getElem? h1))⟩
      exact ⟨0, .error (.many 2000), .bad S (by unfold doRow; rw [if_pos (by omega)])⟩
  | succ k ih =>
    intro s hk h hp
    obtain ⟨l, rest, e, c, t⟩ := h.ch
    rw [e] at hp
    rcases settled W c hp with ⟨h1, h2⟩ | ⟨r, h1, h2, _⟩
    · subst h1
      exact ⟨0, _, .fin (by rw [e]; exact decide_eq_true h2) e h.made c t⟩
    · obtain ⟨D, X, q1, q2, q3⟩ := h.pl
      have hm := h.made
      have g := G r (List.mem_of_getElem? h1)
      have S : StepOk rs s l rest r := ⟨e, h1, h2, c, t, h.len, h.made, fit_row q1 (pw q2 (by omega)) (pw q3 (by omega)) h.fr h.fl g⟩
      cases hd : doRow rs s l rest r with
      | error b => exact ⟨0, .error b, .bad S hd⟩
      | ok s1 =>
        have hd' := hd
        unfold doRow at hd'
        rw [if_neg (by omega)] at hd'
        split at hd'
        · cases hd'
        · rename_i hstep
          cases hdd : deedM rs s l rest r with
          | error b => rw [hdd] at hd'; cases hd'
          | ok s2 =>
            rw [hdd] at hd'
            cases hd'
            obtain ⟨f1, f2, f3, f4⟩ := deed_st h e g hstep h2 hdd
            obtain ⟨l', rest', e', c', t', ln⟩ := do_chain W e c t h1 h2 hdd
            have dk := deed_stk e hdd
            have ne : s2.stk ≠ [] := by
              cases hc : isCall r with
              | false => obtain ⟨f, hf⟩ := dk.2.2.1 hc; rw [hf]; simp
              | true =>
                cases r with
                | call nm n => rw [(dk.2.2.2 nm n rfl).2]; simp
                | _ => cases hc
            obtain ⟨p1, p2, p3⟩ := (on_pm r s2).resolve_right ne
            have I1 : StI rs (onM r s2) := ⟨⟨l', rest', e', c', t'⟩, by have := h.len; omega, by rw [p2]; exact f3, by rw [on_frs ne]; exact f1, by rw [on_frs ne]; exact f2, by rw [p1, p2]; exact f4⟩
            obtain ⟨n, st, S2, hp2, I2⟩ := I1.sett W
            obtain ⟨m, o, R⟩ := ih { onM r s2 with stk := st } (by show (onM r s2).many + k = 2000; rw [p3, dk.1]; omega) I2 hp2
            exact ⟨m + 1, o, .go S hd S2 hp2 R⟩
theorem pre_total {rs : List Row} (W : WfR rs) (G : ∀ r ∈ rs, GenRow r) : ∃ m o, Pre rs m ms0 o := by
  have c0 : Chain rs ⟨0, 0, []⟩ [] := ⟨rfl, Nat.zero_le _⟩
  have I0 : StI rs ms0 := ⟨⟨⟨0, 0, []⟩, [], rfl, c0, rfl⟩, by decide, by decide, fun f hf => (by cases hf), by decide, 1, 0, inm_zero (by decide), by decide, by decide⟩
  obtain ⟨n, st, S, hp, I⟩ := I0.sett W
  obtain ⟨m, o, R⟩ := run_total W G 2000 { ms0 with stk := st } rfl I hp
  exact ⟨m, o, ⟨0, 0, []⟩, [], n, st, rfl, c0, rfl, by decide, S, R, hp⟩
end Kx

set_option Elab.async false
set_option linter.all false
set_option maxRecDepth 100000
set_option maxHeartbeats 4000000
namespace Kx
open PySem PySem.Spec PyProof.Rows L2 Evl HT
def BagAt (H : Hp) (B : Addr) (n : Nat) : Prop := ∃ g m c : Int, H B = some (.lst [.int g, .int m, .int c]) ∧ 0 ≤ g ∧ (0 ≤ m ∧ m < 2147483629) ∧ (0 ≤ c ∧ c ≤ n)
section
variable {w : World} {K : PySem.W.Frag} {mg : Str → Option Value} {base : Heap}
def spTake (K : PySem.W.Frag) : Sp := fun vs H Q _ => ∃ B k n, vs = [.ref B, .int k] ∧ BagAt H B n ∧ n ≤ 50000 ∧ 1 ≤ k ∧ k ≤ 100 ∧ ∀ i H', 0 ≤ i → i < k → BagAt H' B (n + 1) → Kp [B] H H' → Q (.int i) H'
theorem q_setI {σ : L2.St} {H : Hp} {te ta tb : TE} {D : Ends} {tz : TS} {l : Addr} {xs : List V} {i z : Int} {j : Nat} (h : EvD K te σ H (.int z)) (ha : Ev ta σ H (.ref l)) (hb : EvD K tb σ H (.int i)) (hl : H l = some (.lst xs)) (hj : ixN xs.length i = some j) (k : ∀ H1, Ex H H1 → H1 l = some (.lst xs) → tz D σ (upd H1 l (.lst (xs.set j (.int z))))) :
    tSeq (tAsg te (gSub ta tb rSetL)) tz D σ H := h.int H (Ex.refl H) _ fun H1 e1 => ha H1 e1 _ fun H2 e2 => hb.int H2 (e1.trans e2) _ fun H3 e3 => by
  have e := (e1.trans e2).trans e3
  exact ⟨l, xs, i, j, rfl, rfl, e _ _ hl, hj, k H3 e (e _ _ hl)⟩
theorem Kp.up {H H1 : Hp} {B : Addr} {o : HO} (e : Ex H H1) : Kp [B] H (upd H1 B o) := (Kp.ex e).trans (.wr (by simp))
theorem sc_take : FnScope ["_law_bag_here", "_law_many", "_law_digit", "_law_step", "_law_one", "_law_two"] ["_law_bag_here", "_law_many"] (defScope Kd.s__law_take) := ⟨rfl, rfl, rfl, by decide +kernel, rfl, by decide +kernel, by decide +kernel⟩
theorem ok_take (T : Tx w K mg) : Ok Pg w K mg base CX0 34 (He.ga K "_law_take") ["_law_bag_here", "_law_many"] (spTake K) := by
  refine ok_of T.f__law_take sc_take (fun vs H Q E h => by obtain ⟨_, _, _, rfl, _⟩ := h; rfl) (fun _ _ _ _ _ _ us hl => match us, hl with | [_, _], _ => rfl) fun cdv A outer s0 H vs Q E hr h => ?_
  obtain ⟨B, k, n, rfl, ⟨g, m, c, hB, hg, hm, hc⟩, hn, hk1, hk2, hk⟩ := h
  refine ⟨_, PSs.nox (pss_cons (ps_if (pt_cmpR op_gt (pe_ix ix_list (pv 0) pe_int fun _ _ => rfl) pe_int (nomark _))
      (pss_cons (ps_set (i := 2) sc_take.nd rfl (Or.inl rfl) (pe_op op_mod (pe_ix ix_list (pv 0) pe_int fun _ _ => rfl) (pv 1)))
      (pss_cons (ps_asg (pe_op (op_fdivP T hr) (pe_ix ix_list (pv 0) pe_int fun _ _ => rfl) (pv 1)) (pg_sub (pv 0) pe_int set_list))
      (pss_one (ps_ret (pv 2))))) pss_nil)
    (pss_cons (ps_asg (pe_op op_add (pe_ix ix_list (pv 0) pe_int fun _ _ => rfl) pe_int) (pg_sub (pv 0) pe_int set_list))
    (pss_cons (ps_set (i := 3) sc_take.nd rfl (Or.inl rfl) (pe_ix ix_list (pv 0) pe_int fun _ _ => rfl))
    (pss_cons (ps_set (i := 4) sc_take.nd rfl (Or.inl rfl) (pe_op op_mod (pe_op op_pow (pe_op op_add (pe_op op_add (pe_op op_mul (pe_ix ix_list (pv 0) pe_int fun _ _ => rfl) (pe_op op_add (pe_op op_mul pe_int (pv 3)) pe_int)) (pe_op op_mul (pe_op op_mul pe_int (pv 3)) (pv 3))) pe_int) pe_int) pe_int))
    (pss_cons (ps_set (i := 5) sc_take.nd rfl (Or.inl rfl) (pe_op op_mod (pe_op op_pow (pe_op op_add (pe_op op_mul (pv 4) (pe_op op_add (pv 3) pe_int)) (pe_ix ix_list (pv 0) pe_int fun _ _ => rfl)) pe_int) pe_int))
    (pss_one (ps_ret (pe_op op_mod (pe_op op_fdiv (pe_op op_add (pe_op op_mul (pv 4) pe_int) (pv 5)) pe_int) (pv 1))))))))), ?_⟩
  have bk : BagAt H B n := ⟨g, m, c, hB, hg, hm, hc⟩
  have at0 : ∀ {σ : L2.St} {H1 : Hp} {x y z : Int}, σ[0]? = some (some (.ref B)) → H1 B = some (.lst [.int x, .int y, .int z]) → EvD K (tOp (rIxL K) (tVar 0) (tC (.int 0))) σ H1 (.int x) := fun h0 h1 => d_ixL (ev_var h0) (sq_of h1) d_int (v := .int _) rfl (.int _)
  refine q_when (b := decide (g > 0)) (t_test (K := K) (d_ib (f := fun i j => decide (i > j)) (at0 rfl hB) d_int)) (fun hb H1 e1 => ?_) fun hb H1 e1 => ?_
  · have hB1 := e1 _ _ hB
    refine q_asgD (K := K) (d := .int (g % k)) (d_iC (f := fun i j => i % j) (at0 rfl hB1) (d_vint rfl) (by omega)) fun v H2 e2 xv => ?_
    rw [xv.int_eq]
    have hB2 := e2 _ _ hB1
    refine q_setI (K := K) (l := B) (j := 0) (z := g / k) (d_iC (f := fun i j => i / j) (at0 rfl hB2) (d_vint rfl) (show 0 < k by omega)) (ev_var rfl) d_int hB2 rfl fun H3 e3 hB3 => ?_
    refine s_retD (K := K) (d_vint rfl) fun v4 H4 e4 x4 => ?_
    rw [x4.int_eq]
    refine hk (g % k) H4 (Int.emod_nonneg _ (by omega)) (Int.emod_lt_of_pos _ (by omega)) ⟨g / k, m, c, e4 _ _ upd_same, Int.ediv_nonneg hg (by omega), hm, hc.1, by omega⟩ ((Kp.up ((e1.trans e2).trans e3)).trans (Kp.ex e4))
  · have hB1 := e1 _ _ hB
    have at2 : ∀ {σ : L2.St} {H1 : Hp} {x y z : Int}, σ[0]? = some (some (.ref B)) → H1 B = some (.lst [.int x, .int y, .int z]) → EvD K (tOp (rIxL K) (tVar 0) (tC (.int 2))) σ H1 (.int z) := fun h0 h1 => d_ixL (ev_var h0) (sq_of h1) d_int (v := .int _) rfl (.int _)
    have at1 : ∀ {σ : L2.St} {H1 : Hp} {x y z : Int}, σ[0]? = some (some (.ref B)) → H1 B = some (.lst [.int x, .int y, .int z]) → EvD K (tOp (rIxL K) (tVar 0) (tC (.int 1))) σ H1 (.int y) := fun h0 h1 => d_ixL (ev_var h0) (sq_of h1) d_int (v := .int _) rfl (.int _)
    refine q_setI (K := K) (l := B) (j := 2) (z := c + 1) (d_ii (f := fun i j => i + j) (at2 rfl hB1) d_int) (ev_var rfl) d_int hB1 rfl fun H2 e2 _ => ?_
    have hB2 : upd H2 B (.lst ([V.int g, .int m, .int c].set 2 (.int (c + 1)))) B = some (.lst [.int g, .int m, .int (c + 1)]) := upd_same
    have kp2 : Kp [B] H (upd H2 B (.lst ([V.int g, .int m, .int c].set 2 (.int (c + 1))))) := Kp.up (e1.trans e2)
    generalize upd H2 B (.lst ([V.int g, .int m, .int c].set 2 (.int (c + 1)))) = G2 at hB2 kp2
    refine q_asgD (K := K) (d := .int (c + 1)) (at2 rfl hB2) fun v H3 e3 xv => ?_
    rw [xv.int_eq]
    have hB3 := e3 _ _ hB2
    have c6 : (c + 1) * (c + 1) ≤ 50001 * 50001 := Int.mul_le_mul (by omega) (by omega) (by omega) (by decide)
    have c7 : 0 ≤ (c + 1) * (c + 1) := Int.mul_nonneg (by omega) (by omega)
    have m6 : m * (2 * (c + 1) + 1) ≤ 2147483629 * 100003 := Int.mul_le_mul (by omega) (by omega) (by omega) (by decide)
    have m7 : 0 ≤ m * (2 * (c + 1) + 1) := Int.mul_nonneg (by omega) (by omega)
    have P1 : 0 ≤ m * (2 * (c + 1) + 1) + 6007 * (c + 1) * (c + 1) + 53 ∧ m * (2 * (c + 1) + 1) + 6007 * (c + 1) * (c + 1) + 53 < 2 ^ 64 := by
      rw [Int.mul_assoc 6007]; omega
    refine q_asgD (K := K) (d := .int ((m * (2 * (c + 1) + 1) + 6007 * (c + 1) * (c + 1) + 53) ^ (3 : Int).toNat % 2147483587)) (d_iC (f := fun i j => i % j) (d_iC (f := fun i j => i ^ j.toNat) (d_ii (f := fun i j => i + j) (d_ii (f := fun i j => i + j) (d_iC (f := fun i j => i * j) (at1 rfl hB3) (d_ii (f := fun i j => i + j) (d_iC (f := fun i j => i * j) d_int (d_vint rfl) (.inl ⟨by decide, by decide⟩)) d_int) (.inl ⟨by omega, by omega⟩)) (d_iC (f := fun i j => i * j) (d_iC (f := fun i j => i * j) d_int (d_vint rfl) (.inl ⟨by decide, by decide⟩)) (d_vint rfl) (.inr ⟨by omega, by omega⟩))) d_int) d_int ⟨by decide, by decide, by omega⟩) d_int (by decide)) fun v H4 e4 xv => ?_
    rw [xv.int_eq]
    have hB4 := e4 _ _ hB3
    generalize (m * (2 * (c + 1) + 1) + 6007 * (c + 1) * (c + 1) + 53) ^ (3 : Int).toNat = pw1
    have q1 := Int.emod_nonneg pw1 (show (2147483587 : Int) ≠ 0 by decide)
    have q2 := Int.emod_lt_of_pos pw1 (show (0 : Int) < 2147483587 by decide)
    generalize pw1 % 2147483587 = one at q1 q2
    have m8 : one * (c + 1 + 8191) ≤ 2147483587 * 58193 := Int.mul_le_mul (by omega) (by omega) (by omega) (by decide)
    have m9 : 0 ≤ one * (c + 1 + 8191) := Int.mul_nonneg (by omega) (by omega)
    refine q_asgD (K := K) (d := .int ((one * (c + 1 + 8191) + m) ^ (3 : Int).toNat % 2147483549)) (d_iC (f := fun i j => i % j) (d_iC (f := fun i j => i ^ j.toNat) (d_ii (f := fun i j => i + j) (d_iC (f := fun i j => i * j) (d_vint rfl) (d_ii (f := fun i j => i + j) (d_vint rfl) d_int) (.inl ⟨by omega, by omega⟩)) (at1 rfl hB4)) d_int ⟨by decide, by decide, by omega⟩) d_int (by decide)) fun v H5 e5 xv => ?_
    rw [xv.int_eq]
    generalize (one * (c + 1 + 8191) + m) ^ (3 : Int).toNat = pw2
    have q3 := Int.emod_nonneg pw2 (show (2147483549 : Int) ≠ 0 by decide)
    have q4 := Int.emod_lt_of_pos pw2 (show (0 : Int) < 2147483549 by decide)
    generalize pw2 % 2147483549 = two at q3 q4
    refine s_retD (K := K) (d_iC (f := fun i j => i % j) (d_iC (f := fun i j => i / j) (d_ii (f := fun i j => i + j) (d_iC (f := fun i j => i * j) (d_vint rfl) d_int (.inr ⟨by decide, by decide⟩)) (d_vint rfl)) d_int ⟨by decide, by omega⟩) (d_vint rfl) (show 0 < k by omega)) fun v6 H6 e6 x6 => ?_
    rw [x6.int_eq]
    exact hk _ H6 (Int.emod_nonneg _ (by omega)) (Int.emod_lt_of_pos _ (by omega)) ⟨g, m, c + 1, e6 _ _ (e5 _ _ hB4), hg, hm, by omega, by omega⟩ (kp2.trans (Kp.ex ((e3.trans e4).trans (e5.trans e6))))
end
end Kx

set_option Elab.async false
set_option linter.all false
set_option maxRecDepth 100000
set_option maxHeartbeats 4000000
namespace Kx
open PySem PySem.Spec PyProof.Rows L2 Evl HT
section
variable {w : World} {K : PySem.W.Frag} {mg : Str → Option Value} {base : Heap}
/-- a draw -/
theorem n_take {σ : L2.St} {H : Hp} {ta tb : TE} {E : XK} {B : Addr} {k : Int} {n : Nat} {Q : VK} (ha : Ev ta σ H (.ref B)) (hb : EvD K tb σ H (.int k)) (hB : BagAt H B n) (hn : n ≤ 50000) (h1 : 1 ≤ k) (h2 : k ≤ 100) (q : ∀ i H', 0 ≤ i → i < k → BagAt H' B (n + 1) → Kp [B] H H' → Q (.int i) H') :
    tCall (spTake K) [] E (tCons ta (tCons tb tNil)) σ H Q := (ea_cons ha (ea_cons hb.int ea_nil)) H (Ex.refl H) _ fun H1 e1 =>
  ⟨B, k, n, rfl, (by obtain ⟨g, m, c, a, b⟩ := hB; exact ⟨g, m, c, e1 _ _ a, b⟩), hn, h1, h2, fun i H' a b c d => q i H' a b c ((Kp.ex e1).trans d)⟩
theorem BagAt.ex {H H' : Hp} {B : Addr} {n : Nat} (h : BagAt H B n) (e : Ex H H') : BagAt H' B n := let ⟨g, m, c, a, b⟩ := h; ⟨g, m, c, e _ _ a, b⟩
def spBoth (K : PySem.W.Frag) : Sp := fun vs H Q _ => ∃ B n, vs = [.ref B, .int 2] ∧ BagAt H B n ∧ n ≤ 40000 ∧ ∀ p q v H', ¬ (p = 0 ∧ q = 0) → p.natAbs ≤ 2 → q.natAbs ≤ 2 → Dt K H' v (.tuple [.int p, .int q]) → BagAt H' B (n + 2) → Kp [B] H H' → Q v H'
theorem sc_both : FnScope ["_law_bag_here", "_law_wide", "_law_p", "_law_q"] ["_law_bag_here", "_law_wide"] (defScope Kd.s__law_both) := ⟨rfl, rfl, rfl, by decide +kernel, rfl, by decide +kernel, by decide +kernel⟩
theorem ok_both (T : Tx w K mg) : Ok Pg w K mg base CX0 35 (He.ga K "_law_both") ["_law_bag_here", "_law_wide"] (spBoth K) := by
  refine ok_of T.f__law_both sc_both (fun vs H Q E h => by obtain ⟨_, _, rfl, _⟩ := h; rfl) (fun _ _ _ _ _ _ us hl => match us, hl with | [_, _], _ => rfl) fun cdv A outer s0 H vs Q E hr h => ?_
  obtain ⟨B, n, rfl, hB, hn, hk⟩ := h
  refine ⟨_, PSs.nox (pss_cons (ps_set (i := 2) sc_both.nd rfl (Or.inl rfl) (pe_op op_sub (pe_fn (E := E) (ok_take T) (hr.mono (by decide)) T.g__law_take pass0 (pa_cons (pv 0) (pa_cons (pe_op op_add (pe_op op_mul pe_int (pv 1)) pe_int) pa_nil))) (pv 1)))
    (pss_cons (ps_set (i := 3) sc_both.nd rfl (Or.inl rfl) (pe_op op_sub (pe_fn (E := E) (ok_take T) (hr.mono (by decide)) T.g__law_take pass0 (pa_cons (pv 0) (pa_cons (pe_op op_add (pe_op op_mul pe_int (pv 1)) pe_int) pa_nil))) (pv 1)))
    (pss_one (ps_ret (pe_tup (pa_cons (pv 2) (pa_cons (pe_op op_add (pv 3) (pe_callTy call_int1 (by rfl) T.b_int PyProof.Rows.boot_int (pa_cons (pe_and (pe_cmpR op_eq (pv 2) pe_int (nomark _)) (pe_one (pe_cmpR op_eq (pv 3) pe_int (nomark _)))) pa_nil))) pa_nil))))))), ?_⟩
  have w5 : ∀ {σ : L2.St} {H1 : Hp}, σ[1]? = some (some (.int 2)) → EvD K (tOp (rI0 fun i j => .int (i + j)) (tOp (rI CMul fun i j => .int (i * j)) (tC (.int 2)) (tVar 1)) (tC (.int 1))) σ H1 (.int 5) := fun h => d_ii (f := fun i j => i + j) (i := 4) (j := 1) (d_iC (f := fun i j => i * j) (i := 2) (j := 2) d_int (d_vint h) (.inl ⟨by decide, by decide⟩)) d_int
  refine n_take (ev_var rfl) (w5 rfl) hB (by omega) (by decide) (by decide) fun i H1 i1 i2 hB1 k1 => ?_
  refine ⟨_, rfl, i, 2, rfl, rfl, ?_⟩
  refine n_take (ev_var rfl) (w5 rfl) hB1 (by omega) (by decide) (by decide) fun j H2 j1 j2 hB2 k2 => ?_
  refine ⟨_, rfl, j, 2, rfl, rfl, ?_⟩
  have ei : EvD K (tCB (fun xs H Q => (∃ i, xs = [V.int i] ∧ Q (.int i) H) ∨ ∃ k, xs = [V.bl k] ∧ Q (.int (if k then 1 else 0)) H) (tCons (tAndV (tOp rEq (tVar 2) (tC (.int 0))) (tOp rEq (tVar 3) (tC (.int 0)))) tNil)) [some (.ref B), some (.int 2), some (.int (i - 2)), some (.int (j - 2))] H2 (.int (if (decide (i - 2 = 0) && decide (j - 2 = 0)) = true then 1 else 0)) := fun H3 e3 Q' q' =>
    (ea_cons (d_andV (K := K) (d_eqI (d_vint rfl) d_int) fun _ => d_eqI (d_vint rfl) d_int).bool ea_nil) H3 e3 _ fun H4 e4 => .inr ⟨_, rfl, q' _ H4 e4 (.int _)⟩
  refine s_retD (K := K) (d_tup2 (ds_cons (d_vint rfl) (ds_cons (d_ii (f := fun i j => i + j) (d_vint rfl) ei) ds_nil))) fun v H5 e5 xv => ?_
  refine hk (i - 2) _ v H5 ?_ ?_ ?_ xv (hB2.ex e5) ((k1.trans k2).trans (Kp.ex e5))
  · rintro ⟨h1, h2⟩
    rw [decide_eq_true h1] at h2
    by_cases hj : j - 2 = 0
    · rw [decide_eq_true hj] at h2; simp at h2; omega
    · rw [decide_eq_false hj] at h2; simp at h2; omega
  · omega
  · split
    · rename_i h
      have := Bool.and_eq_true_iff.mp h
      have := of_decide_eq_true this.2
      omega
    · omega
end
end Kx

set_option Elab.async false
set_option linter.all false
set_option maxRecDepth 100000
set_option maxHeartbeats 4000000
namespace Kx
open PySem PySem.Spec PyProof.Rows L2 Evl HT
section
variable {w : World} {K : PySem.W.Frag} {mg : Str → Option Value} {base : Heap}
theorem BagAt.mono {H : Hp} {B : Addr} {n m : Nat} (h : BagAt H B n) (l : n ≤ m) : BagAt H B m := let ⟨g, x, c, a, b, d, e⟩ := h; ⟨g, x, c, a, b, d, e.1, by have := e.2; omega⟩
theorem BagAt.tk {H H' : Hp} {B : Addr} {n : Nat} (h : BagAt H B n) (k : Kp [B] H H') : TK H H' := fun a xs r => by
  obtain ⟨g, x, c, e, _⟩ := h
  have ne : a ≠ B := by
    rintro rfl
    rcases r with r | ⟨o', r⟩ <;> · rw [e] at r; cases r
  rcases r with r | ⟨o', r⟩
  · exact .inl (k a _ (by simp; exact ne) r)
  · exact .inr ⟨o', k a _ (by simp; exact ne) r⟩
theorem cat_fin {H : Hp} {v u : V} {ds es : List PyData} {Q : VK} (hv : Dt K H v (.tuple ds)) (hu : Dt K H u (.tuple es)) (hz : ds.length + es.length ≤ 100000) (q : ∀ x H', Ex H H' → Dt K H' x (.tuple (ds ++ es)) → Q x H') : rCatA K v u H Q :=
  d_catT (K := K) (σ := []) (H := H) (ta := fun _ H Q => Q v H) (tb := fun _ H Q => Q u H) (fun H1 e Q q => q v H1 (Ex.refl _) (hv.ex e)) (fun H1 e Q q => q u H1 (Ex.refl _) (hu.ex e)) hz H (Ex.refl H) Q q
theorem n_pairT {σ : L2.St} {H : Hp} {ta : TE} {E : XK} {B : Addr} {n : Nat} {Q : VK} (ha : ∀ H, Ev ta σ H (.ref B)) (hB : BagAt H B n) (hn : n ≤ 50000) (q : ∀ i v H', 0 ≤ i → i < 19 → Dt K H' v (nD (i - 9, 1)) → BagAt H' B (n + 1) → Kp [B] H H' → Q v H') :
    tTup (tCons (tOp (rI0 fun i j => .int (i - j)) (tCall (spTake K) [] E (tCons ta (tCons (tC (.int 19)) tNil))) (tC (.int 9))) (tCons (tC (.int 1)) tNil)) σ H Q := by
  refine n_take (ha H) d_int hB hn (by decide) (by decide) fun i H1 i1 i2 hB1 k1 => ?_
  refine ⟨i, 9, rfl, rfl, ?_⟩
  refine ⟨by show 2 ≤ sizeLine; decide, fun p hp => ?_⟩
  exact q i (.ref p) _ i1 i2 (.tup (SqT.of upd_same) (.cons (.int _) (.cons (.int _) .nil))) (hB1.ex (Ex.new hp)) (k1.trans (Kp.ex (Ex.new hp)))
theorem s_tup3 {σ : L2.St} {H : Hp} {x : Str} {ta tb : TE} {D : Ends} (h : ta σ H fun v H1 => tb σ H1 fun u H2 => 3 ≤ sizeLine ∧ ∀ p, H2 p = none → D.rt (.ref p) (upd H2 p (.tup [.str x, v, u]))) : tRet (tTup (tCons (tC (.str x)) (tCons ta (tCons tb tNil)))) D σ H := h
theorem n_both {σ : L2.St} {H : Hp} {ta tb : TE} {E : XK} {B : Addr} {n : Nat} {Q : VK} (ha : Ev ta σ H (.ref B)) (hb : EvD K tb σ H (.int 2)) (hB : BagAt H B n) (hn : n ≤ 40000) (q : ∀ p q v H', ¬ (p = 0 ∧ q = 0) → p.natAbs ≤ 2 → q.natAbs ≤ 2 → Dt K H' v (.tuple [.int p, .int q]) → BagAt H' B (n + 2) → Kp [B] H H' → Q v H') :
    tCall (spBoth K) [] E (tCons ta (tCons tb tNil)) σ H Q := (ea_cons ha (ea_cons hb.int ea_nil)) H (Ex.refl H) _ fun H1 e1 =>
  ⟨B, n, rfl, hB.ex e1, hn, fun p q' v H' a b c d f g => q p q' v H' a b c d f ((Kp.ex e1).trans g)⟩
def spFrame (K : PySem.W.Frag) : Sp := fun vs H Q _ => ∃ B n, vs = [.ref B] ∧ BagAt H B n ∧ n ≤ 30000 ∧ ∀ f v H', GenF f → Dt K H' v (frD f) → BagAt H' B (n + 3) → Kp [B] H H' → Q v H'
theorem sc_frameL : FnScope ["_law_bag_here", "_law_way"] ["_law_bag_here"] (defScope Kd.s__law_frame) := ⟨rfl, rfl, rfl, by decide +kernel, rfl, by decide +kernel, by decide +kernel⟩
theorem ok_frameL (T : Tx w K mg) : Ok Pg w K mg base CX0 36 (He.ga K "_law_frame") ["_law_bag_here"] (spFrame K) := by
  refine ok_of T.f__law_frame sc_frameL (fun vs H Q E h => by obtain ⟨_, _, rfl, _⟩ := h; rfl) (fun _ _ _ _ _ _ us hl => match us, hl with | [_], _ => rfl) fun cdv A outer s0 H vs Q E hr h => ?_
  obtain ⟨B, n, rfl, hB, hn, hk⟩ := h
  refine ⟨_, PSs.nox (pss_cons (ps_set (i := 1) sc_frameL.nd rfl (Or.inl rfl) (pe_fn (E := E) (ok_take T) (hr.mono (by decide)) T.g__law_take pass0 (pa_cons (pv 0) (pa_cons pe_int pa_nil))))
    (pss_cons (ps_if (pt_cmpR op_eq (pv 1) pe_int (nomark _)) (pss_one (ps_ret (pe_tup (pa_cons pe_str (pa_cons (pe_tup (pa_cons (pe_op op_sub (pe_fn (E := E) (ok_take T) (hr.mono (by decide)) T.g__law_take pass0 (pa_cons (pv 0) (pa_cons pe_int pa_nil))) pe_int) (pa_cons pe_int pa_nil))) (pa_cons (pe_tup (pa_cons (pe_op op_sub (pe_fn (E := E) (ok_take T) (hr.mono (by decide)) T.g__law_take pass0 (pa_cons (pv 0) (pa_cons pe_int pa_nil))) pe_int) (pa_cons pe_int pa_nil))) pa_nil)))))) pss_nil)
    (pss_one (ps_ret (pe_ifExp (pt_cmpR op_eq (pv 1) pe_int (nomark _)) (pe_op op_catA (pe_tup (pa_cons pe_str pa_nil)) (pe_fn (E := E) (ok_both T) (hr.mono (by decide)) T.g__law_both pass0 (pa_cons (pv 0) (pa_cons pe_int pa_nil)))) (pe_tup (pa_cons pe_str pa_nil))))))), ?_⟩
  refine n_take (ev_var rfl) d_int hB (by omega) (by decide) (by decide) fun wy H1 w1 w2 hB1 k1 => ?_
  refine q_when (b := decide (wy = 0)) (t_test (K := K) (d_eqI (d_vint rfl) d_int)) (fun hb H2 e2 => ?_) fun hb H2 e2 => ?_
  · have k2 := k1.trans (Kp.ex e2)
    refine s_tup3 ?_
    refine n_pairT (ta := tVar 0) (σ := [some (.ref B), some (.int wy)]) (fun H => ev_var rfl) (hB1.ex e2) (by omega) fun i v4 H4 i1 i2 x4 hB4 k4 => ?_
    refine n_pairT (ta := tVar 0) (σ := [some (.ref B), some (.int wy)]) (fun H => ev_var rfl) hB4 (by omega) fun j v5 H5 j1 j2 x5 hB5 k5 => ?_
    refine ⟨by show 3 ≤ sizeLine; decide, fun p hp => ?_⟩
    have en : Ex H5 _ := Ex.new (o := .tup [.str "shift", v4, v5]) hp
    exact hk (.shift (i - 9, 1) (j - 9, 1)) (.ref p) _ ⟨⟨rfl, by show (i - 9).natAbs ≤ 9; omega⟩, rfl, by show (j - 9).natAbs ≤ 9; omega⟩ (.tup (SqT.of upd_same) (.cons (.str _) (.cons ((x4.tk (hB4.tk k5)).ex en) (.cons (x5.ex en) .nil)))) (hB5.ex en) ((k2.trans k4).trans (k5.trans (Kp.ex en)))
  · refine (t_test (K := K) (d_eqI (a := wy) (b := 1) (σ := [some (.ref B), some (.int wy)]) (d_vint rfl) d_int)) H2 (Ex.refl H2) _ fun H3 e3 => ?_
    have hB3 := (hB1.ex e2).ex e3
    have k3 := (k1.trans (Kp.ex e2)).trans (Kp.ex e3)
    cases hw : decide (wy = 1) with
    | true =>
      rw [if_pos rfl]
      refine (d_tup (K := K) (σ := [some (.ref B), some (.int wy)]) (ds_cons (d_str (s := "turn")) ds_nil) (by show 1 ≤ 100000; decide)) H3 (Ex.refl H3) _ fun v4 H4 e4 x4 => ?_
      refine n_both (n := n + 1) (ev_var rfl) d_int (hB3.ex e4) (by omega) fun p q v5 H5 p1 p2 p3 x5 hB5 k5 => ?_
      have x45 := x4.tk ((hB3.ex e4).tk k5)
      refine cat_fin x45 x5 (by show 1 + 2 ≤ 100000; decide) fun v6 H6 e6 x6 => ?_
      exact hk (.turn p q) v6 H6 ⟨p1, p2, p3⟩ x6 (hB5.ex e6) ((k3.trans (Kp.ex e4)).trans (k5.trans (Kp.ex e6)))
    | false =>
      rw [if_neg (by decide)]
      refine (d_tup (K := K) (σ := [some (.ref B), some (.int wy)]) (ds_cons (d_str (s := "flip")) ds_nil) (by show 1 ≤ 100000; decide)) H3 (Ex.refl H3) _ fun v4 H4 e4 x4 => ?_
      exact hk .flip v4 H4 trivial x4 ((hB3.ex e4).mono (by omega)) (k3.trans (Kp.ex e4))
end
end Kx

set_option Elab.async false
set_option linter.all false
set_option maxRecDepth 100000
set_option maxHeartbeats 4000000
namespace Kx
open PySem PySem.Spec PyProof.Rows L2 Evl HT
/-! ### expressions that draw from the bag -/
def EvB (K : PySem.W.Frag) (B : Addr) (te : TE) (σ : L2.St) (H : Hp) (n d : Nat) (P : PyData → Prop) : Prop := ∀ H1, Kp [B] H H1 → BagAt H1 B n → ∀ Q : VK, (∀ v x H2, P x → Dt K H2 v x → BagAt H2 B (n + d) → Kp [B] H1 H2 → Q v H2) → te σ H1 Q
def EvBs (K : PySem.W.Frag) (B : Addr) (ta : TA) (σ : L2.St) (H : Hp) (n d : Nat) (R : List PyData → Prop) : Prop := ∀ H1, Kp [B] H H1 → BagAt H1 B n → ∀ Q : List V → Hp → Prop, (∀ vs xs H2, R xs → DtL K H2 vs xs → BagAt H2 B (n + d) → Kp [B] H1 H2 → Q vs H2) → ta σ H1 Q
/-- a new list -/
def EvNB (K : PySem.W.Frag) (B : Addr) (te : TE) (σ : L2.St) (H : Hp) (n d : Nat) (R : List PyData → Prop) : Prop := ∀ H1, Kp [B] H H1 → BagAt H1 B n → ∀ Q : VK, (∀ p vs xs H2, H1 p = none → p ≠ B → R xs → H2 p = some (.lst vs) → DtL K H2 vs xs → BagAt H2 B (n + d) → Kp [B] H1 H2 → Q (.ref p) H2) → te σ H1 Q
def PI (A : Int → Prop) : PyData → Prop := fun x => ∃ i, x = .int i ∧ A i
def PT (R : List PyData → Prop) : PyData → Prop := fun x => ∃ xs, x = .tuple xs ∧ R xs
theorem BagAt.ne {H : Hp} {B p : Addr} {n : Nat} (h : BagAt H B n) (e : H p = none) : p ≠ B := by
  obtain ⟨g, m, c, a, _⟩ := h
  rintro rfl
  rw [a] at e; cases e
section
variable {K : PySem.W.Frag} {σ : L2.St} {H : Hp} {ta tb te : TE} {tA : TA} {B : Addr} {n d d1 d2 : Nat} {P P' : PyData → Prop} {R R' : List PyData → Prop} {x : PyData} {ds : List PyData}
theorem EvB.imp (h : EvB K B te σ H n d P) (i : ∀ x, P x → P' x) : EvB K B te σ H n d P' := fun H1 k b Q q => h H1 k b Q fun v x H2 p => q v x H2 (i x p)
theorem EvB.le (h : EvB K B te σ H n d P) {d' : Nat} (l : d ≤ d') : EvB K B te σ H n d' P := fun H1 k b Q q => h H1 k b Q fun v x H2 p hv hb => q v x H2 p hv (hb.mono (by omega))
theorem EvNB.imp (h : EvNB K B te σ H n d R) (i : ∀ x, R x → R' x) : EvNB K B te σ H n d R' := fun H1 k b Q q => h H1 k b Q fun p vs xs H2 a c r => q p vs xs H2 a c (i xs r)
theorem b_pure (h : ∀ H1, Kp [B] H H1 → BagAt H1 B n → EvD K te σ H1 x) (p : P x) : EvB K B te σ H n 0 P := fun H1 k b Q q => h H1 k b H1 (Ex.refl _) Q fun v H2 e hd => q v x H2 p hd (b.ex e) (Kp.ex e)
theorem b_ii {f : Int → Int → Int} {A C D : Int → Prop} (ha : EvB K B ta σ H n d1 (PI A)) (hb : EvB K B tb σ H (n + d1) d2 (PI C)) (hc : ∀ i j, A i → C j → D (f i j)) : EvB K B (tOp (rI0 fun i j => .int (f i j)) ta tb) σ H n (d1 + d2) (PI D) := fun H1 k b Q q =>
  ha H1 k b _ fun v x H2 p hv b2 k2 => hb H2 (k.trans k2) b2 _ fun u y H3 p3 hu b3 k3 => by
    obtain ⟨i, rfl, hi⟩ := p
    obtain ⟨j, rfl, hj⟩ := p3
    rw [hv.int_eq, hu.int_eq]
    exact ⟨i, j, rfl, rfl, q _ _ H3 ⟨_, rfl, hc i j hi hj⟩ (.int _) (by rw [← Nat.add_assoc]; exact b3) (k2.trans k3)⟩
theorem b_iC {f : Int → Int → Int} {S : Int → Int → Prop} {A C D : Int → Prop} (ha : EvB K B ta σ H n d1 (PI A)) (hb : EvB K B tb σ H (n + d1) d2 (PI C)) (hs : ∀ i j, A i → C j → S i j) (hc : ∀ i j, A i → C j → D (f i j)) : EvB K B (tOp (rI S fun i j => .int (f i j)) ta tb) σ H n (d1 + d2) (PI D) := fun H1 k b Q q =>
  ha H1 k b _ fun v x H2 p hv b2 k2 => hb H2 (k.trans k2) b2 _ fun u y H3 p3 hu b3 k3 => by
    obtain ⟨i, rfl, hi⟩ := p
    obtain ⟨j, rfl, hj⟩ := p3
    rw [hv.int_eq, hu.int_eq]
    exact ⟨i, j, rfl, rfl, hs i j hi hj, q _ _ H3 ⟨_, rfl, hc i j hi hj⟩ (.int _) (by rw [← Nat.add_assoc]; exact b3) (k2.trans k3)⟩
theorem b_int {i : Int} {A : Int → Prop} (h : A i) : EvB K B (tC (.int i)) σ H n 0 (PI A) := b_pure (fun _ _ _ => d_int) ⟨i, rfl, h⟩
theorem b_take {E : XK} {m : Int} (ha : ∀ H, Ev ta σ H (.ref B)) (hb : ∀ H1, Kp [B] H H1 → EvD K tb σ H1 (.int m)) (hn : n ≤ 50000) (h1 : 1 ≤ m) (h2 : m ≤ 100) : EvB K B (tCall (spTake K) [] E (tCons ta (tCons tb tNil))) σ H n 1 (PI fun i => 0 ≤ i ∧ i < m) := fun H1 k b Q q =>
  n_take (ha H1) (hb H1 k) b hn h1 h2 fun i H2 i1 i2 b2 k2 => q _ _ H2 ⟨i, rfl, i1, i2⟩ (.int i) b2 k2
theorem b_both {E : XK} (ha : ∀ H, Ev ta σ H (.ref B)) (hn : n ≤ 40000) : EvB K B (tCall (spBoth K) [] E (tCons ta (tCons (tC (.int 2)) tNil))) σ H n 2 (PT fun xs => ∃ p q, xs = [.int p, .int q] ∧ GenPQ p q) := fun H1 k b Q q =>
  n_both (ha H1) d_int b hn fun i j v H2 g1 g2 g3 hv b2 k2 => q v _ H2 ⟨_, rfl, i, j, rfl, g1, g2, g3⟩ hv b2 k2
theorem bs_nil : EvBs K B tNil σ H n 0 (fun xs => xs = []) := fun H1 k b Q q => q [] [] H1 rfl .nil b (Kp.refl _ _)
theorem bs_cons (ha : EvB K B ta σ H n d1 P) (hr : EvBs K B tA σ H (n + d1) d2 R) : EvBs K B (tCons ta tA) σ H n (d1 + d2) (fun l => ∃ x xs, l = x :: xs ∧ P x ∧ R xs) := fun H1 k b Q q =>
  ha H1 k b _ fun v x H2 p hv b2 k2 => hr H2 (k.trans k2) b2 _ fun vs xs H3 p3 hvs b3 k3 => q (v :: vs) (x :: xs) H3 ⟨x, xs, rfl, p, p3⟩ (.cons (hv.tk (b2.tk k3)) hvs) (by rw [← Nat.add_assoc]; exact b3) (k2.trans k3)
theorem EvBs.imp (h : EvBs K B tA σ H n d R) (i : ∀ x, R x → R' x) : EvBs K B tA σ H n d R' := fun H1 k b Q q => h H1 k b Q fun vs xs H2 r => q vs xs H2 (i xs r)
theorem b_tup (h : EvBs K B tA σ H n d R) (hl : ∀ xs, R xs → xs.length ≤ 100000) : EvB K B (tTup tA) σ H n d (PT R) := fun H1 k b Q q =>
  h H1 k b _ fun vs xs H2 r hv b2 k2 => ⟨by rw [hv.len]; exact sz_of (hl xs r), fun p hp => q (.ref p) _ _ ⟨xs, rfl, r⟩ (.tup (SqT.of upd_same) (hv.ex (Ex.new hp))) (b2.ex (Ex.new hp)) (k2.trans (Kp.ex (Ex.new hp)))⟩
theorem nb_lst (h : EvBs K B tA σ H n d R) (hl : ∀ xs, R xs → xs.length ≤ 100000) : EvNB K B (tLst tA) σ H n d R := fun H1 k b Q q =>
  h H1 k b _ fun vs xs H2 r hv b2 k2 => ⟨by rw [hv.len]; exact sz_of (hl xs r), fun p hp => q p vs xs _ (by
    cases e : H1 p with
    | none => rfl
    | some o => rw [k2 p o (by simp; exact b2.ne hp) e] at hp; cases hp) (b2.ne hp) r upd_same (hv.ex (Ex.new hp)) (b2.ex (Ex.new hp)) (k2.trans (Kp.ex (Ex.new hp)))⟩
theorem b_cat {R1 R2 : List PyData → Prop} (ha : EvB K B ta σ H n d1 (PT R1)) (hb : EvB K B tb σ H (n + d1) d2 (PT R2)) (hz : ∀ xs ys, R1 xs → R2 ys → xs.length + ys.length ≤ 100000) : EvB K B (tOp (rCatA K) ta tb) σ H n (d1 + d2) (PT fun l => ∃ xs ys, l = xs ++ ys ∧ R1 xs ∧ R2 ys) := fun H1 k b Q q =>
  ha H1 k b _ fun v x H2 p hv b2 k2 => hb H2 (k.trans k2) b2 _ fun u y H3 p3 hu b3 k3 => by
    obtain ⟨xs, rfl, hx⟩ := p
    obtain ⟨ys, rfl, hy⟩ := p3
    exact cat_fin (hv.tk (b2.tk k3)) hu (hz xs ys hx hy) fun z H4 e4 hz => q z _ H4 ⟨_, rfl, xs, ys, rfl, hx, hy⟩ hz (by rw [← Nat.add_assoc]; exact b3.ex e4) ((k2.trans k3).trans (Kp.ex e4))
/-- a standing list and a new one, put together -/
theorem nb_cat {p : Addr} {vs : List V} {R2 : List PyData → Prop} (ha : ∀ H, Ev ta σ H (.ref p)) (hB : BagAt H B n) (hp : H p = some (.lst vs)) (hl : DtL K H vs ds) (np : p ≠ B) (hb : EvNB K B tb σ H n d R2) (hz : ∀ ys, R2 ys → ds.length + ys.length ≤ 100000) :
    EvNB K B (tOp rCat ta tb) σ H n d (fun l => ∃ ys, l = ds ++ ys ∧ R2 ys) := fun H1 k b Q q => ha H1 H1 (Ex.refl _) _ fun H2 e2 => hb H2 (k.trans (Kp.ex e2)) (b.ex e2) _ fun p3 us ys H3 n3 m3 r3 h3 hu b3 k3 => by
  have kH : Kp [B] H H3 := (k.trans (Kp.ex e2)).trans k3
  have hp3 := kH p _ (by simp; exact np) hp
  have hl3 := hl.tk (hB.tk kH)
  refine ⟨p, p3, vs, us, rfl, rfl, hp3, h3, by rw [hl3.len, hu.len]; exact sz_of (hz ys r3), fun p4 h4 => ?_⟩
  have k13 : Kp [B] H1 H3 := (Kp.ex e2).trans k3
  refine q p4 (vs ++ us) (ds ++ ys) _ ?_ (b3.ne h4) ⟨ys, rfl, r3⟩ upd_same ((hl3.append hu).ex (Ex.new h4)) (b3.ex (Ex.new h4)) (k13.trans (Kp.ex (Ex.new h4)))
  cases e : H1 p4 with
  | none => rfl
  | some o => rw [k13 p4 o (by simp; exact b3.ne h4) e] at h4; cases h4
theorem q_asgNB {i : Nat} {D : Ends} {tz : TS} (h : EvNB K B te σ H n d R) (hB : BagAt H B n) (k : ∀ p vs xs H1, H p = none → p ≠ B → R xs → H1 p = some (.lst vs) → DtL K H1 vs xs → BagAt H1 B (n + d) → Kp [B] H H1 → tz D (σ.set i (some (.ref p))) H1) :
    tSeq (tAsg te (gName i)) tz D σ H := h H (Kp.refl _ _) hB _ fun p vs xs H1 a b c d e f g => k p vs xs H1 a b c d e f g
theorem q_asgB {i : Nat} {D : Ends} {tz : TS} (h : EvB K B te σ H n d P) (hB : BagAt H B n) (k : ∀ v x H1, P x → Dt K H1 v x → BagAt H1 B (n + d) → Kp [B] H H1 → tz D (σ.set i (some v)) H1) :
    tSeq (tAsg te (gName i)) tz D σ H := h H (Kp.refl _ _) hB _ fun v x H1 a b c d => k v x H1 a b c d
/-- the turns of a comprehension over a range, drawing -/
theorem lc_bagI {lo : Int} {m n0 : Nat} {j : Nat} {vs : List Nat} {Q : VK} (hz : m ≤ 50000) (hw : ∀ x, wipe ((wipe σ vs).set j (some x)) vs = wipe σ vs) (hB : BagAt H B n0)
    (he : ∀ (i : Nat), i < m → EvB K B te ((wipe σ vs).set j (some (.int (lo + i)))) H (n0 + d * i) d P)
    (q : ∀ p xs ds H', H p = none → p ≠ B → ds.length = m → (∀ x ∈ ds, P x) → H' p = some (.lst xs) → DtL K H' xs ds → BagAt H' B (n0 + d * m) → Kp [B] H H' → Q (.ref p) H') :
    ∀ D, H D = none → ∃ W : Nat → Nat → Hp → Prop, (∃ m, W 0 m (upd H D (.lst []))) ∧ ∀ i k H2, W i k H2 →
      ((Itr lo m).stop i H2 ∧ Q (.ref D) H2) ∨ ((Itr lo m).go i H2 ∧ ∃ Nx : Hp → Prop, (∀ H', Nx H' → ∃ m', m' < k ∧ W (i + 1) m' H') ∧ ∀ x H', (Itr lo m).yld i H2 x H' → gName j x (wipe σ vs) H' fun σ2 H2 => wipe σ2 vs = wipe σ vs ∧ tYes σ2 H2 fun b H3 =>
        if b = true then te σ2 H3 fun y H4 => ∃ acc, H4 D = some (.lst acc) ∧ acc.length < sizeLine ∧ Nx (upd H4 D (.lst (acc ++ [y]))) else Nx H3) := fun Dl hD => by
  have nB : Dl ≠ B := hB.ne hD
  refine lc_range (lo := lo) (n := m) (fun i H' => Kp [B] H H' ∧ BagAt H' B (n0 + d * i) ∧ ∃ acc ds, ds.length = i ∧ (∀ x ∈ ds, P x) ∧ H' Dl = some (.lst acc) ∧ DtL K H' acc ds)
    ⟨Kp.ex (Ex.new hD), hB.ex (Ex.new hD), [], [], rfl, fun x hx => (by cases hx), upd_same, .nil⟩ (fun i H' hi p => ⟨hw _, ?_⟩) fun H' p => ?_
  · obtain ⟨k1, b1, acc, ds, l1, p1, a1, d1⟩ := p
    refine t_yes (H := H') H' (Ex.refl H') _ fun H2 e2 => ?_
    rw [if_pos rfl]
    refine he i hi H2 (k1.trans (Kp.ex e2)) (b1.ex e2) _ fun v x H3 hx hv b3 k3 => ?_
    have a3 : H3 Dl = some (.lst acc) := k3 Dl _ (by simp; exact nB) (e2 _ _ a1)
    have tk3 : TK H2 H3 := (b1.ex e2).tk k3
    have tk : TK H3 (upd H3 Dl (.lst (acc ++ [v]))) := TK.upd a3 trivial
    have len : acc.length = i := by rw [d1.len, l1]
    refine ⟨acc, a3, sz_lt (by omega), ?_, ?_, acc ++ [v], ds ++ [x], by simp [l1], fun y hy => ?_, upd_same, ?_⟩
    · intro b o hb hbo
      by_cases hbd : b = Dl
      · subst hbd; rw [hD] at hbo; cases hbo
      · rw [upd_ne hbd]; exact ((k1.trans (Kp.ex e2)).trans k3) b o hb hbo
    · obtain ⟨g, m, c, a, r⟩ := b3
      exact ⟨g, m, c, by rw [upd_ne (Ne.symm nB)]; exact a, by rw [Nat.mul_succ, ← Nat.add_assoc]; exact r⟩
    · rcases List.mem_append.mp hy with hy | hy
      · exact p1 y hy
      · rw [List.mem_singleton] at hy; subst hy; exact hx
    · exact (((d1.ex e2).tk tk3).append (.cons hv .nil)).tk tk
  · obtain ⟨k1, b1, acc, ds, l1, p1, a1, d1⟩ := p
    exact q Dl acc ds H' hD nB l1 p1 a1 d1 b1 k1
/-- over a written range -/
theorem nb_lcR {m : Nat} {j : Nat} {vs : List Nat} (hz : m ≤ 50000) (hw : ∀ x, wipe ((wipe σ vs).set j (some x)) vs = wipe σ vs)
    (he : ∀ (i : Nat), i < m → EvB K B te ((wipe σ vs).set j (some (.int (0 + i)))) H (n + d * i) d P) :
    EvNB K B (tLc (iRng1 (tCons (tC (.int m)) tNil)) (gName j) tYes te vs) σ H n (d * m) (fun ds => ds.length = m ∧ ∀ x ∈ ds, P x) := fun H1 k b Q q => by
  refine ⟨m, rfl, by omega, by omega, ?_⟩
  rw [show ((m : Int)).toNat = m by omega]
  exact lc_bagI (lo := 0) (d := d) (P := P) hz hw b (fun i hi H2 k2 b2 => he i hi H2 (k.trans k2) b2) fun p xs ds H' a1 a2 a3 a4 a5 a6 a7 a8 => q p xs ds H' a1 a2 ⟨a3, a4⟩ a5 a6 a7 a8
end
end Kx

set_option Elab.async false
set_option linter.all false
set_option maxRecDepth 100000
set_option maxHeartbeats 4000000
namespace Kx
open PySem PySem.Spec PyProof.Rows L2 Evl HT
/-! ### a row drawn -/
def GRow (ns : List Str) (r : Row) : Prop := GenRow r ∧ plain r = true ∧ ∀ nm t, r = .call nm t → nm ∈ ns
def PRow (ns : List Str) (x : PyData) : Prop := ∃ r, x = rowD r ∧ GRow ns r
def NmsAt (H : Hp) (L : Addr) (ns : List Str) : Prop := H L = some (.lst (ns.map V.str))
def spRowL (K : PySem.W.Frag) : Sp := fun vs H Q _ => ∃ B L n ns, vs = [.ref B, .ref L] ∧ BagAt H B n ∧ n ≤ 20000 ∧ NmsAt H L ns ∧ ns.length ≤ 3 ∧ (∀ nm ∈ ns, NameOk nm) ∧ ∀ v r H', GRow ns r → Dt K H' v (rowD r) → BagAt H' B (n + 20) → Kp [B] H H' → Q v H'
theorem NmsAt.ne {H : Hp} {L B : Addr} {n : Nat} {ns : List Str} (h : NmsAt H L ns) (b : BagAt H B n) : L ≠ B := by
  obtain ⟨g, m, c, a, _⟩ := b
  rintro rfl
  unfold NmsAt at h
  rw [a] at h
  cases ns with
  | nil => cases h
  | cons x xs => cases h
theorem nm_shp {nm : Str} (h : NameOk nm) : Shp 0 (.str nm) := by
  refine shp_str ?_
  show Array.all _ _ = true
  rw [← Array.all_toList, List.all_eq_true]
  intro c hc
  have := h.2 c hc
  exact decide_eq_true (by omega)
theorem grow_in {r : Row} {ns : List Str} (h : GenRow r) (p : plain r = true) (c : isCall r = false) : GRow ns r := ⟨h, p, fun nm t e => by subst e; cases c⟩
section
variable {K : PySem.W.Frag} {σ : L2.St} {H : Hp} {ta tb te : TE} {tA : TA} {B : Addr} {n d d1 d2 : Nat} {P P' : PyData → Prop} {R R' : List PyData → Prop} {x : PyData} {ds : List PyData}
/-- all items of one kind -/
theorem bs_all {m : Nat} (ha : EvB K B ta σ H n d1 P) (hr : EvBs K B tA σ H (n + d1) d2 fun l => l.length = m ∧ ∀ x ∈ l, P x) : EvBs K B (tCons ta tA) σ H n (d1 + d2) (fun l => l.length = m + 1 ∧ ∀ x ∈ l, P x) := (bs_cons ha hr).imp fun l h => by
  obtain ⟨x, xs, rfl, p, hl, hx⟩ := h
  refine ⟨by simp [hl], fun y hy => ?_⟩
  rcases List.mem_cons.mp hy with rfl | hy
  · exact p
  · exact hx y hy
theorem bs_none : EvBs K B tNil σ H n 0 (fun l => l.length = 0 ∧ ∀ x ∈ l, P x) := bs_nil.imp fun l h => by subst h; exact ⟨rfl, fun x hx => by cases hx⟩
/-- an item of a list that stands -/
theorem d_at {p : Addr} {vs : List V} {i : Int} (ha : Ev ta σ H (.ref p)) (hp : H p = some (.lst vs)) (hl : DtL K H vs ds) (hb : EvD K tb σ H (.int i)) (he : atI ds i = some x) : EvD K (tOp (rIxL K) ta tb) σ H x := by
  obtain ⟨v, e, hv⟩ := hl.at he
  exact d_ixL ha (sq_of hp) hb e hv
/-- one of a written list, drawn -/
theorem b_pick {m : Nat} (ha : EvNB K B ta σ H n d1 fun l => l.length = m ∧ ∀ x ∈ l, P x) (hb : EvB K B tb σ H (n + d1) d2 (PI fun i => 0 ≤ i ∧ i < m)) : EvB K B (tOp (rIxL K) ta tb) σ H n (d1 + d2) P := fun H1 k b Q q =>
  ha H1 k b _ fun p vs xs H2 np nB ⟨hl, hx⟩ hp hv b2 k2 => hb H2 (k.trans k2) b2 _ fun u y H3 p3 hu b3 k3 => by
    obtain ⟨i, rfl, i1, i2⟩ := p3
    rw [hu.int_eq]
    have hv3 := hv.tk (b2.tk k3)
    have hp3 := k3 p _ (by simp; exact nB) hp
    obtain ⟨j, rfl⟩ := Int.eq_ofNat_of_zero_le i1
    have hj : j < xs.length := by omega
    have e : atI xs ((j : Nat) : Int) = some xs[j] := atI_nat' (by simp [hj])
    obtain ⟨v, ev, hvx⟩ := hv3.at e
    exact ⟨p, vs, _, v, rfl, rfl, sq_of hp3, ev, q v _ H3 (hx _ (List.getElem_mem hj)) hvx (by rw [← Nat.add_assoc]; exact b3) (k2.trans k3)⟩
/-- int(a test) -/
theorem b_int01 {A : Int → Prop} {j : Int} (ha : EvB K B ta σ H n d (PI A)) : EvB K B (tCB (fun xs H Q => (∃ i, xs = [V.int i] ∧ Q (.int i) H) ∨ ∃ k, xs = [V.bl k] ∧ Q (.int (if k then 1 else 0)) H) (tCons (tOp (rI0 fun i j => .bl (decide (i > j))) ta (tC (.int j))) tNil)) σ H n d (PI fun i => 0 ≤ i ∧ i < (2 : Nat)) := fun H1 k b Q q =>
  ha H1 k b _ fun v x H2 p hv b2 k2 => by
    obtain ⟨i, rfl, hi⟩ := p
    rw [hv.int_eq]
    refine ⟨i, j, rfl, rfl, .inr ⟨_, rfl, ?_⟩⟩
    exact q _ _ H2 ⟨_, rfl, by split <;> omega, by split <;> omega⟩ (.int _) b2 k2
end
section
variable {K : PySem.W.Frag} {σ : L2.St} {H : Hp} {ta tb te : TE} {tu tz : TS} {t : TT} {D : Ends} {tA : TA} {B : Addr} {n d d1 d2 : Nat} {P P' : PyData → Prop} {R R' : List PyData → Prop} {x : PyData} {ds : List PyData} {ns : List Str}
theorem EvNB.le (h : EvNB K B te σ H n d R) {d' : Nat} (l : d ≤ d') : EvNB K B te σ H n d' R := fun H1 k b Q q => h H1 k b Q fun p vs xs H2 a c r e f hb => q p vs xs H2 a c r e f (hb.mono (by omega))
theorem b_str1 {s : Str} : EvB K B (tTup (tCons (tC (.str s)) tNil)) σ H n 0 (PT fun xs => xs = [.str s]) := b_pure (x := .tuple [.str s]) (fun _ _ _ => d_tup (ds_cons d_str ds_nil) (by show 1 ≤ 100000; decide)) ⟨_, rfl, rfl⟩
theorem b_word {s : Str} {r : Row} (e : rowD r = .tuple [.str s]) (g : GRow ns r) : EvB K B (tTup (tCons (tC (.str s)) tNil)) σ H n 0 (PRow ns) := b_pure (x := .tuple [.str s]) (fun _ _ _ => d_tup (ds_cons d_str ds_nil) (by show 1 ≤ 100000; decide)) ⟨r, e.symm, g⟩
theorem b_frame {E : XK} (ha : ∀ H, Ev ta σ H (.ref B)) (hn : n ≤ 30000) : EvB K B (tCall (spFrame K) [] E (tCons ta tNil)) σ H n 3 (fun x => ∃ f, x = frD f ∧ GenF f) := fun H1 k b Q q =>
  (ea_cons (ha H1) ea_nil) H1 (Ex.refl H1) _ fun H2 e2 => ⟨B, n, rfl, b.ex e2, hn, fun f v H' g hv b' k' => q v _ H' ⟨f, rfl, g⟩ hv b' ((Kp.ex e2).trans k')⟩
/-- a drawn place of a list that stands -/
theorem b_pickS {p : Addr} {vs : List V} (ha : ∀ H, Ev ta σ H (.ref p)) (hB : BagAt H B n) (hp : H p = some (.lst vs)) (hl : DtL K H vs ds) (np : p ≠ B) (hb : EvB K B tb σ H n d (PI fun i => 0 ≤ i ∧ i < (ds.length : Int))) : EvB K B (tOp (rIxL K) ta tb) σ H n d (fun x => x ∈ ds) := fun H1 k b Q q =>
  ha H1 H1 (Ex.refl _) _ fun H2 e2 => hb H2 (k.trans (Kp.ex e2)) (b.ex e2) _ fun u y H3 p3 hu b3 k3 => by
    obtain ⟨i, rfl, i1, i2⟩ := p3
    rw [hu.int_eq]
    have kH := (k.trans (Kp.ex e2)).trans k3
    have hl3 := hl.tk (hB.tk kH)
    have hp3 := kH p _ (by simp; exact np) hp
    obtain ⟨j, rfl⟩ := Int.eq_ofNat_of_zero_le i1
    have hj : j < ds.length := by omega
    have e : atI ds ((j : Nat) : Int) = some ds[j] := atI_nat' (by simp [hj])
    obtain ⟨v, ev, hvx⟩ := hl3.at e
    exact ⟨p, vs, _, v, rfl, rfl, sq_of hp3, ev, q v _ H3 (List.getElem_mem hj) hvx b3 ((Kp.ex e2).trans k3)⟩
/-- a list of names beside no names -/
theorem eqv_strs (xs : List Str) : PyData.eqv (.list (xs.map .str)) (.list []) = decide (xs = []) := by
  cases xs with
  | nil => simp [PyData.eqv, PyData.eqvAll]
  | cons f fs => simp [PyData.eqv, PyData.eqvAll]
theorem t_some {L : Addr} (ha : Ev ta σ H (.ref L)) (hL : NmsAt H L ns) (hn : ∀ nm ∈ ns, NameOk nm) : EvT (tTest (tOp (rNeD K) ta (tLst tNil))) σ H (!decide (ns = [])) := fun H1 e1 Q q => ha H1 e1 _ fun H2 e2 => ⟨Nat.zero_le _, fun p hp => by
  have hL2 := (e1.trans e2) _ _ hL
  have s1 : SeqAt.shaped (.list (ns.map PyData.str)) = true := (shp_lst (n := 0) fun d hd => by
    obtain ⟨x, hx, rfl⟩ := List.mem_map.mp hd
    exact nm_shp (hn x hx)).shaped (by decide)
  have s2 : SeqAt.shaped (.list []) = true := (shp_lst (n := 0) fun d hd => by cases hd).shaped (by decide)
  have eN : Ex H2 (upd H2 p (.lst [])) := Ex.new hp
  refine ⟨.list (ns.map .str), .list [], .lst (sq_of (eN _ _ hL2)) (dtl_strs ns).dp, .lst (sq_of upd_same) .nil, s1, s2, ?_⟩
  rw [eqv_strs]
  exact ⟨_, rfl, q _ (e2.trans eN)⟩⟩
/-- an if whose end is one word -/
theorem q_ifM {b : Bool} {M : L2.St → Hp → Prop} (h : EvT t σ H b) (hm : ∀ σ' H', M σ' H' → tz D σ' H') (h1 : b = true → ∀ H1, Ex H H1 → (∀ σ' H', M σ' H' → tz D σ' H') → tu { D with nx := tz D } σ H1) (h2 : b = false → ∀ H1, Ex H H1 → M σ H1) : tSeq (tIfS t tu tNext) tz D σ H :=
  q_when h (fun hb H1 e1 => h1 hb H1 e1 hm) fun hb H1 e1 => hm _ _ (h2 hb H1 e1)
theorem s_asgNB {i : Nat} (h : EvNB K B te σ H n d R) (hB : BagAt H B n) (k : ∀ p vs xs H1, H p = none → p ≠ B → R xs → H1 p = some (.lst vs) → DtL K H1 vs xs → BagAt H1 B (n + d) → Kp [B] H H1 → D.nx (σ.set i (some (.ref p))) H1) :
    tAsg te (gName i) D σ H := h H (Kp.refl _ _) hB _ fun p vs xs H1 a b c d e f g => k p vs xs H1 a b c d e f g
theorem s_retB (h : EvB K B te σ H n d P) (hB : BagAt H B n) (k : ∀ v x H1, P x → Dt K H1 v x → BagAt H1 B (n + d) → Kp [B] H H1 → D.rt v H1) : tRet te D σ H := h H (Kp.refl _ _) hB _ fun v x H1 a b c d => k v x H1 a b c d
theorem gen_a1 {a : Int} (h1 : 1 ≤ a) (h2 : a ≤ 9) : GenN (a, 1) := ⟨⟨by show (0 : Int) < 1; decide, by simp⟩, by show a.natAbs ≤ 9; omega, .inl rfl⟩
end
theorem low_key : ∀ t : Fin 19, GenN (rat ((t.val : Int) - 9) 1) ∧ GenN (rat ((t.val : Int) - 9) 11) := by
  unfold GenN Low
  decide +kernel
def lowD : PyData → PyData
  | .tuple [.int a, .int b] => nD (rat a b)
  | d => d
section
variable {w : World} {K : PySem.W.Frag} {mg : Str → Option Value} {base : Heap}
theorem sc_row : FnScope ["_law_bag_here", "_law_names_here", "_law_numbers", "_law_parts", "_law_ahead", "_law_some", "_law_k", "_law_u"] ["_law_bag_here", "_law_names_here"] (defScope Kd.s__law_row) := ⟨rfl, rfl, rfl, by decide +kernel, rfl, by decide +kernel, by decide +kernel⟩
theorem ok_rowL (T : Tx w K mg) : Ok Pg w K mg base CX0 37 (He.ga K "_law_row") ["_law_bag_here", "_law_names_here"] (spRowL K) := by
  refine ok_of T.f__law_row sc_row (fun vs H Q E h => by obtain ⟨_, _, _, _, rfl, _⟩ := h; rfl) (fun _ _ _ _ _ _ us hl => match us, hl with | [_, _], _ => rfl) fun cdv A outer s0 H vs Q E hr h => ?_
  refine ⟨_, PSs.nox (pss_cons (ps_set (i := 2) sc_row.nd rfl (Or.inr rfl) (pe_lc  (own := [("_law_k", 6)]) (g := gName 6) (tt := tYes) (by rfl) sc_row.nd (pi_range1 rfl T.b_range (pa_cons pe_int pa_nil)) (blkOk_by (own := [("_law_k", 6)]) (N := ["_law_bag_here", "_law_names_here", "_law_numbers", "_law_parts", "_law_ahead", "_law_some", "_law_k", "_law_u"]) (sc := defScope Kd.s__law_row) (by decide +kernel)) (fun _ _ _ _ _ => pg_name (i := 6) sc_row.nd rfl (Or.inl rfl)) (fun _ _ _ _ _ => pts_nil) (fun _ _ _ _ _ => (pe_tup (pa_cons (pe_op op_sub (pe_fn (E := E) (ok_take T) (hr.mono (by decide)) T.g__law_take pass0 (pa_cons (pv 0) (pa_cons pe_int pa_nil))) pe_int) (pa_cons (pe_op op_add pe_int (pe_op op_mul (pe_fn (E := E) (ok_take T) (hr.mono (by decide)) T.g__law_take pass0 (pa_cons (pv 0) (pa_cons pe_int pa_nil))) pe_int)) pa_nil))))))
    (pss_cons (ps_set (i := 2) sc_row.nd rfl (Or.inr rfl) (pe_lc (te := tCall (spP K fRatio) [] E (tCons (tOp (rIxT K) (tVar 7) (tC (.int 0))) (tCons (tOp (rIxT K) (tVar 7) (tC (.int 1))) tNil))) (own := [("_law_u", 7)]) (g := gName 7) (tt := tYes) (by rfl) sc_row.nd (pi_list (pv 2)) (blkOk_by (own := [("_law_u", 7)]) (N := ["_law_bag_here", "_law_names_here", "_law_numbers", "_law_parts", "_law_ahead", "_law_some", "_law_k", "_law_u"]) (sc := defScope Kd.s__law_row) (by decide +kernel)) (fun _ _ _ _ _ => pg_name (i := 7) sc_row.nd rfl (Or.inl rfl)) (fun _ _ _ _ _ => pts_nil) (fun _ _ _ _ _ => (pe_fn (E := E) (ok__law_low T) (hr.mono (by decide)) T.g__law_low pass0 (pa_cons (px (pv 7)) (pa_cons (px (pv 7)) pa_nil))))))
    (pss_cons (ps_setLc (te := tOp (rIxL K) (tLst (tCons (tC .non) (tCons (tOp (rIxL K) (tVar 2) (tVar 6)) tNil))) (tCB (fun xs H Q => (∃ i, xs = [V.int i] ∧ Q (.int i) H) ∨ ∃ k, xs = [V.bl k] ∧ Q (.int (if k then 1 else 0)) H) (tCons (tOp (rI0 fun i j => .bl (decide (i > j))) (tCall (spTake K) [] E (tCons (tVar 0) (tCons (tC (.int 3)) tNil))) (tC (.int 0))) tNil))) (i := 3) (own := [("_law_k", 6)]) (g := gName 6) (tt := tYes) (by rfl) sc_row.nd rfl rfl (sw_true rfl rfl rfl (by decide +kernel)) (pi_range1 rfl T.b_range (pa_cons pe_int pa_nil)) (blkOk_by (own := [("_law_k", 6)]) (N := ["_law_bag_here", "_law_names_here", "_law_numbers", "_law_parts", "_law_ahead", "_law_some", "_law_k", "_law_u"]) (sc := defScope Kd.s__law_row) (by decide +kernel)) (fun _ _ _ _ _ => pg_name (i := 6) sc_row.nd rfl (Or.inl rfl)) (fun _ _ _ _ _ => pts_nil) (fun _ _ _ _ _ => (pe_ix ix_list (pe_lst (pa_cons pe_non (pa_cons (pe_ix ix_list (pv 2) (pv 6) fun _ _ => rfl) pa_nil))) (pe_callTy call_int1 (by rfl) T.b_int PyProof.Rows.boot_int (pa_cons (pe_cmpR op_gt (pe_fn (E := E) (ok_take T) (hr.mono (by decide)) T.g__law_take pass0 (pa_cons (pv 0) (pa_cons pe_int pa_nil))) pe_int (nomark _)) pa_nil)) fun _ _ => rfl)))
    (pss_cons (ps_set (i := 4) sc_row.nd rfl (Or.inl rfl) (pe_tup (pa_cons (pe_op op_add pe_int (pe_fn (E := E) (ok_take T) (hr.mono (by decide)) T.g__law_take pass0 (pa_cons (pv 0) (pa_cons pe_int pa_nil)))) (pa_cons pe_int pa_nil))))
    (pss_cons (ps_set (i := 5) sc_row.nd rfl (Or.inl rfl) (pe_lst (pa_cons (pe_tup (pa_cons pe_str (pa_cons (pe_ix ix_list (pv 3) pe_int fun _ _ => rfl) (pa_cons (pe_ix ix_list (pv 3) pe_int fun _ _ => rfl) pa_nil)))) (pa_cons (pe_op op_catA (pe_op op_catA (pe_tup (pa_cons pe_str pa_nil)) (pe_fn (E := E) (ok_both T) (hr.mono (by decide)) T.g__law_both pass0 (pa_cons (pv 0) (pa_cons pe_int pa_nil)))) (pe_tup (pa_cons (pv 4) pa_nil))) (pa_cons (pe_tup (pa_cons pe_str (pa_cons (pe_tup (pa_cons pe_int (pa_cons pe_int pa_nil))) (pa_cons (pe_tup (pa_cons pe_int (pa_cons pe_int pa_nil))) pa_nil)))) (pa_cons (pe_tup (pa_cons pe_str pa_nil)) pa_nil))))))
    (pss_cons (ps_set (i := 5) sc_row.nd rfl (Or.inl rfl) (pe_op op_cat (pv 5) (pe_lst (pa_cons (pe_tup (pa_cons pe_str (pa_cons pe_non (pa_cons (pe_ix ix_list (pv 2) pe_int fun _ _ => rfl) pa_nil)))) (pa_cons (pe_op op_catA (pe_tup (pa_cons (pe_ix ix_list (pe_lst (pa_cons pe_str (pa_cons pe_str pa_nil))) (pe_fn (E := E) (ok_take T) (hr.mono (by decide)) T.g__law_take pass0 (pa_cons (pv 0) (pa_cons pe_int pa_nil))) fun _ _ => rfl) (pa_cons pe_non (pa_cons (pv 4) pa_nil)))) (pe_fn (E := E) (ok_both T) (hr.mono (by decide)) T.g__law_both pass0 (pa_cons (pv 0) (pa_cons pe_int pa_nil)))) pa_nil)))))
    (pss_cons (ps_set (i := 5) sc_row.nd rfl (Or.inl rfl) (pe_op op_cat (pv 5) (pe_lst (pa_cons (pe_tup (pa_cons pe_str (pa_cons (pe_ix ix_list (pv 2) pe_int fun _ _ => rfl) pa_nil))) (pa_cons (pe_tup (pa_cons pe_str (pa_cons (pe_fn (E := E) (ok_take T) (hr.mono (by decide)) T.g__law_take pass0 (pa_cons (pv 0) (pa_cons pe_int pa_nil))) pa_nil))) (pa_cons (pe_tup (pa_cons pe_str pa_nil)) (pa_cons (pe_tup (pa_cons pe_str pa_nil)) (pa_cons (pe_tup (pa_cons pe_str pa_nil)) (pa_cons (pe_fn (E := E) (ok_frameL T) (hr.mono (by decide)) T.g__law_frame pass0 (pa_cons (pv 0) pa_nil)) pa_nil)))))))))
    (pss_cons (ps_if (pt_cmpR (op_neD hr.units) (pv 1) (pe_lst pa_nil) (nomark _)) (pss_one (ps_set (i := 5) sc_row.nd rfl (Or.inl rfl) (pe_op op_cat (pv 5) (pe_lst (pa_cons (pe_tup (pa_cons pe_str (pa_cons (pe_ix ix_list (pv 1) (pe_fn (E := E) (ok_take T) (hr.mono (by decide)) T.g__law_take pass0 (pa_cons (pv 0) (pa_cons (pe_callB call_len_seq (by rfl) T.b_len PySem.boot_len (pa_cons (pv 1) pa_nil)) pa_nil))) fun _ _ => rfl) (pa_cons (pe_op op_add pe_int (pe_fn (E := E) (ok_take T) (hr.mono (by decide)) T.g__law_take pass0 (pa_cons (pv 0) (pa_cons pe_int pa_nil)))) pa_nil)))) pa_nil))))) pss_nil)
    (pss_one (ps_ret (pe_ix ix_list (pv 5) (pe_fn (E := E) (ok_take T) (hr.mono (by decide)) T.g__law_take pass0 (pa_cons (pv 0) (pa_cons (pe_callB call_len_seq (by rfl) T.b_len PySem.boot_len (pa_cons (pv 5) pa_nil)) pa_nil))) fun _ _ => rfl))))))))))), ?_⟩
  obtain ⟨B, L, n, ns, rfl, hB, hn, hL, hns, hnm, hk⟩ := h
  have nL := hL.ne hB
  have low : ∀ {a b : Int}, 0 ≤ a → a < 19 → 0 ≤ b → b < 2 → GenN (rat (a - 9) (1 + b * 10)) := fun {a b} h1 h2 h3 h4 => by
    have e : b = 0 ∨ b = 1 := by omega
    obtain ⟨t, rfl⟩ := Int.eq_ofNat_of_zero_le h1
    have k := low_key ⟨t, by omega⟩
    rcases e with rfl | rfl
    · exact k.1
    · exact k.2
  -- numbers, as pairs
  refine q_asgNB (K := K) (B := B) (n := n) (d := 2 * 2) (R := fun ds => ds.length = 2 ∧ ∀ x ∈ ds, ∃ a b, x = .tuple [.int a, .int b] ∧ 0 < b ∧ GenN (rat a b)) (nb_lcR (m := 2) (d := 2) (by decide) (fun x => rfl) fun i hi => ?_) hB fun p1 vs1 xs1 H1 np1 nB1 ⟨l1, a1⟩ h1 d1 b1 k1 => ?_
  · refine EvB.le (EvB.imp (b_tup (bs_cons (b_ii (D := fun a => ∃ t : Int, (0 ≤ t ∧ t < 19) ∧ a = t - 9) (b_take (fun _ => ev_var rfl) (fun _ _ => d_int) (by omega) (by decide) (by decide)) (b_int (A := fun j => j = 9) rfl) fun i j hi hj => ⟨i, hi, by rw [hj]⟩) (bs_cons (b_ii (D := fun a => ∃ t : Int, (0 ≤ t ∧ t < 2) ∧ a = 1 + t * 10) (b_int (A := fun j => j = 1) rfl) (b_iC (D := fun a => ∃ t : Int, (0 ≤ t ∧ t < 2) ∧ a = t * 10) (b_take (fun _ => ev_var rfl) (fun _ _ => d_int) (by omega) (by decide) (by decide)) (b_int (A := fun j => j = 10) rfl) (fun i j hi hj => .inl ⟨by omega, by omega⟩) fun i j hi hj => ⟨i, hi, by rw [hj]⟩) fun i j hi ⟨t, ht, e⟩ => ⟨t, ht, by rw [hi, e]⟩) bs_nil)) fun xs h => ?_) fun x h => ?_) (by decide)
    · obtain ⟨_, _, rfl, _, _, _, rfl, _, rfl⟩ := h
      show 2 ≤ 100000; decide
    · obtain ⟨_, rfl, _, _, rfl, ⟨_, rfl, t, ht, rfl⟩, _, _, rfl, ⟨_, rfl, u, hu, rfl⟩, rfl⟩ := h
      exact ⟨_, _, rfl, by omega, low ht.1 ht.2 hu.1 hu.2⟩
  have L1 : NmsAt H1 L ns := k1 L _ (by simp; exact nL) hL
  -- in lowest terms
  refine q_asgN (K := K) (n_lcK (K := K) (ds := xs1) (f := fun _ => true) (g := lowD) (ev_var rfl) (sq_of h1) d1 (by omega) (fun x => rfl) (fun x d H2 e2 hm hx => t_yes) fun x d H2 e2 hm hx _ => ?_) fun p2 vs2 H2 hp2 e2 h2 d2 => ?_
  · obtain ⟨a, b, rfl, hb, _⟩ := a1 d hm
    exact d_call (ds_cons (d_ix (d_var hx rfl) d_int rfl) (ds_cons (d_ix (d_var hx rfl) d_int rfl) ds_nil)) ⟨a, b, rfl, hb, rfl⟩
  rw [List.filter_eq_self.mpr fun _ _ => rfl] at d2
  obtain ⟨u0, u1, g0, g1, ex1⟩ : ∃ u0 u1, GenN u0 ∧ GenN u1 ∧ xs1.map lowD = [nD u0, nD u1] := by
    match xs1, l1 with
    | [y0, y1], _ =>
      obtain ⟨a, b, rfl, _, hg⟩ := a1 y0 (by simp)
      obtain ⟨a', b', rfl, _, hg'⟩ := a1 y1 (by simp)
      exact ⟨_, _, hg, hg', rfl⟩
  rw [ex1] at d2
  have b2 := b1.ex e2
  have L2' : NmsAt H2 L ns := e2 _ _ L1
  have n2 : p2 ≠ B := b1.ne hp2
  have k2 := k1.trans (Kp.ex e2)
  clear h1 d1 a1 l1 b1 ex1
  -- parts
  refine q_asgNB (K := K) (B := B) (n := n + 2 * 2) (d := 1 * 2) (R := fun ds => ds.length = 2 ∧ ∀ x ∈ ds, ∃ z, x = oD z ∧ GenX z) (nb_lcR (m := 2) (d := 1) (by decide) (fun x => rfl) fun i hi => ?_) b2 fun p3 vs3 xs3 H3 np3 n3 ⟨l3, a3⟩ h3 d3 b3 k3 => ?_
  · obtain ⟨x, hx, hP⟩ : ∃ x, atI [nD u0, nD u1] ((0 : Int) + (i : Nat)) = some x ∧ ∃ z, x = oD z ∧ GenX z := by
      have : i = 0 ∨ i = 1 := by omega
      rcases this with rfl | rfl
      · exact ⟨_, rfl, some u0, rfl, fun u e => by cases e; exact g0⟩
      · exact ⟨_, rfl, some u1, rfl, fun u e => by cases e; exact g1⟩
    refine EvB.le (b_pick (m := 2) (d1 := 0 + (0 + 0)) (d2 := 1) (nb_lst (bs_all (b_pure (fun _ _ _ => d_non) ⟨none, rfl, fun u e => by cases e⟩) (bs_all (m := 0) (b_pure (fun H' k' b' => d_at (ev_var rfl) (k' p2 _ (by simp; exact n2) h2) (d2.tk (b2.tk k')) (d_vint rfl) hx) hP) bs_none)) fun xs h => by rw [h.1]; decide) (b_int01 (b_take (fun _ => ev_var rfl) (fun _ _ => d_int) (by omega) (by decide) (by decide)))) (by decide)
  have L3 : NmsAt H3 L ns := k3 L _ (by simp; exact nL) L2'
  have h2' := k3 p2 _ (by simp; exact n2) h2
  have d2' := d2.tk (b2.tk k3)
  clear h2 d2 L2'
  obtain ⟨z0, z1, gz0, gz1, rfl⟩ : ∃ z0 z1, GenX z0 ∧ GenX z1 ∧ xs3 = [oD z0, oD z1] := by
    match xs3, l3 with
    | [y0, y1], _ =>
      obtain ⟨a, rfl, hg⟩ := a3 y0 (by simp)
      obtain ⟨b, rfl, hg'⟩ := a3 y1 (by simp)
      exact ⟨_, _, hg, hg', rfl⟩
  clear a3 l3
  -- ahead
  refine q_asgB (K := K) (B := B) (n := n + 2 * 2 + 1 * 2) (d := 1) (P := fun x => ∃ a : Int, x = nD (a, 1) ∧ 1 ≤ a ∧ a ≤ 9) (EvB.le (EvB.imp (b_tup (bs_cons (b_ii (D := fun a : Int => 1 ≤ a ∧ a ≤ 9) (b_int (A := fun j => j = 1) rfl) (b_take (fun _ => ev_var rfl) (fun _ _ => d_int) (by omega) (by decide) (by decide)) fun i j hi hj => ⟨by omega, by omega⟩) (bs_cons (b_int (A := fun j => j = 1) rfl) bs_nil)) fun xs h => ?_) fun x h => ?_) (by decide)) b3 fun va xa H4 ⟨a, ea, ha1, ha2⟩ dva b4 k4 => ?_
  · obtain ⟨_, _, rfl, _, _, _, rfl, _, rfl⟩ := h
    show 2 ≤ 100000; decide
  · obtain ⟨_, rfl, _, _, rfl, ⟨a, rfl, ha⟩, _, _, rfl, ⟨_, rfl, rfl⟩, rfl⟩ := h
    exact ⟨a, rfl, ha⟩
  subst ea
  have L4 : NmsAt H4 L ns := k4 L _ (by simp; exact nL) L3
  have h2 := k4 p2 _ (by simp; exact n2) h2'
  have d2 := d2'.tk (b3.tk k4)
  have h3' := k4 p3 _ (by simp; exact n3) h3
  have d3' := d3.tk (b3.tk k4)
  clear h2' d2' L3 h3 d3
  have k14 := (k2.trans k3).trans k4
  -- from here on the three stand
  have num : ∀ {σ : L2.St} {H' : Hp}, σ[2]? = some (some (.ref p2)) → Kp [B] H4 H' → EvD K (tOp (rIxL K) (tVar 2) (tC (.int 0))) σ H' (nD u0) := fun h k => d_at (ev_var h) (k p2 _ (by simp; exact n2) h2) (d2.tk (b4.tk k)) d_int rfl
  have par0 : ∀ {σ : L2.St} {H' : Hp}, σ[3]? = some (some (.ref p3)) → Kp [B] H4 H' → EvD K (tOp (rIxL K) (tVar 3) (tC (.int 0))) σ H' (oD z0) := fun h k => d_at (ev_var h) (k p3 _ (by simp; exact n3) h3') (d3'.tk (b4.tk k)) d_int rfl
  have par1 : ∀ {σ : L2.St} {H' : Hp}, σ[3]? = some (some (.ref p3)) → Kp [B] H4 H' → EvD K (tOp (rIxL K) (tVar 3) (tC (.int 1))) σ H' (oD z1) := fun h k => d_at (ev_var h) (k p3 _ (by simp; exact n3) h3') (d3'.tk (b4.tk k)) d_int rfl
  have ahd : ∀ {σ : L2.St} {H' : Hp}, σ[4]? = some (some va) → Kp [B] H4 H' → EvD K (tVar 4) σ H' (nD (a, 1)) := fun h k => d_var (dva.tk (b4.tk k)) h
  clear k1 k2 k3
  have le3 : ∀ {l : List PyData} {m : Nat}, l.length = m → m ≤ 20 → l.length ≤ 100000 := fun h h' => by omega
  -- four
  refine q_asgNB (K := K) (B := B) (n := n + 2 * 2 + 1 * 2 + 1) (d := 2) (R := fun l => l.length = 4 ∧ ∀ x ∈ l, PRow ns x) (EvNB.le (nb_lst (bs_all (b_pure (x := rowD (.hop z0 z1)) (fun H' k' _ => d_tup (ds_cons d_str (ds_cons (par0 rfl k') (ds_cons (par1 rfl k') ds_nil))) (by show 3 ≤ 100000; decide)) ⟨_, rfl, grow_in ⟨gz0, gz1⟩ rfl rfl⟩)
    (bs_all (EvB.imp (b_cat (b_cat b_str1 (b_both (fun _ => ev_var rfl) (by omega)) ?z1) (b_tup (bs_cons (b_pure (P := fun x => x = nD (a, 1)) (fun H' k' _ => ahd rfl k') rfl) bs_nil) ?z2) ?z3) ?z4)
    (bs_all (b_pure (x := rowD (.cut (some (3, 1)) (some (4, 1)))) (fun H' k' _ => d_tup (ds_cons d_str (ds_cons (d_tup2 (ds_cons d_int (ds_cons d_int ds_nil))) (ds_cons (d_tup2 (ds_cons d_int (ds_cons d_int ds_nil))) ds_nil))) (by show 3 ≤ 100000; decide)) ⟨_, rfl, grow_in ⟨fun u e => (by cases e; exact gen_a1 (by decide) (by decide)), fun u e => by cases e; exact gen_a1 (by decide) (by decide)⟩ rfl rfl⟩)
    (bs_all (b_word (r := .back) rfl (grow_in trivial rfl rfl)) bs_none)))) (fun xs h => le3 h.1 (by decide))) (by decide)) b4 fun p5 vs5 xs5 H5 np5 n5 ⟨l5, a5⟩ h5 d5 b5 k5 => ?_
  case z1 =>
    rintro xs ys rfl ⟨p, q, rfl, _⟩
    show 1 + 2 ≤ 100000; decide
  case z2 =>
    rintro xs ⟨_, _, rfl, _, rfl⟩
    show 1 ≤ 100000; decide
  case z3 =>
    rintro xs ys ⟨_, _, rfl, rfl, p, q, rfl, _⟩ ⟨_, _, rfl, _, rfl⟩
    show 3 + 1 ≤ 100000; decide
  case z4 =>
    rintro x ⟨_, rfl, _, _, rfl, ⟨_, _, rfl, rfl, p, q, rfl, hg⟩, _, _, rfl, rfl, rfl⟩
    exact ⟨.run p q (a, 1), rfl, grow_in ⟨hg, rfl, ha1, ha2⟩ rfl rfl⟩
  -- two more
  refine q_asgNB (K := K) (B := B) (n := n + 2 * 2 + 1 * 2 + 1 + 2) (d := 3) (R := fun l => l.length = 6 ∧ ∀ x ∈ l, PRow ns x) (EvNB.le (EvNB.imp (nb_cat (fun _ => ev_var rfl) b5 h5 d5 n5 (nb_lst (R := fun l => l.length = 2 ∧ ∀ x ∈ l, PRow ns x) (bs_all (b_pure (x := rowD (.cut none (some u0))) (fun H' k' _ => d_tup (ds_cons d_str (ds_cons d_non (ds_cons (num rfl (k5.trans k')) ds_nil))) (by show 3 ≤ 100000; decide)) ⟨_, rfl, grow_in ⟨fun u e => (by cases e), fun u e => by cases e; exact g0⟩ rfl rfl⟩)
    (bs_all (EvB.imp (b_cat (b_tup (bs_cons (b_pick (m := 2) (d1 := 0 + (0 + 0)) (P := fun x => ∃ lf : Bool, x = .str (if lf = true then "left" else "right")) (nb_lst (bs_all (b_pure (fun _ _ _ => d_str) ⟨true, rfl⟩) (bs_all (m := 0) (b_pure (fun _ _ _ => d_str) ⟨false, rfl⟩) bs_none)) fun xs h => le3 h.1 (by decide)) (b_take (fun _ => ev_var rfl) (fun _ _ => d_int) (by omega) (by decide) (by decide))) (bs_cons (b_pure (P := fun x => x = .none) (fun _ _ _ => d_non) rfl) (bs_cons (b_pure (P := fun x => x = nD (a, 1)) (fun H' k' _ => ahd rfl (k5.trans k')) rfl) bs_nil))) ?y1) (b_both (fun _ => ev_var rfl) (by omega)) ?y2) ?y3) bs_none)) (fun xs h => le3 h.1 (by decide))) ?y4) ?y5) (by decide)) b5 fun p6 vs6 xs6 H6 np6 n6 ⟨l6, a6⟩ h6 d6 b6 k6 => ?_
  case y1 =>
    rintro xs ⟨_, _, rfl, _, _, _, rfl, _, _, _, rfl, _, rfl⟩
    show 3 ≤ 100000; decide
  case y2 =>
    rintro xs ys ⟨_, _, rfl, _, _, _, rfl, _, _, _, rfl, _, rfl⟩ ⟨p, q, rfl, _⟩
    show 3 + 2 ≤ 100000; decide
  case y3 =>
    rintro x ⟨_, rfl, _, _, rfl, ⟨_, _, rfl, ⟨lf, rfl⟩, _, _, rfl, rfl, _, _, rfl, rfl, rfl⟩, p, q, rfl, hg⟩
    refine ⟨.arc lf none (some (a, 1)) p q, by cases lf <;> rfl, grow_in ⟨⟨fun u e => (by cases e), fun u e => by cases e; exact gen_a1 ha1 ha2⟩, hg⟩ rfl rfl⟩
  case y4 =>
    rintro ys ⟨h, _⟩
    omega
  case y5 =>
    rintro l ⟨ys, rfl, h, hy⟩
    refine ⟨by simp [l5, h], fun x hx => ?_⟩
    rcases List.mem_append.mp hx with hx | hx
    · exact a5 x hx
    · exact hy x hx
  have k46 := k5.trans k6
  -- six more
  refine q_asgNB (K := K) (B := B) (n := n + 2 * 2 + 1 * 2 + 1 + 2 + 3) (d := 4) (R := fun l => l.length = 12 ∧ ∀ x ∈ l, PRow ns x) (EvNB.le (EvNB.imp (nb_cat (fun _ => ev_var rfl) b6 h6 d6 n6 (nb_lst (R := fun l => l.length = 6 ∧ ∀ x ∈ l, PRow ns x) (bs_all (b_pure (x := rowD (.side u0)) (fun H' k' _ => d_tup2 (ds_cons d_str (ds_cons (num rfl (k46.trans k')) ds_nil))) ⟨_, rfl, grow_in g0 rfl rfl⟩)
    (bs_all (EvB.imp (b_tup (bs_cons (b_pure (P := fun x => x = .str "pace") (fun _ _ _ => d_str) rfl) (bs_cons (b_take (fun _ => ev_var rfl) (fun _ _ => d_int) (by omega) (by decide) (by decide)) bs_nil)) ?x1) ?x2)
    (bs_all (b_word (r := .mode true) rfl (grow_in trivial rfl rfl)) (bs_all (b_word (r := .mode true) rfl (grow_in trivial rfl rfl)) (bs_all (b_word (r := .mode false) rfl (grow_in trivial rfl rfl)) (bs_all (EvB.imp (b_frame (fun _ => ev_var rfl) (by omega)) ?x3) bs_none)))))) (fun xs h => le3 h.1 (by decide))) ?x4) ?x5) (by decide)) b6 fun p7 vs7 xs7 H7 np7 n7 ⟨l7, a7⟩ h7 d7 b7 k7 => ?_
  case x1 =>
    rintro xs ⟨_, _, rfl, _, _, _, rfl, _, rfl⟩
    show 2 ≤ 100000; decide
  case x2 =>
    rintro x ⟨_, rfl, _, _, rfl, rfl, _, _, rfl, ⟨i, rfl, hi⟩, rfl⟩
    exact ⟨.pace i, rfl, grow_in ⟨hi.1, by omega⟩ rfl rfl⟩
  case x3 =>
    rintro x ⟨f, rfl, hf⟩
    exact ⟨.frame f, (rowD_frame f).symm, grow_in hf rfl rfl⟩
  case x4 =>
    rintro ys ⟨h, _⟩
    omega
  case x5 =>
    rintro l ⟨ys, rfl, h, hy⟩
    refine ⟨by simp [l6, h], fun x hx => ?_⟩
    rcases List.mem_append.mp hx with hx | hx
    · exact a6 x hx
    · exact hy x hx
  have k47 := k46.trans k7
  have L7 : NmsAt H7 L ns := k47 L _ (by simp; exact nL) L4
  have kk := k14.trans k47
  clear par0 par1 num ahd h2 d2 h3' d3' h5 d5 h6 d6 a5 a6 l5 l6
  -- a call, where there are names
  refine q_ifM (t_some (ev_var rfl) L7 hnm) (M := fun σ' H' => ∃ p vs xs m, σ' = [some (.ref B), some (.ref L), some (.ref p2), some (.ref p3), some va, some (.ref p), none, none] ∧ p ≠ B ∧ xs.length = m ∧ (1 ≤ m ∧ m ≤ 13) ∧ (∀ x ∈ xs, PRow ns x) ∧ H' p = some (.lst vs) ∧ DtL K H' vs xs ∧ BagAt H' B (n + 18) ∧ Kp [B] H H') ?_ (fun hb H8 e8 hm => ?_) fun hb H8 e8 => ?_
  · rintro σ' H8 ⟨p, vs, xs, m, rfl, np, hl, ⟨hm1, hm2⟩, hx, hp, hd, hb, hk8⟩
    refine s_retB (K := K) (B := B) (n := n + 18) (d := 1) (b_pickS (fun _ => ev_var rfl) hb hp hd np (b_take (fun _ => ev_var rfl) (fun H9 k9 => d_lenK (ev_var rfl) (sq_of (k9 p _ (by simp; exact np) hp)) hd.len) (by omega) (by omega) (by omega))) hb fun v x H9 hx9 hv9 b9 k9 => ?_
    obtain ⟨r, rfl, hg⟩ := hx x hx9
    exact hk v r H9 hg hv9 (b9.mono (by omega)) (hk8.trans k9)
  · have L8 : NmsAt H8 L ns := e8 _ _ L7
    have dn : DtL K H8 (ns.map V.str) (ns.map PyData.str) := dtl_strs ns
    have lm : (ns.map PyData.str).length = ns.length := List.length_map ..
    have hne : ns ≠ [] := fun z => by subst z; simp at hb
    have hpos : 1 ≤ ns.length := List.length_pos_iff.mpr hne
    refine s_asgNB (K := K) (B := B) (n := n + 2 * 2 + 1 * 2 + 1 + 2 + 3 + 4) (d := 2) (R := fun l => l.length = 13 ∧ ∀ x ∈ l, PRow ns x) (EvNB.le (EvNB.imp (nb_cat (fun _ => ev_var rfl) (b7.ex e8) (e8 _ _ h7) (d7.ex e8) n7 (nb_lst (R := fun l => l.length = 1 ∧ ∀ x ∈ l, PRow ns x) (bs_all (m := 0) (EvB.imp (b_tup (bs_cons (b_pure (P := fun x => x = .str "call") (fun _ _ _ => d_str) rfl) (bs_cons (b_pickS (d := 1) (ds := ns.map PyData.str) (fun _ => ev_var rfl) ?w0 L8 dn nL (b_take (fun _ => ev_var rfl) (fun H9 k9 => d_lenK (ev_var rfl) (sq_of (k9 L _ (by simp; exact nL) L8)) dn.len) (by omega) (by omega) (by omega))) (bs_cons (b_ii (D := fun i => 1 ≤ i ∧ i ≤ 3) (b_int (A := fun j => j = 1) rfl) (b_take (fun _ => ev_var rfl) (fun _ _ => d_int) (by omega) (by decide) (by decide)) fun i j hi hj => ⟨by omega, by omega⟩) bs_nil))) ?w2) ?w3) bs_none) (fun xs h => le3 h.1 (by decide))) ?w4) ?w5) (by decide)) (b7.ex e8) fun p8 vs8 xs8 H9 np8 n8 ⟨l8, a8⟩ h8 d8 b8 k8 => ?_
    case w0 => exact b7.ex e8
    case w2 =>
      rintro xs ⟨_, _, rfl, _, _, _, rfl, _, _, _, rfl, _, rfl⟩
      show 3 ≤ 100000; decide
    case w3 =>
      rintro x ⟨_, rfl, _, _, rfl, rfl, _, _, rfl, hm8, _, _, rfl, ⟨i, rfl, hi⟩, rfl⟩
      obtain ⟨nm, hnm8, rfl⟩ := List.mem_map.mp hm8
      obtain ⟨t, rfl⟩ := Int.eq_ofNat_of_zero_le (show 0 ≤ i by omega)
      exact ⟨.call nm t, rfl, ⟨hnm nm hnm8, by omega, by omega⟩, rfl, fun nm' t' e => by cases e; exact hnm8⟩
    case w4 =>
      rintro ys ⟨h, _⟩
      omega
    case w5 =>
      rintro l ⟨ys, rfl, h, hy⟩
      refine ⟨by simp [l7, h], fun x hx => ?_⟩
      rcases List.mem_append.mp hx with hx | hx
      · exact a7 x hx
      · exact hy x hx
    exact hm _ _ ⟨p8, vs8, xs8, 13, rfl, n8, l8, by decide, a8, h8, d8, b8.mono (by omega), (kk.trans (Kp.ex e8)).trans k8⟩
  · exact ⟨p7, vs7, xs7, 12, rfl, n7, l7, by decide, a7, e8 _ _ h7, d7.ex e8, (b7.ex e8).mono (by omega), kk.trans (Kp.ex e8)⟩
end
end Kx

set_option Elab.async false
set_option linter.all false
set_option maxRecDepth 100000
set_option maxHeartbeats 4000000
namespace Kx
open PySem PySem.Spec PyProof.Rows L2 Evl HT
/-! ### rows made calm -/
def Calm (r r' : Row) : Prop := r' = r ∨ (∃ p q, r = .frame (.turn p q)) ∧ r' = .frame (.turn 1 1)
inductive CalmL : List Row → List Row → Prop
  | nil : CalmL [] []
  | cons {r r' : Row} {a b : List Row} : Calm r r' → CalmL a b → CalmL (r :: a) (r' :: b)
theorem CalmL.snoc {a b : List Row} {r r' : Row} (h : CalmL a b) (c : Calm r r') : CalmL (a ++ [r]) (b ++ [r']) := by
  induction h with
  | nil => exact .cons c .nil
  | cons c' _ ih => exact .cons c' ih
theorem CalmL.len {a b : List Row} (h : CalmL a b) : b.length = a.length := by
  induction h with
  | nil => rfl
  | cons _ _ ih => simp [ih]
theorem CalmL.nest {a b : List Row} (h : CalmL a b) : ∀ o, nest o b = nest o a := by
  induction h with
  | nil => exact fun _ => rfl
  | cons c _ ih =>
    rename_i r r' a b _
    intro o
    rcases c with rfl | ⟨⟨p, q, rfl⟩, rfl⟩
    · cases r' with
      | piece n => show (_ && Kx.nest true b) = (_ && Kx.nest true a); rw [ih]
      | fin => show (_ && Kx.nest false b) = (_ && Kx.nest false a); rw [ih]
      | _ => exact ih o
    · exact ih o
theorem CalmL.names {a b : List Row} (h : CalmL a b) : namesR b = namesR a := by
  induction h with
  | nil => rfl
  | cons c _ ih =>
    unfold namesR at ih ⊢
    rcases c with rfl | ⟨⟨p, q, rfl⟩, rfl⟩
    · rw [List.filterMap_cons, List.filterMap_cons, ih]
    · rw [List.filterMap_cons, List.filterMap_cons, ih]
theorem CalmL.mem {a b : List Row} (h : CalmL a b) : (∀ r' ∈ b, ∃ r ∈ a, Calm r r') ∧ ∀ r ∈ a, ∃ r' ∈ b, Calm r r' := by
  induction h with
  | nil => exact ⟨fun _ h => (by cases h), fun _ h => by cases h⟩
  | cons c _ ih =>
    refine ⟨fun x hx => ?_, fun x hx => ?_⟩
    · rcases List.mem_cons.mp hx with rfl | hx
      · exact ⟨_, List.mem_cons_self .., c⟩
      · obtain ⟨r, h1, h2⟩ := ih.1 x hx
        exact ⟨r, List.mem_cons_of_mem _ h1, h2⟩
    · rcases List.mem_cons.mp hx with rfl | hx
      · exact ⟨_, List.mem_cons_self .., c⟩
      · obtain ⟨r, h1, h2⟩ := ih.2 x hx
        exact ⟨r, List.mem_cons_of_mem _ h1, h2⟩
theorem CalmL.wf {a b : List Row} (h : CalmL a b) (W : WfR a) : WfR b := by
  refine ⟨by rw [h.nest]; exact W.nest, by rw [h.names]; exact W.dup, fun nm n hm => ?_⟩
  obtain ⟨r, h1, h2⟩ := h.mem.1 _ hm
  rcases h2 with rfl | ⟨_, h2⟩
  · obtain ⟨q1, q2⟩ := W.calls nm n h1
    obtain ⟨r', h3, h4⟩ := h.mem.2 _ q1
    rcases h4 with rfl | ⟨⟨p, q, e⟩, _⟩
    · exact ⟨h3, q2⟩
    · cases e
  · cases h2
theorem CalmL.gen {a b : List Row} (h : CalmL a b) (G : ∀ r ∈ a, GenRow r) : ∀ r ∈ b, GenRow r := fun r hr => by
  obtain ⟨r0, h1, h2⟩ := h.mem.1 _ hr
  rcases h2 with rfl | ⟨_, rfl⟩
  · exact G r h1
  · exact ⟨by decide, by decide, by decide⟩
def spCalm (K : PySem.W.Frag) : Sp := fun vs H Q _ => ∃ L xs rs, vs = [.ref L] ∧ H L = some (.lst xs) ∧ DtL K H xs (rs.map rowD) ∧ rs.length ≤ 1000 ∧ ∀ p ys rs' H', H p = none → Ex H H' → H' p = some (.lst ys) → DtL K H' ys (rs'.map rowD) → CalmL rs rs' → Q (.ref p) H'
section
variable {K : PySem.W.Frag} {σ : L2.St} {H : Hp} {ta tb te : TE}
theorem row_word0 {r : Row} : atI (match rowD r with | .tuple ds => ds | _ => []) 0 = some (.str (wordR r)) := atI_nat' (j := 0) rfl
/-- the word of a row -/
theorem d_word {r : Row} (h : EvD K ta σ H (rowD r)) : EvD K (tOp (rIxT K) ta (tC (.int 0))) σ H (.str (wordR r)) := d_ix (ds := .str (wordR r) :: valsR r) h d_int (atI_nat' (j := 0) rfl)
theorem turn_word {r : Row} (h : wordR r = "turn") : ∃ p q, r = .frame (.turn p q) := by
  have no : ∀ x ∈ (["back", "by", "call", "cut", "end", "flip", "from", "hop", "left", "pace", "piece", "right", "run", "shift", "side"] : List Str), x ≠ "turn" := by decide +kernel
  cases r with
  | frame f =>
    cases f with
    | turn p q => exact ⟨p, q, rfl⟩
    | shift a b => exact absurd h (no _ (by simp [wordR]))
    | flip => exact absurd h (no _ (by simp [wordR]))
  | arc lf x y p q => cases lf <;> exact absurd h (no _ (by simp [wordR]))
  | mode b => cases b <;> exact absurd h (no _ (by simp [wordR]))
  | _ => exact absurd h (no _ (by simp [wordR]))
end
section
variable {w : World} {K : PySem.W.Frag} {mg : Str → Option Value} {base : Heap}
theorem sc_calm : FnScope ["_law_rows", "_law_found", "_law_met", "_law_row_here"] ["_law_rows"] (defScope Kd.s__law_calm) := ⟨rfl, rfl, rfl, by decide +kernel, rfl, by decide +kernel, by decide +kernel⟩
theorem ok_calm (T : Tx w K mg) : Ok Pg w K mg base CX0 1 (He.ga K "_law_calm") ["_law_rows"] (spCalm K) := by
  refine ok_of T.f__law_calm sc_calm (fun vs H Q E h => by obtain ⟨_, _, _, rfl, _⟩ := h; rfl) (fun _ _ _ _ _ _ us hl => match us, hl with | [_], _ => rfl) fun cdv A outer s0 H vs Q E hr h => ?_
  obtain ⟨L, xs, rs, rfl, hL, hl, hz, hk⟩ := h
  refine ⟨_, PSs.nox (pss_cons (ps_set (i := 1) sc_calm.nd rfl (Or.inl rfl) (pe_lst pa_nil))
    (pss_cons (ps_set (i := 2) sc_calm.nd rfl (Or.inl rfl) pe_bl)
    (pss_cons (ps_for PassesOwn.never rfl (pi_list (pv 0)) (pg_name (i := 3) sc_calm.nd rfl (Or.inl rfl))
      (pss_cons (ps_if (PW.pt (pw_and (pt_cmpR op_eq (px (pv 3)) pe_str (nomark _)) (pw_and (pt_cmpR op_notIn_seq pe_int (pv 3) (by rfl)) (pw_and1 (pt_cmpR op_ne (pe_callB call_abs (by rfl) T.b_abs (by decide +kernel) (pa_cons (px (pv 3)) pa_nil)) (pe_callB call_abs (by rfl) T.b_abs (by decide +kernel) (pa_cons (px (pv 3)) pa_nil)) (nomark _))))))
          (pss_cons (ps_if (pt_val (pv 2)) (pss_one (ps_set (i := 3) sc_calm.nd rfl (Or.inl rfl) (pe_tup (pa_cons pe_str (pa_cons pe_int (pa_cons pe_int pa_nil)))))) pss_nil) (pss_one (ps_set (i := 2) sc_calm.nd rfl (Or.inl rfl) pe_bl))) pss_nil)
      (pss_one (ps_expr (pe_bm PySem.F.plainAttrs_list PySem.F.slot_list_append PySem.F.type_list_append mt_append (pv 1) (pa_cons (pv 3) pa_nil))))))
    (pss_one (ps_ret (pv 1)))))), ?_⟩
  refine q_asgN (K := K) (n_lst ds_nil (by show 0 ≤ 100000; decide)) fun F ys H1 hF e1 h1 d1 => ?_
  cases d1
  refine q_asg (v := .bl false) ev_c fun H2 e2 => ?_
  have e12 := e1.trans e2
  refine q_forL (K := K) (ds := rs.map rowD) (a := L) (xs := xs) (j := 3) (ev_var rfl) (e12 _ _ hL) (hl.ex e12) (fun k σ' H' => ∃ acc m o rs', σ' = [some (.ref L), some (.ref F), some (.bl m), o] ∧ Ex H H' ∧ H' F = some (.lst acc) ∧ DtL K H' acc (rs'.map rowD) ∧ CalmL (rs.take k) rs')
    (fun k σ' H' ⟨_, _, _, _, _, ex, _⟩ => ⟨ex _ _ hL, hl.ex ex⟩) (fun H3 e3 => ⟨[], false, none, [], rfl, e12.trans e3, e3 _ _ (e2 _ _ h1), .nil, .nil⟩) ?_ ?_
  · rintro k d x σ' H' hkd hx ⟨acc, m, o, rs', rfl, ex, hacc, dacc, cl⟩
    rw [List.getElem?_map] at hkd
    cases hr' : rs[k]? with
    | none => rw [hr'] at hkd; cases hkd
    | some r =>
      rw [hr'] at hkd
      cases hkd
      have hkl := (List.getElem?_eq_some_iff.mp hr').1
      have len : acc.length < 100000 := by
        rw [dacc.len, List.length_map, cl.len, List.length_take]; omega
      have fin : ∀ {v : V} {r' : Row} {m' : Bool} {H3 : Hp}, Ex H' H3 → Dt K H3 v (rowD r') → Calm r r' → tDrop (tBM K "list" rAppend (tVar 1) (tCons (tVar 3) tNil)) { nx := fun σ' H' => ∃ acc m o rs', σ' = [some (.ref L), some (.ref F), some (.bl m), o] ∧ Ex H H' ∧ H' F = some (.lst acc) ∧ DtL K H' acc (rs'.map rowD) ∧ CalmL (rs.take (k + 1)) rs', rt := Q, ct := fun σ' H' => ∃ acc m o rs', σ' = [some (.ref L), some (.ref F), some (.bl m), o] ∧ Ex H H' ∧ H' F = some (.lst acc) ∧ DtL K H' acc (rs'.map rowD) ∧ CalmL (rs.take (k + 1)) rs', bk := (tRet (tVar 1)) { nx := fun _ H' => Q .non H', rt := Q } } [some (.ref L), some (.ref F), some (.bl m'), some v] H3 := fun {v r' m' H3} e3 hv c => by
        refine s_appD (K := K) (l := F) (xs := acc) (e3 _ _ hacc) (ev_var rfl) (d_var hv rfl) len fun u H4 e4 hu h4 => ?_
        have tk : TK H4 (upd H4 F (.lst (acc ++ [u]))) := TK.upd h4 trivial
        refine ⟨_, m', some v, rs' ++ [r'], rfl, Ex.mut ((ex.trans e3).trans e4) hF, upd_same, ?_, ?_⟩
        · rw [List.map_append]
          exact (((dacc.ex (e3.trans e4)).append (.cons hu .nil)).tk tk)
        · rw [List.take_add_one, hr']
          exact cl.snoc c
      have tw : EvT (tTest (tOp rEq (tOp (rIxT K) (tVar 3) (tC (.int 0))) (tC (.str "turn")))) [some (.ref L), some (.ref F), some (.bl m), some x] H' (decide (wordR r = "turn")) := t_test (K := K) (d_eqS (d_word (d_var hx rfl)) d_str)
      by_cases hw : wordR r = "turn"
      · obtain ⟨p, q, rfl⟩ := turn_word hw
        obtain ⟨ax, us, rfl, hs, hus⟩ := hx.tup_eq
        obtain ⟨u0, u1, u2, rfl, x0, x1, x2⟩ := hus.three
        rw [x0.str_eq, x1.int_eq, x2.int_eq] at hs
        have tq := et_and tw fun _ => et_and (t := tTest (tOp (rIn K true) (tC (.int 0)) (tVar 3))) (et_test (ev_op ev_c (ev_var rfl) (rv_niT hs rfl rfl))) fun _ => t_test (K := K) (te := tOp rNe (tCB rAbs (tCons (tOp (rIxT K) (tVar 3) (tC (.int 1))) tNil)) (tCB rAbs (tCons (tOp (rIxT K) (tVar 3) (tC (.int 2))) tNil))) (d_neI (d_abs (d_ix (d_var hx rfl) d_int rfl)) (d_abs (d_ix (d_var hx rfl) d_int rfl)))
        refine q_ifM (M := fun σ' H3 => ∃ m' v r', σ' = [some (.ref L), some (.ref F), some (.bl m'), some v] ∧ Ex H' H3 ∧ Dt K H3 v (rowD r') ∧ Calm (.frame (.turn p q)) r') tq (fun σ' H3 ⟨m', v, r', e, e3, hv, c⟩ => by subst e; exact fin e3 hv c) (fun hb H3 e3 hm => ?_) fun hb H3 e3 => ⟨m, _, _, rfl, e3, hx.ex e3, .inl rfl⟩
        refine q_ifM (M := fun σ' H4 => ∃ v r', σ' = [some (.ref L), some (.ref F), some (.bl m), some v] ∧ Ex H' H4 ∧ Dt K H4 v (rowD r') ∧ Calm (.frame (.turn p q)) r') (t_B (K := K) (d_vbool rfl)) (fun σ' H4 ⟨v, r', e, e4, hv, c⟩ => ?_) (fun hb H4 e4 hm2 => ?_) fun hb H4 e4 => ⟨_, _, rfl, e3.trans e4, hx.ex (e3.trans e4), .inl rfl⟩
        · subst e
          refine s_asg (v := .bl true) ev_c fun H5 e5 => hm _ _ ⟨true, v, r', rfl, e4.trans e5, hv.ex e5, c⟩
        · refine s_asgD (K := K) (d := rowD (.frame (.turn 1 1))) (d_tup (ds_cons d_str (ds_cons d_int (ds_cons d_int ds_nil))) (by show 3 ≤ 100000; decide)) fun v H5 e5 hv => ?_
          exact hm2 _ _ ⟨v, _, rfl, (e3.trans e4).trans e5, hv, .inr ⟨⟨p, q, rfl⟩, rfl⟩⟩
      · have tf : decide (wordR r = "turn") = false := decide_eq_false hw
        refine q_when (b := false) (et_is (et_and (b := false) tw fun z => absurd (of_decide_eq_true z) hw) (by rw [tf]; rfl)) (fun hb => absurd hb (by decide)) fun _ H3 e3 => ?_
        exact fin e3 (hx.ex e3) (.inl rfl)
  · rintro σ' H' ⟨acc, m, o, rs', rfl, ex, hacc, dacc, cl⟩
    rw [List.length_map, List.take_length] at cl
    exact s_ret (v := .ref F) (ev_var rfl) fun H3 e3 => hk F acc rs' H3 hF (ex.trans e3) (e3 _ _ hacc) (dacc.ex e3) cl
end
end Kx

set_option Elab.async false
set_option linter.all false
set_option maxRecDepth 100000
set_option maxHeartbeats 4000000
namespace Kx
open PySem PySem.Spec PyProof.Rows L2 Evl HT TL
/-! ### names drawn -/
def lett (c : Nat) : Str := ⟨#[97 + c]⟩
def wordL (cs : List Nat) : Str := ⟨(cs.map (97 + ·)).toArray⟩
abbrev alph : Str := "abcdefghijklmnopqrstuvwxyz"
abbrev alph1 : Str := "abcdefghijklmnopqrstuvwxyza"
theorem alph_at {c : Nat} (h : c < 26) : atI alph.cps.toList (c : Int) = some (97 + c) := by
  have k : ∀ i : Fin 26, atI alph.cps.toList (i.val : Int) = some (97 + i.val) := by decide +kernel
  exact k ⟨c, h⟩
theorem alph1_at {c : Nat} (h : c < 26) : atI alph1.cps.toList ((c : Int) + 1) = some (97 + (c + 1) % 26) := by
  have k : ∀ i : Fin 26, atI alph1.cps.toList ((i.val : Int) + 1) = some (97 + (i.val + 1) % 26) := by decide +kernel
  exact k ⟨c, h⟩
theorem alph_occ {c : Nat} (h : c < 26) : ∃ rest, Builtin.Str.occurrences alph (lett c) 0 alph.length 1 = c :: rest := by
  have k : ∀ i : Fin 26, (Builtin.Str.occurrences alph (lett i.val) 0 alph.length 1).head? = some i.val := by decide +kernel
  have q := k ⟨c, h⟩
  cases e : Builtin.Str.occurrences alph (lett c) 0 alph.length 1 with
  | nil => rw [e] at q; cases q
  | cons a r => rw [e] at q; cases q; exact ⟨r, rfl⟩
theorem tl_word (cs : List Nat) : tl (wordL cs) = cs.map (97 + ·) := rfl
theorem word_len (cs : List Nat) : (wordL cs).length = cs.length := by rw [len_tl, tl_word, List.length_map]
theorem word_inj {a b : List Nat} (h : wordL a = wordL b) : a = b := by
  have e : tl (wordL a) = tl (wordL b) := by rw [h]
  rw [tl_word, tl_word] at e
  exact List.map_inj_right (fun x y h => by omega) |>.mp e
theorem word_ok {cs : List Nat} (h1 : 1 ≤ cs.length) (h2 : cs.length ≤ 8) (h : ∀ c ∈ cs, c < 26) : NameOk (wordL cs) := by
  refine ⟨by rw [word_len]; exact ⟨h1, h2⟩, fun c hc => ?_⟩
  have hc' : c ∈ tl (wordL cs) := hc
  rw [tl_word] at hc'
  obtain ⟨d, hd, rfl⟩ := List.mem_map.mp hc'
  have := h d hd
  omega
theorem word_join (cs : List Nat) : Txt.join "" (cs.map lett) = wordL cs := by
  apply ext_tl
  rw [join_eq, tl_join, tl_word]
  have e : tl ("" : Str) = [] := by decide +kernel
  rw [e, List.map_map]
  induction cs with
  | nil => rfl
  | cons c cs ih =>
    cases cs with
    | nil => rfl
    | cons d cs =>
      simp only [List.map_cons, joinL, List.nil_append] at ih ⊢
      rw [ih]; rfl
theorem word_add (a b : List Nat) : wordL a ++ wordL b = wordL (a ++ b) := by
  apply ext_tl
  rw [tl_append, tl_word, tl_word, tl_word, List.map_append]
theorem word_lett (c : Nat) : lett c = wordL [c] := rfl
theorem word_cut {cs : List Nat} {a : Nat} (h : a < cs.length) : cutS (wordL cs) none (some (a : Int)) = wordL (cs.take a) ∧ cutS (wordL cs) (some ((a : Int) + 1)) none = wordL (cs.drop (a + 1)) := by
  have e1 : (a : Int) + 1 = ((a + 1 : Nat) : Int) := by omega
  constructor
  · apply ext_tl
    show ((tl (wordL cs)).drop (HT.sIx _ 0 none)).take (HT.sIx _ _ (some (a : Int)) - HT.sIx _ 0 none) = _
    rw [HT.sIx_none, HT.sIx_nat, word_len, tl_word, tl_word, Nat.min_eq_left (by omega), List.drop_zero, Nat.sub_zero, List.map_take]
  · apply ext_tl
    show ((tl (wordL cs)).drop (HT.sIx _ 0 (some ((a : Int) + 1)))).take (HT.sIx _ _ none - HT.sIx _ 0 (some ((a : Int) + 1))) = _
    rw [HT.sIx_none, e1, HT.sIx_nat, word_len, tl_word, tl_word, Nat.min_eq_left (by omega), List.map_drop]
    exact List.take_of_length_le (by simp)
/-- three names -/
structure Three (ns : List Str) : Prop where
  len : ns.length = 3
  nd : ns.Nodup
  ok : ∀ nm ∈ ns, NameOk nm
theorem three_word : Three ["p", "end", "hop"] := ⟨rfl, by decide +kernel, fun nm h => by
  have k : ∀ x ∈ (["p", "end", "hop"] : List Str), (1 ≤ x.length ∧ x.length ≤ 8) ∧ ∀ c ∈ x.cps.toList, 97 ≤ c ∧ c ≤ 122 := by decide +kernel
  exact k nm h⟩
theorem three_drawn {cs : List Nat} {a j k : Nat} (h2 : 2 ≤ cs.length) (h7 : cs.length ≤ 7) (h : ∀ c ∈ cs, c < 26) (ha : a < cs.length) (hj : j < 26) (hk : k < 26) (hne : cs[a]? ≠ some k) : Three [wordL cs, wordL (cs ++ [j]), wordL (cs.take a ++ [k] ++ cs.drop (a + 1))] := by
  have l3 : (cs.take a ++ [k] ++ cs.drop (a + 1)).length = cs.length := by
    simp only [List.length_append, List.length_take, List.length_drop, List.length_singleton]; omega
  refine ⟨rfl, ?_, fun nm hm => ?_⟩
  · refine List.nodup_cons.mpr ⟨fun hm => ?_, List.nodup_cons.mpr ⟨fun hm => ?_, List.nodup_cons.mpr ⟨fun hm => (by cases hm), List.nodup_nil⟩⟩⟩
    · rcases List.mem_cons.mp hm with e | hm
      · have := congrArg List.length (word_inj e)
        simp at this
      · rcases List.mem_cons.mp hm with e | hm
        · have e' := word_inj e
          have q : (cs.take a ++ [k] ++ cs.drop (a + 1))[a]? = some k := by
            rw [List.append_assoc, List.getElem?_append_right (by rw [List.length_take]; omega), List.length_take, Nat.min_eq_left (Nat.le_of_lt ha), Nat.sub_self]
            rfl
          rw [← e'] at q
          exact hne q
        · cases hm
    · rcases List.mem_cons.mp hm with e | hm
      · have := congrArg List.length (word_inj e)
        rw [l3] at this
        simp at this
      · cases hm
  · rcases List.mem_cons.mp hm with rfl | hm
    · exact word_ok (by omega) (by omega) h
    · rcases List.mem_cons.mp hm with rfl | hm
      · refine word_ok (by simp) (by simp; omega) fun c hc => ?_
        rcases List.mem_append.mp hc with hc | hc
        · exact h c hc
        · rw [List.mem_singleton] at hc; subst hc; exact hj
      · rcases List.mem_cons.mp hm with rfl | hm
        · refine word_ok (by omega) (by omega) fun c hc => ?_
          rcases List.mem_append.mp hc with hc | hc
          · rcases List.mem_append.mp hc with hc | hc
            · exact h c (List.mem_of_mem_take hc)
            · rw [List.mem_singleton] at hc; subst hc; exact hk
          · exact h c (List.mem_of_mem_drop hc)
        · cases hm
theorem Three.rot {ns : List Str} (h : Three ns) (t : Nat) : Three (ns.drop t ++ ns.take t) := by
  have p : (ns.drop t ++ ns.take t).Perm ns := List.perm_append_comm.trans (by rw [List.take_append_drop])
  exact ⟨by rw [p.length_eq]; exact h.len, p.nodup_iff.mpr h.nd, fun nm hm => h.ok nm (p.mem_iff.mp hm)⟩
def spNames (K : PySem.W.Frag) : Sp := fun vs H Q _ => ∃ B n, vs = [.ref B] ∧ BagAt H B n ∧ n ≤ 10000 ∧ ∀ p ns H', H p = none → p ≠ B → NmsAt H' p ns → Three ns → BagAt H' B (n + 20) → Kp [B] H H' → Q (.ref p) H'
section
variable {K : PySem.W.Frag} {σ : L2.St} {H : Hp} {ta tb te : TE} {B : Addr} {n d : Nat} {P : PyData → Prop}
/-- over a drawn range -/
theorem nb_lcV {m : Nat} {j : Nat} {vs : List Nat} (ha : ∀ H1, Kp [B] H H1 → EvD K ta σ H1 (.int m)) (hz : m ≤ 50000) (hw : ∀ x, wipe ((wipe σ vs).set j (some x)) vs = wipe σ vs)
    (he : ∀ (i : Nat), i < m → EvB K B te ((wipe σ vs).set j (some (.int (0 + i)))) H (n + d * i) d P) :
    EvNB K B (tLc (iRng1 (tCons ta tNil)) (gName j) tYes te vs) σ H n (d * m) (fun ds => ds.length = m ∧ ∀ x ∈ ds, P x) := fun H1 k b Q q => (ha H1 k).int H1 (Ex.refl _) _ fun H2 e2 => by
  refine ⟨m, rfl, by omega, by omega, ?_⟩
  rw [show ((m : Int)).toNat = m by omega]
  exact lc_bagI (lo := 0) (d := d) (P := P) hz hw (b.ex e2) (fun i hi H3 k3 b3 => he i hi H3 ((k.trans (Kp.ex e2)).trans k3) b3) fun p xs ds H' a1 a2 a3 a4 a5 a6 a7 a8 => q p xs ds H' (fresh_back e2 a1) a2 ⟨a3, a4⟩ a5 a6 a7 ((Kp.ex e2).trans a8)
/-- letters as values -/
theorem letts {H : Hp} {vs : List V} {xs : List PyData} (hl : DtL K H vs xs) (h : ∀ x ∈ xs, ∃ c, c < 26 ∧ x = .str (lett c)) : ∃ cs : List Nat, cs.length = xs.length ∧ (∀ c ∈ cs, c < 26) ∧ vs = (cs.map lett).map V.str := by
  induction vs generalizing xs with
  | nil => cases hl; exact ⟨[], rfl, fun _ h => (by cases h), rfl⟩
  | cons v vs ih =>
    cases hl with
    | cons a b =>
      obtain ⟨c, hc, rfl⟩ := h _ (List.mem_cons_self ..)
      obtain ⟨cs, h1, h2, h3⟩ := ih b fun x hx => h x (List.mem_cons_of_mem _ hx)
      refine ⟨c :: cs, by simp [h1], fun x hx => ?_, by rw [a.str_eq, h3]; rfl⟩
      rcases List.mem_cons.mp hx with rfl | hx
      · exact hc
      · exact h2 x hx
theorem b_joinL {m : Nat} (hm : m ≤ 1000) (ha : EvNB K B ta σ H n d fun ds => ds.length = m ∧ ∀ x ∈ ds, ∃ c, c < 26 ∧ x = .str (lett c)) : EvB K B (tM1 (fun x xs H Q => ∃ a p, ∃ ys : List Str, x = .str a ∧ xs = [.ref p] ∧ (SqL K H p (ys.map V.str) ∨ SqT K H p (ys.map V.str)) ∧ (ys.map (·.length)).sum + ys.length * a.length ≤ 16777216 ∧ Q (.str (Txt.join a ys)) H) (tC (.str "")) ta) σ H n d
    (fun x => ∃ cs : List Nat, cs.length = m ∧ (∀ c ∈ cs, c < 26) ∧ x = .str (wordL cs)) := fun H1 k b Q q => ⟨⟨_, rfl⟩, ha H1 k b _ fun p vs xs H2 _ nB ⟨hl, hx⟩ hp hv b2 k2 => by
  obtain ⟨cs, c1, c2, rfl⟩ := letts hv hx
  refine ⟨"", p, cs.map lett, rfl, rfl, .inl (sq_of hp), ?_, ?_⟩
  · have e : (cs.map lett).map (·.length) = cs.map fun _ => 1 := by rw [List.map_map]; rfl
    have l0 : ("" : Str).length = 0 := by decide +kernel
    rw [e, l0, Nat.mul_zero, Nat.add_zero, List.map_const', List.sum_replicate_nat]
    omega
  · rw [word_join]
    exact q _ _ H2 ⟨cs, by omega, c2, rfl⟩ (.str _) b2 k2⟩
theorem b_letter {E : XK} (ha : ∀ H, Ev ta σ H (.ref B)) (hn : n ≤ 50000) : EvB K B (tOp rIxS (tC (.str alph)) (tCall (spTake K) [] E (tCons ta (tCons (tC (.int 26)) tNil)))) σ H n 1 (fun x => ∃ c, c < 26 ∧ x = .str (lett c)) := fun H1 k b Q q =>
  n_take (ha H1) d_int b hn (by decide) (by decide) fun i H2 i1 i2 b2 k2 => by
    obtain ⟨c, rfl⟩ := Int.eq_ofNat_of_zero_le i1
    have hc : c < 26 := by omega
    exact ⟨alph, c, 97 + c, rfl, rfl, by decide +kernel, alph_at hc, q _ _ H2 ⟨c, hc, rfl⟩ (.str _) b2 k2⟩
end
end Kx

set_option Elab.async false
set_option linter.all false
set_option maxRecDepth 100000
set_option maxHeartbeats 4000000
namespace Kx
open PySem PySem.Spec PyProof.Rows L2 Evl HT TL
section
variable {K : PySem.W.Frag} {σ : L2.St} {H : Hp} {ta tb te : TE} {B : Addr} {n d : Nat} {P : PyData → Prop} {ds es : List PyData} {D : Ends}
theorem d_sidx {c : Nat} (hc : c < 26) (ha : EvD K ta σ H (.str (lett c))) : EvD K (tM1 (fun x xs H Q => ∃ a b i rest, x = .str a ∧ xs = [.str b] ∧ Builtin.Str.occurrences a b 0 a.length 1 = i :: rest ∧ Q (.int (i : Nat)) H) (tC (.str alph)) ta) σ H (.int (c : Nat)) := fun H1 e Q q => ⟨⟨_, rfl⟩, ha.str H1 e _ fun H2 e2 => by
  obtain ⟨rest, h⟩ := alph_occ hc
  exact ⟨alph, lett c, c, rest, rfl, rfl, h, q _ H2 e2 (.int _)⟩⟩
theorem d_addS {a b : Str} (ha : EvD K ta σ H (.str a)) (hb : EvD K tb σ H (.str b)) (hz : a.length + b.length ≤ 100000) : EvD K (tOp (fun x y H Q => ∃ i j, x = .str i ∧ y = .str j ∧ i.length + j.length ≤ sizeLine ∧ Q (.str (i ++ j)) H) ta tb) σ H (.str (a ++ b)) := fun H1 e Q q =>
  ha.str H1 e _ fun H2 e2 => hb.str H2 (e.trans e2) _ fun H3 e3 => ⟨a, b, rfl, rfl, sz_of hz, q _ H3 (e2.trans e3) (.str _)⟩
theorem n_slL {p : Addr} {xs : List V} {tl th : TO} {lo hi : Option Int} (ha : Ev ta σ H (.ref p)) (hp : H p = some (.lst xs)) (hx : DtL K H xs ds) (hl : EvO tl σ H lo) (hh : EvO th σ H hi) : EvN K (tSl (rSlL K) ta tl th) σ H (cutD ds lo hi) := fun H1 e Q q =>
  ha H1 e _ fun H2 e2 => hl H2 (e.trans e2) _ fun H3 e3 => hh H3 ((e.trans e2).trans e3) _ fun H4 e4 => by
    have e14 := (e2.trans e3).trans e4
    have eH := e.trans e14
    exact ⟨p, xs, rfl, sq_of (eH _ _ hp), fun p' hp' => q p' _ _ (fresh_back e14 hp') (e14.trans (Ex.new hp')) upd_same (((hx.cut lo hi).ex eH).ex (Ex.new hp'))⟩
theorem n_catNN (ha : EvN K ta σ H ds) (hb : EvN K tb σ H es) (hz : ds.length + es.length ≤ 100000) : EvN K (tOp rCat ta tb) σ H (ds ++ es) := fun H1 e Q q =>
  ha H1 e _ fun p xs H2 hp e2 h2 d2 => hb H2 (e.trans e2) _ fun p' ys H3 hp' e3 h3 d3 => by
    have d2' := d2.ex e3
    exact ⟨p, p', xs, ys, rfl, rfl, e3 _ _ h2, h3, by rw [d2.len, d3.len]; exact sz_of hz, fun r hr => q r _ _ (fresh_back (e2.trans e3) hr) ((e2.trans e3).trans (Ex.new hr)) upd_same ((d2'.append d3).ex (Ex.new hr))⟩
theorem cutD_lo (ds : List PyData) (a : Nat) : cutD ds (some (a : Int)) none = ds.drop a := by
  unfold cutD
  rw [HT.sIx_none, HT.sIx_nat]
  by_cases h : a ≤ ds.length
  · rw [Nat.min_eq_left h]; exact List.take_of_length_le (by simp)
  · rw [Nat.min_eq_right (by omega), List.drop_length, List.drop_eq_nil_of_le (by omega)]; simp
theorem cutD_hi (ds : List PyData) (a : Nat) : cutD ds none (some (a : Int)) = ds.take a := by
  unfold cutD
  rw [HT.sIx_none, HT.sIx_nat, List.drop_zero, Nat.sub_zero]
  by_cases h : a ≤ ds.length
  · rw [Nat.min_eq_left h]
  · rw [Nat.min_eq_right (by omega), List.take_length, List.take_of_length_le (by omega)]
theorem dtl_str_eq {H : Hp} {vs : List V} {ns : List Str} (h : DtL K H vs (ns.map .str)) : vs = ns.map V.str := by
  induction ns generalizing vs with
  | nil => cases h; rfl
  | cons x ns ih =>
    cases h with
    | cons a b => rw [a.str_eq, ih b]; rfl
/-- one of two new lists, drawn -/
theorem s_retTwo {tc : TE} {ns ms : List Str} (ha : ∀ H1, Kp [B] H H1 → EvN K ta σ H1 (ns.map .str)) (hb : ∀ H1, Kp [B] H H1 → EvN K tb σ H1 (ms.map .str)) (hB : BagAt H B n) (hc : EvB K B tc σ H n d (PI fun i => 0 ≤ i ∧ i < (2 : Nat))) (hT : Three ns) (hT' : Three ms)
    (k : ∀ p us H1, H p = none → p ≠ B → NmsAt H1 p us → Three us → BagAt H1 B (n + d) → Kp [B] H H1 → D.rt (.ref p) H1) : tRet (tOp (rIxL K) (tLst (tCons ta (tCons tb tNil))) tc) D σ H := by
  refine ha H (Kp.refl _ _) H (Ex.refl H) _ fun pa xa H1 na e1 h1 d1 => hb H1 (Kp.ex e1) H1 (Ex.refl H1) _ fun pb xb H2 nb e2 h2 d2 => ⟨by show 2 ≤ sizeLine; decide, fun pl hpl => ?_⟩
  have e3 : Ex H2 (upd H2 pl (.lst [.ref pa, .ref pb])) := Ex.new hpl
  have eH := (e1.trans e2).trans e3
  have b3 := hB.ex eH
  refine hc _ (Kp.ex eH) b3 _ fun v x H4 ⟨i, e, hi1, hi2⟩ hv b4 k4 => ?_
  subst e
  rw [hv.int_eq]
  have nA : pa ≠ B := hB.ne na
  have nBb : pb ≠ B := hB.ne (fresh_back e1 nb)
  have nL : pl ≠ B := hB.ne (fresh_back (e1.trans e2) hpl)
  have hl4 := k4 pl _ (by simp; exact nL) upd_same
  have ha4 : NmsAt H4 pa ns := by
    have q := k4 pa _ (by simp; exact nA) (e3 _ _ (e2 _ _ h1))
    rw [dtl_str_eq d1] at q; exact q
  have hb4 : NmsAt H4 pb ms := by
    have q := k4 pb _ (by simp; exact nBb) (e3 _ _ h2)
    rw [dtl_str_eq d2] at q; exact q
  have kk : Kp [B] H H4 := (Kp.ex eH).trans k4
  have : i = 0 ∨ i = 1 := by omega
  rcases this with rfl | rfl
  · exact ⟨pl, _, 0, .ref pa, rfl, rfl, sq_of hl4, rfl, k pa ns H4 na nA ha4 hT b4 kk⟩
  · exact ⟨pl, _, 1, .ref pb, rfl, rfl, sq_of hl4, rfl, k pb ms H4 (fresh_back e1 nb) nBb hb4 hT' b4 kk⟩
end
section
variable {w : World} {K : PySem.W.Frag} {mg : Str → Option Value} {base : Heap}
theorem sc_names : FnScope ["_law_bag_here", "_law_size", "_law_base", "_law_at", "_law_other", "_law_found", "_law_turn", "_law_k"] ["_law_bag_here"] (defScope Kd.s__law_names) := ⟨rfl, rfl, rfl, by decide +kernel, rfl, by decide +kernel, by decide +kernel⟩
theorem ok_names (T : Tx w K mg) : Ok Pg w K mg base CX0 35 (He.ga K "_law_names") ["_law_bag_here"] (spNames K) := by
  refine ok_of T.f__law_names sc_names (fun vs H Q E h => by obtain ⟨_, _, rfl, _⟩ := h; rfl) (fun _ _ _ _ _ _ us hl => match us, hl with | [_], _ => rfl) fun cdv A outer s0 H vs Q E hr h => ?_
  refine ⟨_, PSs.nox (pss_cons (ps_set (i := 1) sc_names.nd rfl (Or.inl rfl) (pe_op op_add pe_int (pe_fn (E := E) (ok_take T) (hr.mono (by decide)) T.g__law_take pass0 (pa_cons (pv 0) (pa_cons pe_int pa_nil)))))
    (pss_cons (ps_set (i := 2) sc_names.nd rfl (Or.inl rfl) (pe_join pe_str (pe_lc (own := [("_law_k", 7)]) (g := gName 7) (tt := tYes) (by rfl) sc_names.nd (pi_range1 rfl T.b_range (pa_cons (pv 1) pa_nil)) (blkOk_by (own := [("_law_k", 7)]) (N := ["_law_bag_here", "_law_size", "_law_base", "_law_at", "_law_other", "_law_found", "_law_turn", "_law_k"]) (sc := defScope Kd.s__law_names) (by decide +kernel)) (fun _ _ _ _ _ => pg_name (i := 7) sc_names.nd rfl (Or.inl rfl)) (fun _ _ _ _ _ => pts_nil) (fun _ _ _ _ _ => (pe_ix ix_str pe_str (pe_fn (E := E) (ok_take T) (hr.mono (by decide)) T.g__law_take pass0 (pa_cons (pv 0) (pa_cons pe_int pa_nil))) fun _ _ => rfl)))))
    (pss_cons (ps_set (i := 3) sc_names.nd rfl (Or.inl rfl) (pe_fn (E := E) (ok_take T) (hr.mono (by decide)) T.g__law_take pass0 (pa_cons (pv 0) (pa_cons (pv 1) pa_nil))))
    (pss_cons (ps_set (i := 4) sc_names.nd rfl (Or.inl rfl) (pe_ix ix_str pe_str (pe_op op_add (pe_m1 PySem.F.slot_str_index PySem.F.type_str_index mt_sindex pe_str (pe_ix ix_str (pv 2) (pv 3) fun _ _ => rfl)) pe_int) fun _ _ => rfl))
    (pss_cons (ps_set (i := 5) sc_names.nd rfl (Or.inl rfl) (pe_lst (pa_cons (pv 2) (pa_cons (pe_op op_add_str (pv 2) (pe_ix ix_str pe_str (pe_fn (E := E) (ok_take T) (hr.mono (by decide)) T.g__law_take pass0 (pa_cons (pv 0) (pa_cons pe_int pa_nil))) fun _ _ => rfl)) (pa_cons (pe_op op_add_str (pe_op op_add_str (pe_slice sl_str (pv 2) po_none (po_some (pv 3))) (pv 4)) (pe_slice sl_str (pv 2) (po_some (pe_op op_add (pv 3) pe_int)) po_none)) pa_nil)))))
    (pss_cons (ps_set (i := 6) sc_names.nd rfl (Or.inl rfl) (pe_fn (E := E) (ok_take T) (hr.mono (by decide)) T.g__law_take pass0 (pa_cons (pv 0) (pa_cons pe_int pa_nil))))
    (pss_one (ps_ret (pe_ix ix_list (pe_lst (pa_cons (pe_lst (pa_cons pe_str (pa_cons pe_str (pa_cons pe_str pa_nil)))) (pa_cons (pe_op op_cat (pe_slice sl_list (pv 5) (po_some (pv 6)) po_none) (pe_slice sl_list (pv 5) po_none (po_some (pv 6)))) pa_nil))) (pe_callTy call_int1 (by rfl) T.b_int PyProof.Rows.boot_int (pa_cons (pe_cmpR op_gt (pe_fn (E := E) (ok_take T) (hr.mono (by decide)) T.g__law_take pass0 (pa_cons (pv 0) (pa_cons pe_int pa_nil))) pe_int (nomark _)) pa_nil)) fun _ _ => rfl))))))))), ?_⟩
  obtain ⟨B, n, rfl, hB, hn, hk⟩ := h
  -- the size
  refine q_asgB (K := K) (B := B) (n := n) (d := 1) (P := PI fun i => 2 ≤ i ∧ i ≤ 7) (EvB.le (b_ii (b_int (A := fun j => j = 2) rfl) (b_take (fun _ => ev_var rfl) (fun _ _ => d_int) (by omega) (by decide) (by decide)) fun i j hi hj => ⟨by omega, by omega⟩) (by decide)) hB fun v x H1 ⟨sz, e, sz1, sz2⟩ hv b1 k1 => ?_
  subst e
  rw [hv.int_eq]
  obtain ⟨m, rfl⟩ := Int.eq_ofNat_of_zero_le (show 0 ≤ sz by omega)
  -- the base
  refine q_asgB (K := K) (B := B) (n := n + 1) (d := 1 * m) (b_joinL (m := m) (by omega) (nb_lcV (d := 1) (fun _ _ => d_vint rfl) (by omega) (fun x => rfl) fun i hi => b_letter (fun _ => ev_var rfl) (by omega))) b1 fun v x H2 ⟨cs, c1, c2, e⟩ hv b2 k2 => ?_
  subst e
  rw [hv.str_eq]
  -- the place
  refine q_asgB (K := K) (B := B) (n := n + 1 + 1 * m) (d := 1) (b_take (m := m) (fun _ => ev_var rfl) (fun _ _ => d_vint rfl) (by omega) (by omega) (by omega)) b2 fun v x H3 ⟨ai, e, a1, a2⟩ hv b3 k3 => ?_
  subst e
  rw [hv.int_eq]
  obtain ⟨a, rfl⟩ := Int.eq_ofNat_of_zero_le a1
  have ha : a < cs.length := by omega
  have hc : cs[a] < 26 := c2 _ (List.getElem_mem ha)
  have lw : (wordL cs).length ≤ 7 := by rw [word_len]; omega
  -- another letter
  refine q_asgD (K := K) (d := .str (lett ((cs[a] + 1) % 26))) ?_ fun v H4 e4 hv => ?_
  · exact d_ixS d_str (d_ii (f := fun i j => i + j) (d_sidx hc (d_ixS (d_vstr rfl) (d_vint rfl) (by omega) (atI_nat' (by show (tl (wordL cs))[a]? = some (97 + cs[a]); rw [tl_word, List.getElem?_map, List.getElem?_eq_getElem ha]; rfl)))) d_int) (by decide +kernel) (alph1_at hc)
  rw [hv.str_eq]
  have b4 := b3.ex e4
  have hk' : (cs[a] + 1) % 26 < 26 := Nat.mod_lt _ (by decide)
  have hne : cs[a]? ≠ some ((cs[a] + 1) % 26) := by
    rw [List.getElem?_eq_getElem ha]
    intro e
    have := Option.some.inj e
    omega
  generalize (cs[a] + 1) % 26 = kk at hk' hne
  -- the three
  obtain ⟨w1, w2⟩ := word_cut ha
  have l1 : (wordL (cs.take a)).length ≤ 7 := by rw [word_len, List.length_take]; omega
  have l2 : (wordL (cs.drop (a + 1))).length ≤ 7 := by rw [word_len, List.length_drop]; omega
  have ll : (lett kk).length = 1 := rfl
  refine q_asgNB (K := K) (B := B) (n := n + 1 + 1 * m + 1) (d := 1) (R := fun xs => ∃ j, j < 26 ∧ xs = ([wordL cs, wordL (cs ++ [j]), wordL (cs.take a ++ [kk] ++ cs.drop (a + 1))] : List Str).map PyData.str) (EvNB.le (EvNB.imp (nb_lst (bs_cons (b_pure (P := fun x => x = .str (wordL cs)) (fun _ _ _ => d_vstr rfl) rfl) (bs_cons (d1 := 0 + 1) (P := fun x => ∃ j, j < 26 ∧ x = .str (wordL (cs ++ [j]))) ?g1 (bs_cons (b_pure (P := fun x => x = .str (wordL (cs.take a ++ [kk] ++ cs.drop (a + 1)))) (fun _ _ _ => ?g2) rfl) bs_nil))) ?g3) ?g4) (by decide)) b4 fun p5 vs5 xs5 H5 np5 n5 ⟨j, hj, e⟩ h5 d5 b5 k5 => ?_
  case g1 =>
    refine fun H6 k6 b6 Q6 q6 => ⟨_, rfl, ?_⟩
    refine b_letter (K := K) (H := H6) (fun _ => ev_var rfl) (by omega) H6 (Kp.refl _ _) b6 _ fun v x H7 ⟨j, hj, e⟩ hv b7 k7 => ?_
    subst e
    rw [hv.str_eq]
    refine ⟨wordL cs, lett j, rfl, rfl, sz_of (by rw [word_lett, word_len, word_len]; simp; omega), ?_⟩
    rw [word_lett, word_add]
    exact q6 _ _ H7 ⟨j, hj, rfl⟩ (.str _) b7 k7
  case g2 =>
    refine EvD.is (d_addS (d_addS (d_cutS (d_vstr rfl) eo_none (eo_some (d_vint (K := K) rfl).int) (by omega)) (d_vstr rfl) (by rw [w1, ll]; omega)) (d_cutS (d_vstr rfl) (eo_some (d_ii (K := K) (f := fun i j => i + j) (d_vint rfl) d_int).int) eo_none (by omega)) (by rw [w1, w2, word_lett, word_add, word_len, word_len]; simp only [List.length_append, List.length_take, List.length_drop, List.length_singleton]; omega)) ?_
    rw [w1, w2, word_lett, word_add, word_add]
  case g3 =>
    rintro xs ⟨_, _, rfl, _, _, _, rfl, _, _, _, rfl, _, rfl⟩
    show 3 ≤ 100000; decide
  case g4 =>
    rintro xs ⟨_, _, rfl, rfl, _, _, rfl, ⟨j, hj, rfl⟩, _, _, rfl, rfl, rfl⟩
    exact ⟨j, hj, rfl⟩
  subst e
  have T3 := three_drawn (j := j) (k := kk) (a := a) (cs := cs) (by omega) (by omega) c2 ha hj hk' hne
  generalize ([wordL cs, wordL (cs ++ [j]), wordL (cs.take a ++ [kk] ++ cs.drop (a + 1))] : List Str) = ns at d5 T3
  -- the turn
  refine q_asgB (K := K) (B := B) (n := n + 1 + 1 * m + 1 + 1) (d := 1) (b_take (fun _ => ev_var rfl) (fun _ _ => d_int) (by omega) (by decide) (by decide)) b5 fun v x H6 ⟨t, e, t1, t2⟩ hv b6 k6 => ?_
  subst e
  rw [hv.int_eq]
  obtain ⟨t, rfl⟩ := Int.eq_ofNat_of_zero_le t1
  have h6 := k6 p5 _ (by simp; exact n5) h5
  have d6 := d5.tk (b5.tk k6)
  have k16 := ((k1.trans k2).trans (k3.trans (Kp.ex e4))).trans (k5.trans k6)
  refine s_retTwo (K := K) (B := B) (n := n + 1 + 1 * m + 1 + 1 + 1) (d := 1) (ns := ["p", "end", "hop"]) (ms := ns.drop t ++ ns.take t) (fun H7 k7 => n_lst (ds_cons d_str (ds_cons d_str (ds_cons d_str ds_nil))) (by show 3 ≤ 100000; decide)) (fun H7 k7 => ?_) b6 (b_int01 (b_take (fun _ => ev_var rfl) (fun _ _ => d_int) (by omega) (by decide) (by decide))) three_word (T3.rot t) fun p us H7 np nB hU hT b7 k7 => ?_
  · have h7 := k7 p5 _ (by simp; exact n5) h6
    have d7 := d6.tk (b6.tk k7)
    refine EvN.is (n_catNN (n_slL (ev_var rfl) h7 d7 (eo_some (d_vint (K := K) rfl).int) eo_none) (n_slL (ev_var rfl) h7 d7 eo_none (eo_some (d_vint (K := K) rfl).int)) ?_) ?_
    · rw [cutD_lo, cutD_hi, List.length_drop, List.length_take, List.length_map, T3.len]; omega
    · rw [cutD_lo, cutD_hi, List.map_append, List.map_drop, List.map_take]
  · refine hk p us H7 ?_ nB hU hT (b7.mono (by omega)) (k16.trans k7)
    cases e : H p with
    | none => rfl
    | some o => rw [k16 p o (by simp; exact nB) e] at np; cases np
end
end Kx

set_option Elab.async false
set_option linter.all false
set_option maxRecDepth 100000
set_option maxHeartbeats 4000000
namespace Kx
open PySem PySem.Spec PyProof.Rows L2 Evl HT TL
/-! ### outside of pieces -/
theorem cnt_open : ∀ (rs : List Row) (o : Bool) (j : Nat), nest o rs = true → ((rs.take j).filter isPiece).length + (if o = true then 1 else 0) = ((rs.take j).filter isFin).length + (if openAt o (rs.take j) = true then 1 else 0)
  | [], o, j, _ => by rw [List.take_nil]; rfl
  | r :: rs, o, 0, _ => rfl
  | r :: rs, o, j + 1, h => by
    have ih := cnt_open rs (openS o r) j (nest_cons h)
    have e : openAt o ((r :: rs).take (j + 1)) = openAt (openS o r) (rs.take j) := rfl
    rw [e, List.take_succ_cons, List.filter_cons, List.filter_cons]
    cases r with
    | piece n =>
      have ho : o = false := by
        have := (Bool.and_eq_true_iff.mp h).1
        simpa using this
      subst ho
      rw [if_pos (show isPiece (.piece n) = true from rfl), if_neg (show ¬ isFin (.piece n) = true from fun z => by cases z), List.length_cons]
      have q : openS false (.piece n) = true := rfl
      rw [q, if_pos rfl] at ih
      rw [q, if_neg (by decide)]
      omega
    | fin =>
      have ho : o = true := (Bool.and_eq_true_iff.mp h).1
      subst ho
      rw [if_neg (show ¬ isPiece .fin = true by decide), if_pos (show isFin .fin = true from rfl), List.length_cons]
      have q : openS true .fin = false := rfl
      rw [q, if_neg (by decide)] at ih
      rw [q, if_pos rfl]
      omega
    | _ => exact ih
theorem cnt_out {rs : List Row} (W : nest false rs = true) (j : Nat) : decide ((((rs.take j).filter isPiece).length : Int) = (((rs.take j).filter isFin).length : Int)) = !openAt false (rs.take j) := by
  have q := cnt_open rs false j W
  rw [if_neg (by decide)] at q
  cases h : openAt false (rs.take j) with
  | true => rw [h, if_pos rfl] at q; exact decide_eq_false (by omega)
  | false => rw [h, if_neg (by decide)] at q; exact decide_eq_true (by omega)
/-- a piece put in -/
theorem nest_put {nm : Str} {inner : List Row} (hi : ∀ r ∈ inner, plain r = true) {b : List Row} : ∀ (a : List Row) (o : Bool), nest o (a ++ b) = true → openAt o a = false → nest o (a ++ ([.piece nm] ++ (inner ++ ([.fin] ++ b)))) = true
  | [], o, h, ho => by
    have ho' : o = false := ho
    subst ho'
    show (!false && nest true (inner ++ ([.fin] ++ b))) = true
    have key : ∀ l : List Row, (∀ r ∈ l, plain r = true) → nest true (l ++ ([.fin] ++ b)) = true := fun l hl => by
      induction l with
      | nil => exact h
      | cons r l ih =>
        rw [List.cons_append, nest_plain (hl r (List.mem_cons_self ..))]
        exact ih fun x hx => hl x (List.mem_cons_of_mem _ hx)
    rw [key inner hi]; rfl
  | r :: a, o, h, ho => by
    have ih := nest_put (nm := nm) hi (b := b) a (openS o r) (nest_cons h) ho
    cases r with
    | piece n => exact Bool.and_eq_true_iff.mpr ⟨(Bool.and_eq_true_iff.mp h).1, ih⟩
    | fin => exact Bool.and_eq_true_iff.mpr ⟨(Bool.and_eq_true_iff.mp h).1, ih⟩
    | _ => exact ih
theorem names_app (a b : List Row) : namesR (a ++ b) = namesR a ++ namesR b := List.filterMap_append
theorem names_plain {l : List Row} (h : ∀ r ∈ l, plain r = true) : namesR l = [] := by
  induction l with
  | nil => rfl
  | cons r l ih =>
    have hp := h r (List.mem_cons_self ..)
    have := ih fun x hx => h x (List.mem_cons_of_mem _ hx)
    unfold namesR at this ⊢
    rw [List.filterMap_cons]
    cases r <;> first | exact this | cases hp
/-- what holds of a program that is being put together: pieces of the names done, calls of the names -/
structure Prg (ns done : List Str) (rs : List Row) : Prop where
  nest : nest false rs = true
  nms : (namesR rs).Perm done
  gen : ∀ r ∈ rs, GenRow r
  calls : ∀ nm t, Row.call nm t ∈ rs → nm ∈ ns
theorem nest_plains {l : List Row} (h : ∀ r ∈ l, plain r = true) : nest false l = true := by
  induction l with
  | nil => rfl
  | cons r l ih => rw [nest_plain (h r (List.mem_cons_self ..))]; exact ih fun x hx => h x (List.mem_cons_of_mem _ hx)
theorem prg_first {ns : List Str} {l : List Row} (h : ∀ r ∈ l, GRow ns r) : Prg ns [] l :=
  ⟨nest_plains fun r hr => (h r hr).2.1, by rw [names_plain fun r hr => (h r hr).2.1], fun r hr => (h r hr).1, fun nm t hm => (h _ hm).2.2 nm t rfl⟩
theorem Prg.put {ns done : List Str} {rs inner : List Row} {nm : Str} {at_ : Nat} (h : Prg ns done rs) (hi : ∀ r ∈ inner, GRow ns r) (hn : NameOk nm) (ho : openAt false (rs.take at_) = false) : Prg ns (done ++ [nm]) (rs.take at_ ++ [.piece nm] ++ inner ++ [.fin] ++ rs.drop at_) := by
  have e : rs.take at_ ++ [.piece nm] ++ inner ++ [.fin] ++ rs.drop at_ = rs.take at_ ++ ([.piece nm] ++ (inner ++ ([.fin] ++ rs.drop at_))) := by simp
  have pl : ∀ r ∈ inner, plain r = true := fun r hr => (hi r hr).2.1
  have mem : ∀ r, r ∈ rs.take at_ ++ [.piece nm] ++ inner ++ [.fin] ++ rs.drop at_ → r ∈ rs ∨ r = .piece nm ∨ r ∈ inner ∨ r = .fin := fun r hr => by
    simp only [List.mem_append, List.mem_singleton] at hr
    rcases hr with (((hr | hr) | hr) | hr) | hr
    · exact .inl (List.mem_of_mem_take hr)
    · exact .inr (.inl hr)
    · exact .inr (.inr (.inl hr))
    · exact .inr (.inr (.inr hr))
    · exact .inl (List.mem_of_mem_drop hr)
  refine ⟨?_, ?_, fun r hr => ?_, fun nm' t hm => ?_⟩
  · rw [e]
    exact nest_put pl _ _ (by rw [List.take_append_drop]; exact h.nest) ho
  · rw [e, names_app, names_app, names_app, names_app, names_plain pl]
    have e1 : namesR [Row.piece nm] = [nm] := rfl
    have e2 : namesR [Row.fin] = [] := rfl
    rw [e1, e2, List.nil_append, List.nil_append]
    have q : (namesR (rs.take at_) ++ namesR (rs.drop at_)).Perm done := by rw [← names_app, List.take_append_drop]; exact h.nms
    have p1 : (namesR (rs.take at_) ++ ([nm] ++ namesR (rs.drop at_))).Perm (nm :: (namesR (rs.take at_) ++ namesR (rs.drop at_))) := List.perm_middle
    exact p1.trans ((q.cons nm).trans (List.perm_append_comm (l₁ := [nm]) (l₂ := done)))
  · rcases mem r hr with hr | rfl | hr | rfl
    · exact h.gen r hr
    · exact hn
    · exact (hi r hr).1
    · trivial
  · rcases mem _ hm with hm | hm | hm | hm
    · exact h.calls nm' t hm
    · cases hm
    · exact (hi _ hm).2.2 nm' t rfl
    · cases hm
theorem Prg.wf {ns : List Str} {rs : List Row} (h : Prg ns ns rs) (nd : ns.Nodup) : WfR rs := by
  refine ⟨h.nest, h.nms.nodup_iff.mpr nd, fun nm t hm => ⟨?_, ?_⟩⟩
  · have := h.nms.mem_iff.mpr (h.calls nm t hm)
    obtain ⟨r, hr, e⟩ := List.mem_filterMap.mp this
    cases r with
    | piece n => cases e; exact hr
    | _ => cases e
  · exact (h.gen _ hm).2.1
def spOut (K : PySem.W.Frag) : Sp := fun vs H Q _ => ∃ L xs rs, ∃ j : Nat, vs = [.ref L, .int j] ∧ H L = some (.lst xs) ∧ DtL K H xs (rs.map rowD) ∧ rs.length ≤ 1000 ∧ nest false rs = true ∧ ∀ H', Ex H H' → Q (.bl (!openAt false (rs.take j))) H'
section
variable {w : World} {K : PySem.W.Frag} {mg : Str → Option Value} {base : Heap}
theorem sc_out : FnScope ["_law_rows", "_law_k", "_law_begun", "_law_row_here"] ["_law_rows", "_law_k"] (defScope Kd.s__law_is_outside) := ⟨rfl, rfl, rfl, by decide +kernel, rfl, by decide +kernel, by decide +kernel⟩
theorem ok_out (T : Tx w K mg) : Ok Pg w K mg base CX0 1 (He.ga K "_law_is_outside") ["_law_rows", "_law_k"] (spOut K) := by
  refine ok_of T.f__law_is_outside sc_out (fun vs H Q E h => by obtain ⟨_, _, _, _, rfl, _⟩ := h; rfl) (fun _ _ _ _ _ _ us hl => match us, hl with | [_, _], _ => rfl) fun cdv A outer s0 H vs Q E hr h => ?_
  obtain ⟨L, xs, rs, j, rfl, hL, hl, hz, W, hk⟩ := h
  refine ⟨_, PSs.nox (pss_cons (ps_set (i := 2) sc_out.nd rfl (Or.inl rfl) (pe_callB call_len_seq (by rfl) T.b_len PySem.boot_len (pa_cons (pe_lc (te := tVar 3) (own := [("_law_row_here", 3)]) (g := gName 3) (tt := tTest (tOp rEq (tOp (rIxT K) (tVar 3) (tC (.int 0))) (tC (.str "piece")))) (by rfl) sc_out.nd (pi_list (pe_slice sl_list (pv 0) po_none (po_some (pv 1)))) (blkOk_by (own := [("_law_row_here", 3)]) (N := ["_law_rows", "_law_k", "_law_begun", "_law_row_here"]) (sc := defScope Kd.s__law_is_outside) (by decide +kernel))
        (fun _ _ _ _ _ => pg_name (i := 3) sc_out.nd rfl (Or.inl rfl)) (fun _ _ _ _ _ => pts_one (pt_cmpR op_eq (px (pv 3)) pe_str (nomark _))) (fun _ _ _ _ _ => pv 3)) pa_nil)))
    (pss_one (ps_ret (pe_cmpR op_eq (pv 2) (pe_callB call_len_seq (by rfl) T.b_len PySem.boot_len (pa_cons (pe_lc (te := tVar 3) (own := [("_law_row_here", 3)]) (g := gName 3) (tt := tTest (tOp rEq (tOp (rIxT K) (tVar 3) (tC (.int 0))) (tC (.str "end")))) (by rfl) sc_out.nd (pi_list (pe_slice sl_list (pv 0) po_none (po_some (pv 1)))) (blkOk_by (own := [("_law_row_here", 3)]) (N := ["_law_rows", "_law_k", "_law_begun", "_law_row_here"]) (sc := defScope Kd.s__law_is_outside) (by decide +kernel))
        (fun _ _ _ _ _ => pg_name (i := 3) sc_out.nd rfl (Or.inl rfl)) (fun _ _ _ _ _ => pts_one (pt_cmpR op_eq (px (pv 3)) pe_str (nomark _))) (fun _ _ _ _ _ => pv 3)) pa_nil)) (nomark _))))), ?_⟩
  have cnt : ∀ {σ : L2.St} {H1 : Hp} {x : Str} {f : Row → Bool}, σ[0]? = some (some (.ref L)) → σ[1]? = some (some (.int j)) → σ.length = 4 → (∀ v, wipe ((wipe σ [3]).set 3 (some v)) [3] = wipe σ [3]) → Ex H H1 → (∀ r, decide (wordR r = x) = f r) → EvD K (tCB (rLenS K) (tCons (tLc (iList K (tSl (rSlL K) (tVar 0) tNoPart (tPart (tVar 1)))) (gName 3) (tTest (tOp rEq (tOp (rIxT K) (tVar 3) (tC (.int 0))) (tC (.str x)))) (tVar 3) [3]) tNil)) σ H1 (.int (((rs.take j).filter f).length : Int)) := fun {σ H1 x f} h0 h1 h4 hw e1 hf => by
    have sl := n_slL (K := K) (σ := σ) (tl := tNoPart) (th := tPart (tVar 1)) (ev_var h0) (e1 _ _ hL) (hl.ex e1) eo_none (eo_some (d_vint (K := K) h1).int)
    rw [cutD_hi, ← List.map_take] at sl
    have at3 : ∀ v : V, ((wipe σ [3]).set 3 (some v))[3]? = some (some v) := fun v => by
      rw [List.getElem?_set_self (by rw [wipe_length]; omega)]
    have n := n_lcM (K := K) (as := rs.take j) (dd := rowD) (te := tVar 3) (tt := tTest (tOp rEq (tOp (rIxT K) (tVar 3) (tC (.int 0))) (tC (.str x)))) (j := 3) (vs := [3]) (f := f) (g := rowD) sl (by rw [List.length_take]; omega) hw (fun v r H2 e2 hm hv => et_is (t_test (K := K) (d_eqS (d_word (d_var hv (at3 v))) d_str)) (hf r)) fun v r H2 e2 hm hv _ => d_var hv (at3 v)
    have q := d_lenN n
    rw [List.length_map] at q
    exact q
  refine q_asgD (K := K) (d := .int (((rs.take j).filter isPiece).length : Int)) (cnt rfl rfl rfl (fun v => rfl) (Ex.refl H) fun r => isPiece_word) fun v H1 e1 hv => ?_
  rw [hv.int_eq]
  refine s_retD (K := K) (d := .bool (!openAt false (rs.take j))) ?_ fun v H2 e2 hv => by rw [hv.bool_eq]; exact hk H2 (e1.trans e2)
  rw [← cnt_out W j]
  exact d_eqI (d_vint rfl) (cnt rfl rfl rfl (fun v => rfl) e1 fun r => isFin_word)
end
end Kx

set_option Elab.async false
set_option linter.all false
set_option maxRecDepth 100000
set_option maxHeartbeats 4000000
namespace Kx
open PySem PySem.Spec PyProof.Rows L2 Evl HT TL
def spProg (K : PySem.W.Frag) : Sp := fun vs H Q _ => ∃ B n, vs = [.ref B] ∧ BagAt H B n ∧ n ≤ 1000 ∧ ∀ p ys rs H', H p = none → p ≠ B → H' p = some (.lst ys) → DtL K H' ys (rs.map rowD) → WfR rs → (∀ r ∈ rs, GenRow r) → rs.length ≤ 60 → Kp [B] H H' → Q (.ref p) H'
section
variable {K : PySem.W.Frag} {σ : L2.St} {H : Hp} {ta tb te : TE} {B : Addr} {n d : Nat} {P : PyData → Prop} {ds es : List PyData} {D : Ends} {tz : TS}
/-- over a drawn number of turns -/
theorem nb_lcD {m : Nat} {j : Nat} {vs : List Nat} (ha : EvB K B ta σ H n 1 (PI fun i => 0 ≤ i ∧ i < (m : Int))) (hz : m ≤ 50000) (hw : ∀ x, wipe ((wipe σ vs).set j (some x)) vs = wipe σ vs)
    (he : ∀ (i : Nat), i < m → EvB K B te ((wipe σ vs).set j (some (.int (0 + i)))) H (n + 1 + d * i) d P) :
    EvNB K B (tLc (iRng1 (tCons ta tNil)) (gName j) tYes te vs) σ H n (1 + d * m) (fun ds => ds.length < m ∧ ∀ x ∈ ds, P x) := fun H1 k b Q q => ha H1 k b _ fun v x H2 ⟨i, e, i1, i2⟩ hv b2 k2 => by
  subst e
  rw [hv.int_eq]
  obtain ⟨c, rfl⟩ := Int.eq_ofNat_of_zero_le i1
  refine ⟨c, rfl, by omega, by omega, ?_⟩
  rw [show ((c : Int)).toNat = c by omega]
  refine lc_bagI (lo := 0) (d := d) (P := P) (by omega) hw b2 (fun i hi H3 k3 b3 => he i (by omega) H3 ((k.trans k2).trans k3) b3) fun p xs ds H' a1 a2 a3 a4 a5 a6 a7 a8 => q p xs ds H' ?_ a2 ⟨by omega, a4⟩ a5 a6 (a7.mono ?_) (k2.trans a8)
  · cases e : H1 p with
    | none => rfl
    | some o => rw [k2 p o (by simp; exact a2) e] at a1; cases a1
  · have : d * c ≤ d * m := Nat.mul_le_mul_left d (by omega)
    omega
theorem b_rowL {E : XK} {L : Addr} {ns : List Str} (ha : ∀ H, Ev ta σ H (.ref B)) (hb : ∀ H, Ev tb σ H (.ref L)) (hB : BagAt H B n) (hL : NmsAt H L ns) (hn : n ≤ 20000) (l3 : ns.length ≤ 3) (hok : ∀ nm ∈ ns, NameOk nm) {m : Nat} (hm : m ≤ 20000) : EvB K B (tCall (spRowL K) [] E (tCons ta (tCons tb tNil))) σ H m 20 (PRow ns) := fun H1 k b Q q =>
  (ea_cons (ha H1) (ea_cons (hb H1) ea_nil)) H1 (Ex.refl H1) _ fun H2 e2 => ⟨B, L, m, ns, rfl, b.ex e2, hm, e2 _ _ (k L _ (by simp; exact hL.ne hB) hL), l3, hok, fun v r H' g hv b' k' => q v _ H' ⟨r, rfl, g⟩ hv b' ((Kp.ex e2).trans k')⟩
/-- a new list and a standing one, put together -/
theorem n_catNV {p : Addr} {xs : List V} (ha : EvN K ta σ H ds) (hb : ∀ H1, Ex H H1 → Ev tb σ H1 (.ref p)) (hp : H p = some (.lst xs)) (hx : DtL K H xs es) (hz : ds.length + es.length ≤ 100000) : EvN K (tOp rCat ta tb) σ H (ds ++ es) := fun H1 e Q q =>
  ha H1 e _ fun p1 ys H2 hp1 e2 h2 d2 => hb H2 (e.trans e2) H2 (Ex.refl _) _ fun H3 e3 => by
    have eH := (e.trans e2).trans e3
    have hx' := hx.ex eH
    exact ⟨p1, p, ys, xs, rfl, rfl, e3 _ _ h2, eH _ _ hp, by rw [d2.len, hx.len]; exact sz_of hz, fun r hr => q r _ _ (fresh_back (e2.trans e3) hr) ((e2.trans e3).trans (Ex.new hr)) upd_same (((d2.ex e3).append hx').ex (Ex.new hr))⟩
theorem q_slC {sp : Sp} {E : XK} {i : Nat} (h : ta σ H fun v H1 => sp [v] H1 (fun x H2 => tb σ H2 fun y H3 => ∃ j, y = .int j ∧ rSlL K x none (some j) H3 fun z H4 => tz D (σ.set i (some z)) H4) E) :
    tSeq (tAsg (tSl (rSlL K) (tCall sp [] E (tCons ta tNil)) tNoPart (tPart tb)) (gName i)) tz D σ H := h
theorem s_asgN {i : Nat} (h : EvN K te σ H ds) (k : ∀ p xs H1, H p = none → Ex H H1 → H1 p = some (.lst xs) → DtL K H1 xs ds → D.nx (σ.set i (some (.ref p))) H1) : tAsg te (gName i) D σ H := h H (Ex.refl H) _ fun p xs H1 hp e hx hv => k p xs H1 hp e hx hv
theorem d_out {E : XK} {p : Addr} {vs : List V} {rs : List Row} {j : Nat} (ha : Ev ta σ H (.ref p)) (hb : Ev tb σ H (.int j)) (hp : H p = some (.lst vs)) (hd : DtL K H vs (rs.map rowD)) (hz : rs.length ≤ 1000) (W : nest false rs = true) : EvD K (tCall (spOut K) [] E (tCons ta (tCons tb tNil))) σ H (.bool (!openAt false (rs.take j))) := fun H1 e1 Q q =>
  (ea_cons ha (ea_cons hb ea_nil)) H1 e1 _ fun H2 e2 => ⟨p, vs, rs, j, rfl, (e1.trans e2) _ _ hp, hd.ex (e1.trans e2), hz, W, fun H3 e3 => q _ H3 (e2.trans e3) (.bl _)⟩
theorem s_callL {sp : Sp} {E : XK} {v : V} (ha : Ev ta σ H v) (h : ∀ H1, Ex H H1 → sp [v] H1 D.rt E) : tRet (tCall sp [] E (tCons ta tNil)) D σ H := ha H (Ex.refl H) _ h
theorem prows {ns : List Str} {xs : List PyData} (h : ∀ x ∈ xs, PRow ns x) : ∃ l : List Row, xs = l.map rowD ∧ ∀ r ∈ l, GRow ns r := by
  induction xs with
  | nil => exact ⟨[], rfl, fun r hr => (by cases hr)⟩
  | cons x xs ih =>
    obtain ⟨r, rfl, hg⟩ := h x (List.mem_cons_self ..)
    obtain ⟨l, rfl, hl⟩ := ih fun y hy => h y (List.mem_cons_of_mem _ hy)
    refine ⟨r :: l, rfl, fun z hz => ?_⟩
    rcases List.mem_cons.mp hz with rfl | hz
    · exact hg
    · exact hl z hz
end
section
variable {w : World} {K : PySem.W.Frag} {mg : Str → Option Value} {base : Heap}
theorem sc_prog : FnScope ["_law_bag_here", "_law_names_here", "_law_rows", "_law_name", "_law_inner", "_law_places", "_law_at", "_law_k"] ["_law_bag_here"] (defScope Kd.s__law_program) := ⟨rfl, rfl, rfl, by decide +kernel, rfl, by decide +kernel, by decide +kernel⟩
theorem ok_prog (T : Tx w K mg) : Ok Pg w K mg base CX0 38 (He.ga K "_law_program") ["_law_bag_here"] (spProg K) := by
  refine ok_of T.f__law_program sc_prog (fun vs H Q E h => by obtain ⟨_, _, rfl, _⟩ := h; rfl) (fun _ _ _ _ _ _ us hl => match us, hl with | [_], _ => rfl) fun cdv A outer s0 H vs Q E hr h => ?_
  refine ⟨_, PSs.nox (pss_cons (ps_set (i := 1) sc_prog.nd rfl (Or.inr rfl) (pe_slice sl_list (pe_fn (E := E) (ok_names T) (hr.mono (by decide)) T.g__law_names pass0 (pa_cons (pv 0) pa_nil)) po_none (po_some (pe_fn (E := E) (ok_take T) (hr.mono (by decide)) T.g__law_take pass0 (pa_cons (pv 0) (pa_cons pe_int pa_nil))))))
    (pss_cons (ps_set (i := 2) sc_prog.nd rfl (Or.inr rfl) (pe_lc (own := [("_law_k", 7)]) (g := gName 7) (tt := tYes) (by rfl) sc_prog.nd (pi_range1 rfl T.b_range (pa_cons (pe_fn (E := E) (ok_take T) (hr.mono (by decide)) T.g__law_take pass0 (pa_cons (pv 0) (pa_cons pe_int pa_nil))) pa_nil)) (blkOk_by (own := [("_law_k", 7)]) (N := ["_law_bag_here", "_law_names_here", "_law_rows", "_law_name", "_law_inner", "_law_places", "_law_at", "_law_k"]) (sc := defScope Kd.s__law_program) (by decide +kernel)) (fun _ _ _ _ _ => pg_name (i := 7) sc_prog.nd rfl (Or.inl rfl)) (fun _ _ _ _ _ => pts_nil) (fun _ _ _ _ _ => (pe_fn (E := E) (ok_rowL T) (hr.mono (by decide)) T.g__law_row pass0 (pa_cons (pv 0) (pa_cons (pv 1) pa_nil))))))
    (pss_cons (ps_for PassesOwn.never rfl (pi_list (pv 1)) (pg_name (i := 3) sc_prog.nd rfl (Or.inl rfl)) (pss_cons (ps_setLc (i := 4) (own := [("_law_k", 7)]) (g := gName 7) (tt := tYes) (by rfl) sc_prog.nd rfl rfl (sw_true rfl rfl rfl (by decide +kernel)) (pi_range1 rfl T.b_range (pa_cons (pe_fn (E := E) (ok_take T) (hr.mono (by decide)) T.g__law_take pass0 (pa_cons (pv 0) (pa_cons pe_int pa_nil))) pa_nil)) (blkOk_by (own := [("_law_k", 7)]) (N := ["_law_bag_here", "_law_names_here", "_law_rows", "_law_name", "_law_inner", "_law_places", "_law_at", "_law_k"]) (sc := defScope Kd.s__law_program) (by decide +kernel)) (fun _ _ _ _ _ => pg_name (i := 7) sc_prog.nd rfl (Or.inl rfl)) (fun _ _ _ _ _ => pts_nil) (fun _ _ _ _ _ => (pe_fn (E := E) (ok_rowL T) (hr.mono (by decide)) T.g__law_row pass0 (pa_cons (pv 0) (pa_cons (pv 1) pa_nil)))))
    (pss_cons (ps_setLc (i := 5) (own := [("_law_k", 7)]) (g := gName 7) (tt := tB (tCall (spOut K) [] E (tCons (tVar 2) (tCons (tVar 7) tNil)))) (by rfl) sc_prog.nd rfl rfl (sw_true rfl rfl rfl (by decide +kernel)) (pi_range1 rfl T.b_range (pa_cons (pe_op op_add (pe_callB call_len_seq (by rfl) T.b_len PySem.boot_len (pa_cons (pv 2) pa_nil)) pe_int) pa_nil)) (blkOk_by (own := [("_law_k", 7)]) (N := ["_law_bag_here", "_law_names_here", "_law_rows", "_law_name", "_law_inner", "_law_places", "_law_at", "_law_k"]) (sc := defScope Kd.s__law_program) (by decide +kernel)) (fun _ _ _ _ _ => pg_name (i := 7) sc_prog.nd rfl (Or.inl rfl)) (fun _ _ _ _ _ => pts_one (pt_val (pe_fn (E := E) (ok_out T) (hr.mono (by decide)) T.g__law_is_outside pass0 (pa_cons (pv 2) (pa_cons (pv 7) pa_nil))))) (fun _ _ _ _ _ => pv 7))
    (pss_cons (ps_set (i := 6) sc_prog.nd rfl (Or.inl rfl) (pe_ix ix_list (pv 5) (pe_fn (E := E) (ok_take T) (hr.mono (by decide)) T.g__law_take pass0 (pa_cons (pv 0) (pa_cons (pe_callB call_len_seq (by rfl) T.b_len PySem.boot_len (pa_cons (pv 5) pa_nil)) pa_nil))) fun _ _ => rfl))
    (pss_one (ps_set (i := 2) sc_prog.nd rfl (Or.inr rfl) (pe_op op_cat (pe_op op_cat (pe_op op_cat (pe_op op_cat (pe_slice sl_list (pv 2) po_none (po_some (pv 6))) (pe_lst (pa_cons (pe_tup (pa_cons pe_str (pa_cons (pv 3) pa_nil))) pa_nil))) (pv 4)) (pe_lst (pa_cons (pe_tup (pa_cons pe_str pa_nil)) pa_nil))) (pe_slice sl_list (pv 2) (po_some (pv 6)) po_none))))))))
    (pss_one (ps_ret (pe_fn (E := E) (ok_calm T) (hr.mono (by decide)) T.g__law_calm pass0 (pa_cons (pv 2) pa_nil))))))), ?_⟩
  obtain ⟨B, n, rfl, hB, hn, hk⟩ := h
  -- the names
  refine q_slC ⟨_, rfl, ?_⟩
  refine ⟨B, n, rfl, hB, by omega, fun pn ns0 H2 np nB hN hT b2 k2 => ?_⟩
  refine n_take (ev_var rfl) d_int b2 (by omega) (by decide) (by decide) fun t H3 t1 t2 b3 k3 => ?_
  obtain ⟨t, rfl⟩ := Int.eq_ofNat_of_zero_le t1
  have hN3 : NmsAt H3 pn ns0 := k3 pn _ (by simp; exact nB) hN
  refine ⟨_, rfl, pn, _, rfl, sq_of hN3, fun L hLn => ?_⟩
  have ecut : cutV (ns0.map V.str) none (some (t : Int)) = (ns0.take t).map V.str := by
    unfold cutV
    rw [HT.sIx_none, HT.sIx_nat, List.drop_zero, Nat.sub_zero, List.length_map, List.map_take]
    congr 1
    rw [hT.len]; omega
  rw [ecut]
  have nL : L ≠ B := b3.ne hLn
  have e4 : Ex H3 (upd H3 L (.lst ((ns0.take t).map V.str))) := Ex.new hLn
  have b4 := b3.ex e4
  have hL4 : NmsAt (upd H3 L (.lst ((ns0.take t).map V.str))) L (ns0.take t) := upd_same
  have k4 : Kp [B] H (upd H3 L (.lst ((ns0.take t).map V.str))) := (k2.trans k3).trans (Kp.ex e4)
  have nd : (ns0.take t).Nodup := hT.nd.sublist (List.take_sublist ..)
  have nok : ∀ nm ∈ ns0.take t, NameOk nm := fun nm hm => hT.ok nm (List.mem_of_mem_take hm)
  have nl : (ns0.take t).length ≤ 2 := by rw [List.length_take]; omega
  generalize ns0.take t = ns at hL4 nd nok nl b4 k4
  generalize upd H3 L (.lst (ns.map V.str)) = H4 at hL4 b4 k4
  clear hN3 hN b3 b2
  -- the rows outside
  refine q_asgNB (K := K) (B := B) (n := n + 20 + 1) (d := 1 + 20 * 15) (nb_lcD (m := 15) (d := 20) (P := PRow ns) (b_take (fun _ => ev_var rfl) (fun _ _ => d_int) (by omega) (by decide) (by decide)) (by decide) (fun x => rfl) fun i hi => b_rowL (fun _ => ev_var rfl) (fun _ => ev_var rfl) b4 hL4 (by omega) (by omega) nok (by omega)) b4 fun p2 vs2 xs2 H5 np2 nB2 ⟨l2, a2⟩ h2 d2 b5 k5 => ?_
  obtain ⟨rs0, rfl, g0⟩ := prows a2
  rw [List.length_map] at l2
  have hL5 : NmsAt H5 L ns := k5 L _ (by simp; exact nL) hL4
  have dn : ∀ H', DtL K H' (ns.map V.str) (ns.map PyData.str) := fun _ => dtl_strs ns
  -- the pieces
  refine q_forL (K := K) (ds := ns.map PyData.str) (a := L) (xs := ns.map V.str) (j := 3) (ev_var rfl) hL5 (dn _) (fun k σ' H' => ∃ p vs rs o3 o4 o5 o6, σ' = [some (.ref B), some (.ref L), some (.ref p), o3, o4, o5, o6, none] ∧ p ≠ B ∧ NmsAt H' L ns ∧ H' p = some (.lst vs) ∧ DtL K H' vs (rs.map rowD) ∧ Prg ns (ns.take k) rs ∧ rs.length ≤ 14 + 7 * k ∧ BagAt H' B (n + 400 + 200 * k) ∧ Kp [B] H H')
    (fun k σ' H' ⟨_, _, _, _, _, _, _, _, _, a, _⟩ => ⟨a, dn _⟩) (fun H6 e6 => ⟨p2, vs2, rs0, none, none, none, none, rfl, nB2, e6 _ _ hL5, e6 _ _ h2, d2.ex e6, prg_first g0, by omega, (b5.ex e6).mono (by omega), (k4.trans k5).trans (Kp.ex e6)⟩) ?_ ?_
  · rintro k d x σ' H6 hkd hx ⟨p, vs, rs, o3, o4, o5, o6, rfl, np, hL6, hp, dp, hP, hl, b6, k6⟩
    rw [List.getElem?_map] at hkd
    cases hnm : ns[k]? with
    | none => rw [hnm] at hkd; cases hkd
    | some nm =>
      rw [hnm] at hkd
      cases hkd
      rw [hx.str_eq]
      have hk2 : k < 2 := by have := (List.getElem?_eq_some_iff.mp hnm).1; omega
      have hok := nok nm (List.mem_of_getElem? hnm)
      have nL' := nL
      -- what is in the piece
      refine q_asgNB (K := K) (B := B) (n := n + 400 + 200 * k) (d := 1 + 20 * 6) (nb_lcD (m := 6) (d := 20) (P := PRow ns) (b_take (fun _ => ev_var rfl) (fun _ _ => d_int) (by omega) (by decide) (by decide)) (by decide) (fun x => rfl) fun i hi => b_rowL (fun _ => ev_var rfl) (fun _ => ev_var rfl) b6 hL6 (by omega) (by omega) nok (by omega)) b6 fun p4 vs4 xs4 H7 np4 nB4 ⟨l4, a4⟩ h4 d4 b7 k7 => ?_
      obtain ⟨inner, rfl, gi⟩ := prows a4
      rw [List.length_map] at l4
      have hL7 : NmsAt H7 L ns := k7 L _ (by simp; exact nL) hL6
      have hp7 := k7 p _ (by simp; exact np) hp
      have dp7 := dp.tk (b6.tk k7)
      -- the places
      refine q_asgN (K := K) (n_lcR (K := K) (lo := 0) (n := rs.length + 1) (f := fun i => !openAt false (rs.take i)) (g := fun i => .int ((0 : Int) + i)) (fun H8 e8 R hR => ?_) (by omega) (fun x => rfl) (fun i H8 e8 hi => ?_) fun i H8 e8 hi _ => d_vint rfl) fun p5 vs5 H8 hp5 e8 h5 d5 => ?_
      · refine (d_ii (K := K) (f := fun i j => i + j) (d_lenK (ev_var rfl) (sq_of (e8 _ _ hp7)) dp7.len) d_int).int H8 (Ex.refl _) _ fun H9 e9 => ?_
        rw [List.length_map]
        refine ⟨_, rfl, by omega, by omega, ?_⟩
        rw [show (((rs.length : Nat) : Int) + 1).toNat = rs.length + 1 by omega]
        exact hR H9 e9
      · exact t_B (K := K) (d_out (ev_var rfl) (ev_is (v := .int ((0 : Int) + (i : Nat))) (ev_var rfl) (by rw [Int.zero_add])) (e8 _ _ hp7) (dp7.ex e8) (by omega) hP.nest)
      have b8 := b7.ex e8
      have n5 : p5 ≠ B := b7.ne hp5
      -- the place
      have mem0 : 0 ∈ (List.range (rs.length + 1)).filter fun i => !openAt false (rs.take i) := List.mem_filter.mpr ⟨List.mem_range.mpr (by omega), rfl⟩
      have l5a : 1 ≤ (((List.range (rs.length + 1)).filter fun i => !openAt false (rs.take i)).map fun i => PyData.int ((0 : Int) + (i : Nat))).length := by
        rw [List.length_map]; exact List.length_pos_of_mem mem0
      have l5b : (((List.range (rs.length + 1)).filter fun i => !openAt false (rs.take i)).map fun i => PyData.int ((0 : Int) + (i : Nat))).length ≤ 100 := by
        rw [List.length_map]
        have := List.length_filter_le (fun i => !openAt false (rs.take i)) (List.range (rs.length + 1))
        rw [List.length_range] at this
        omega
      refine q_asgB (K := K) (B := B) (n := n + 400 + 200 * k + (1 + 20 * 6)) (d := 1) (b_pickS (fun _ => ev_var rfl) b8 h5 d5 n5 (b_take (fun _ => ev_var rfl) (fun H9 k9 => d_lenK (ev_var rfl) (sq_of (k9 p5 _ (by simp; exact n5) h5)) d5.len) (by omega) (by omega) (by omega))) b8 fun v y H9 hy hv b9 k9 => ?_
      obtain ⟨at_, hat, rfl⟩ := List.mem_map.mp hy
      obtain ⟨hat1, hat2⟩ := List.mem_filter.mp hat
      have hat3 : openAt false (rs.take at_) = false := by simpa using hat2
      rw [hv.int_eq, Int.zero_add]
      have kk : Kp [B] H7 H9 := (Kp.ex e8).trans k9
      have hp9 := kk p _ (by simp; exact np) hp7
      have dp9 := dp7.tk (b7.tk kk)
      have h49 := kk p4 _ (by simp; exact nB4) h4
      have d49 := d4.tk (b7.tk kk)
      have hL9 : NmsAt H9 L ns := kk L _ (by simp; exact nL) hL7
      -- put in
      have lt1 : (rs.take at_).length ≤ 100 := by rw [List.length_take]; omega
      have lt2 : (rs.drop at_).length ≤ 100 := by rw [List.length_drop]; omega
      refine s_asgN (K := K) (EvN.is (n_catNN (n_catNN (n_catNV (n_catNN (n_slL (ev_var rfl) hp9 dp9 eo_none (eo_some (d_vint (K := K) rfl).int)) (n_lst (ds_cons (d_tup2 (ds_cons d_str (ds_cons (d_vstr rfl) ds_nil))) ds_nil) ?z1) ?z2) (fun _ _ => ev_var rfl) h49 d49 ?z3) (n_lst (ds_cons (d_tup (ds_cons d_str ds_nil) ?z4) ds_nil) ?z5) ?z6) (n_slL (ev_var rfl) hp9 dp9 (eo_some (d_vint (K := K) rfl).int) eo_none) ?z7) (es := (rs.take at_ ++ [Row.piece nm] ++ inner ++ [Row.fin] ++ rs.drop at_).map rowD) ?z8) fun p6 vs6 H10 hp6 e10 h6 d6 => ?_
      case z1 => show 1 ≤ 100000; decide
      case z4 => show 1 ≤ 100000; decide
      case z5 => show 1 ≤ 100000; decide
      case z2 => rw [cutD_hi, ← List.map_take, List.length_map]; show _ + 1 ≤ 100000; omega
      case z3 => rw [cutD_hi, ← List.map_take]; simp only [List.length_append, List.length_map, List.length_singleton]; omega
      case z6 => rw [cutD_hi, ← List.map_take]; simp only [List.length_append, List.length_map, List.length_singleton]; omega
      case z7 => rw [cutD_hi, cutD_lo, ← List.map_take, ← List.map_drop]; simp only [List.length_append, List.length_map, List.length_singleton]; omega
      case z8 => rw [cutD_hi, cutD_lo, ← List.map_take, ← List.map_drop, List.map_append, List.map_append, List.map_append, List.map_append]; rfl
      have hP' := hP.put gi hok hat3
      have etk : ns.take (k + 1) = ns.take k ++ [nm] := by rw [List.take_add_one, hnm]; rfl
      rw [← etk] at hP'
      refine ⟨p6, vs6, _, _, _, _, _, rfl, b9.ne hp6, e10 _ _ hL9, h6, d6, hP', ?_, (b9.ex e10).mono (by omega), ((k6.trans k7).trans kk).trans (Kp.ex e10)⟩
      have l8 : (rs.take at_).length + (rs.drop at_).length = rs.length := by rw [← List.length_append, List.take_append_drop]
      simp only [List.length_append, List.length_singleton]
      omega
  · rintro σ' H6 ⟨p, vs, rs, o3, o4, o5, o6, rfl, np, hL6, hp, dp, hP, hl, b6, k6⟩
    rw [List.length_map, List.take_length] at hP
    refine s_callL (ev_var rfl) fun H7 e7 => ⟨p, vs, rs, rfl, e7 _ _ hp, dp.ex e7, by rw [List.length_map] at hl; omega, fun p8 ys rs' H8 hp8 e8 h8 d8 hC => ?_⟩
    have kk := (k6.trans (Kp.ex e7)).trans (Kp.ex e8)
    have np8 : p8 ≠ B := (b6.ex e7).ne hp8
    refine hk p8 ys rs' H8 ?_ np8 h8 d8 (hC.wf (hP.wf nd)) (hC.gen hP.gen) (by rw [hC.len]; rw [List.length_map] at hl; omega) kk
    cases e : H p8 with
    | none => rfl
    | some o => rw [(k6.trans (Kp.ex e7)) p8 o (by simp; exact np8) e] at hp8; cases hp8
end
end Kx

set_option Elab.async false
set_option linter.all false
set_option maxRecDepth 100000
set_option maxHeartbeats 4000000
namespace Kx
open PySem PySem.Spec PyProof.Rows L2 Evl HT TL
/-! ### rows written by the law -/
def gW : PyData → PyData
  | .none => .str "."
  | .int i => .str (wI i)
  | .tuple [.int a, .int b] => .str (wN (a, b))
  | d => d
def WOk : PyData → Prop
  | .none => True
  | .int i => -20 ≤ i ∧ i ≤ 20
  | .str _ => True
  | .tuple [.int a, .int b] => NuOk (a, b)
  | _ => False
def fWord : List PyData → PyData → Prop := fun ds r => ∃ d, ds = [d] ∧ WOk d ∧ r = gW d
theorem row_words {r : Row} (h : OkRow r) : (PyData.str (wordR r) :: valsR r).map gW = (wordR r :: wordsR r).map PyData.str ∧ ∀ d ∈ PyData.str (wordR r) :: valsR r, WOk d := by
  have o : ∀ {x : Option Nu}, OptOk x → gW (oD x) = .str (wO x) ∧ WOk (oD x) := fun {x} hx => by
    cases x with
    | none => exact ⟨rfl, trivial⟩
    | some u => exact ⟨rfl, hx u rfl⟩
  have n : ∀ {u : Nu}, NuOk u → gW (nD u) = .str (wN u) ∧ WOk (nD u) := fun {u} hu => ⟨rfl, hu⟩
  have all0 : ∀ {ds : List PyData}, (∀ d ∈ ds, WOk d) → ∀ d ∈ PyData.str (wordR r) :: ds, WOk d := fun h d hd => by
    rcases List.mem_cons.mp hd with rfl | hd
    · trivial
    · exact h d hd
  refine ⟨?_, all0 ?_⟩
  · cases r with
    | hop x y => show [_, gW (oD x), gW (oD y)] = _; rw [(o h.1).1, (o h.2).1]; rfl
    | cut x y => show [_, gW (oD x), gW (oD y)] = _; rw [(o h.1).1, (o h.2).1]; rfl
    | arc lf x y p q => show [_, gW (oD x), gW (oD y), _, _] = _; rw [(o h.1.1).1, (o h.1.2).1]; rfl
    | frame f => cases f <;> rfl
    | mode b => cases b <;> rfl
    | _ => rfl
  · intro d hd
    cases r with
    | hop x y =>
      simp only [valsR, List.mem_cons, List.not_mem_nil, or_false] at hd
      rcases hd with rfl | rfl
      · exact (o h.1).2
      · exact (o h.2).2
    | cut x y =>
      simp only [valsR, List.mem_cons, List.not_mem_nil, or_false] at hd
      rcases hd with rfl | rfl
      · exact (o h.1).2
      · exact (o h.2).2
    | run p q l =>
      simp only [valsR, List.mem_cons, List.not_mem_nil, or_false] at hd
      rcases hd with rfl | rfl | rfl
      · exact h.1.1
      · exact h.1.2.1
      · exact h.2.1
    | arc lf x y p q =>
      simp only [valsR, List.mem_cons, List.not_mem_nil, or_false] at hd
      rcases hd with rfl | rfl | rfl | rfl
      · exact (o h.1.1).2
      · exact (o h.1.2).2
      · exact h.2.1
      · exact h.2.2.1
    | mode b => cases hd
    | pace g =>
      simp only [valsR, List.mem_cons, List.not_mem_nil, or_false] at hd
      subst hd
      exact ⟨by have := h.1; omega, by have := h.2; omega⟩
    | side u =>
      simp only [valsR, List.mem_cons, List.not_mem_nil, or_false] at hd
      subst hd
      exact h
    | frame f =>
      cases f with
      | shift a b =>
        simp only [valsR, List.mem_cons, List.not_mem_nil, or_false] at hd
        rcases hd with rfl | rfl
        · exact h.1
        · exact h.2
      | turn p q =>
        simp only [valsR, List.mem_cons, List.not_mem_nil, or_false] at hd
        rcases hd with rfl | rfl
        · exact h.1
        · exact h.2.1
      | flip => cases hd
    | back => cases hd
    | piece n =>
      simp only [valsR, List.mem_cons, List.not_mem_nil, or_false] at hd
      subst hd
      trivial
    | fin => cases hd
    | call n t =>
      simp only [valsR, List.mem_cons, List.not_mem_nil, or_false] at hd
      rcases hd with rfl | rfl
      · trivial
      · exact ⟨by have := h.2.1; omega, by have := h.2.2; omega⟩
theorem sum_len {ps : List Str} {m : Nat} (h : ∀ p ∈ ps, p.length ≤ m) : (ps.map (·.length)).sum ≤ ps.length * m := by
  induction ps with
  | nil => exact Nat.zero_le _
  | cons p ps ih =>
    have h1 := h p (List.mem_cons_self ..)
    have h2 := ih fun q hq => h q (List.mem_cons_of_mem _ hq)
    rw [List.map_cons, List.sum_cons, List.length_cons, Nat.succ_mul]
    omega
section
variable {K : PySem.W.Frag} {σ : L2.St} {H : Hp} {ta tb te : TE} {ds es : List PyData}
theorem tyx_tup {a : Addr} {xs : List V} (h : SqT K H a xs) : TyX K H (.ref a) (.type "tuple") := by
  rcases h with (h | ⟨o, h⟩) | ⟨o, _, _, h, c, _⟩
  · exact .base (.tup h)
  · exact .fTuple h
  · exact .kTuple h c
/-- isinstance(value, tuple) -/
theorem d_isTup {d : PyData} {b : Bool} (ha : EvD K ta σ H d) (hb : ∀ v H', Dt K H' v d → ∃ t, TyX K H' v t ∧ PySem.W.kitOne K t (.type "tuple") = some b) : EvD K (tCB (rIsi K) (tCons ta (tCons (tC (.ty "tuple")) tNil))) σ H (.bool b) := fun H1 e Q q =>
  ha H1 e _ fun v H2 e2 hv => by
    obtain ⟨t, ht, hk⟩ := hb v H2 hv
    exact ⟨v, .ty "tuple", t, .type "tuple", b, rfl, .ty _, ht, hk, q _ H2 e2 (.bl b)⟩
/-- int(a test) -/
theorem d_int01 {b : Bool} (ha : EvD K ta σ H (.bool b)) : EvD K (tCB (fun xs H Q => (∃ i, xs = [V.int i] ∧ Q (.int i) H) ∨ ∃ k, xs = [V.bl k] ∧ Q (.int (if k then 1 else 0)) H) (tCons ta tNil)) σ H (.int (if b = true then 1 else 0)) := fun H1 e Q q =>
  ha H1 e _ fun v H2 e2 hv => by
    rw [hv.bool_eq]
    exact .inr ⟨b, rfl, q _ H2 e2 (.int _)⟩
theorem d_joinS {x : Str} {ys : List Str} (ha : EvD K ta σ H (.str x)) (hb : EvN K tb σ H (ys.map .str)) (hz : (ys.map (·.length)).sum + ys.length * x.length ≤ 16777216) : EvD K (tM1 (fun x xs H Q => ∃ a p, ∃ ys : List Str, x = .str a ∧ xs = [.ref p] ∧ (SqL K H p (ys.map V.str) ∨ SqT K H p (ys.map V.str)) ∧ (ys.map (·.length)).sum + ys.length * a.length ≤ 16777216 ∧ Q (.str (Txt.join a ys)) H) ta tb) σ H (.str (Txt.join x ys)) := fun H1 e Q q =>
  ha.str H1 e _ fun H2 e2 => ⟨⟨_, rfl⟩, hb H2 (e.trans e2) _ fun p vs H3 _ e3 h3 d3 => by
    rw [dtl_str_eq d3] at h3
    exact ⟨x, p, ys, rfl, rfl, .inl (sq_of h3), hz, q _ H3 (e2.trans e3) (.str _)⟩⟩
/-- a comprehension over a standing list of data that stand for something -/
theorem n_lcMK {α : Type} {as : List α} {dd g : α → PyData} {f : α → Bool} {tl : TE} {tt : TT} {j : Nat} {vs : List Nat} {a : Addr} {xs : List V} (h : Ev tl σ H (.ref a)) (hs : SqL K H a xs) (hl : DtL K H xs (as.map dd)) (hz : as.length ≤ 50000) (hw : ∀ x, wipe ((wipe σ vs).set j (some x)) vs = wipe σ vs)
    (ht : ∀ x a H1, Ex H H1 → a ∈ as → Dt K H1 x (dd a) → EvT tt ((wipe σ vs).set j (some x)) H1 (f a)) (he : ∀ x a H1, Ex H H1 → a ∈ as → Dt K H1 x (dd a) → f a = true → EvD K te ((wipe σ vs).set j (some x)) H1 (g a)) :
    EvN K (tLc (iList K tl) (gName j) tt te vs) σ H ((as.filter f).map g) := fun H0 e Q q => h H0 e _ fun H1 e1 => by
  have e01 := e.trans e1
  refine ⟨a, rfl, ⟨xs, ex_l e01 hs⟩, fun Dl hD => ?_⟩
  refine lc_list (K := K) (a := a) (xs := xs) (fun i H' => Ex H1 H' ∧ ∃ acc, H' Dl = some (.lst acc) ∧ DtL K H' acc ([] ++ ((as.take i).filter f).map g)) ⟨Ex.new hD, [], upd_same, by simp; exact .nil⟩ (fun i H' _ p => ex_l (e01.trans p.1) hs) (fun i x H' hx p => ?_) fun H' p => ?_
  · obtain ⟨d, hd, hxd⟩ := hl.get' hx
    rw [List.getElem?_map] at hd
    cases ha : as[i]? with
    | none => rw [ha] at hd; cases hd
    | some b =>
      rw [ha] at hd
      cases hd
      have hm := List.mem_of_getElem? ha
      have eH := e01.trans p.1
      exact ⟨hw x, acc_next (pre := []) (by simp; exact hz) hD ha (ht x b H' eH hm (hxd.ex eH)) (fun H2 e2 q => he x b H2 (eH.trans e2) hm (hxd.ex (eH.trans e2)) q) p⟩
  · obtain ⟨x1, acc, h1, h2⟩ := p
    rw [hl.len, List.length_map, List.take_length] at h2
    exact q Dl acc H' (fresh_back e1 hD) (e1.trans x1) h1 h2
theorem log_small {i : Int} (h : -20 ≤ i ∧ i ≤ 20) : i.natAbs.log2 < 1920 := Nat.lt_of_le_of_lt (Nat.log2_le_self _) (by omega)
/-- str of an int or a text -/
def rStrE : List V → Hp → VK → Prop := fun xs H Q => (∃ i, xs = [.int i] ∧ i.natAbs.log2 < 1920 ∧ Q (.str (toString i)) H) ∨ ∃ a, xs = [.str a] ∧ Q (.str a) H
theorem call_strE {X : Cx} : CallR X (.type "str") rStrE := fun pins s σ H xs us Q I r h => by
  rcases h with h | h
  · exact call_str_int pins s σ H xs us Q I r h
  · exact SkE.call_str_str pins s σ H xs us Q I r h
theorem d_strI {i : Int} (h : -20 ≤ i ∧ i ≤ 20) (ha : EvD K ta σ H (.int i)) : EvD K (tCB rStrE (tCons ta tNil)) σ H (.str (wI i)) := fun H1 e Q q => ha.int H1 e _ fun H2 e2 => .inl ⟨i, rfl, log_small h, q _ H2 e2 (.str _)⟩
theorem d_strS {x : Str} (ha : EvD K ta σ H (.str x)) : EvD K (tCB rStrE (tCons ta tNil)) σ H (.str x) := fun H1 e Q q => ha.str H1 e _ fun H2 e2 => .inr ⟨x, rfl, q _ H2 e2 (.str _)⟩
end
section
variable {w : World} {K : PySem.W.Frag} {mg : Str → Option Value} {base : Heap}
theorem sc_word : FnScope ["_law_value", "_law_number"] ["_law_value"] (defScope Kd.s__law_word) := ⟨rfl, rfl, rfl, by decide +kernel, rfl, by decide +kernel, by decide +kernel⟩
theorem ok_word (T : Tx w K mg) : Ok Pg w K mg base CX0 1 (He.ga K "_law_word") ["_law_value"] (spP K fWord) := by
  refine ok_pure T.f__law_word sc_word (fun ds r h => by obtain ⟨d, rfl, _⟩ := h; rfl) (fun _ _ _ _ _ _ us hl => match us, hl with | [_], _ => rfl) fun cdv A outer s0 H E hr => ?_
  refine ⟨_, PSs.nox (pss_cons (ps_if (pt_cmpR op_isN (pv 0) pe_non (nomark _)) (pss_one (ps_ret pe_str)) pss_nil)
    (pss_cons (ps_if (pt_val (pe_callB call_isi (by rfl) T.b_isinstance PyProof.Rows.boot_isinstance (pa_cons (pv 0) (pa_cons (pe_bltn (v := .ty "tuple") (by rfl) T.b_tuple PyProof.Rows.boot_tuple rfl) pa_nil))))
      (pss_one (ps_ret (pe_join pe_str (pe_lc (te := tCB rStrE (tCons (tVar 1) tNil)) (own := [("_law_number", 1)]) (g := gName 1) (tt := tYes) (by rfl) sc_word.nd (pi_tup (pe_slice sl_tupA (pv 0) po_none (po_some (pe_op op_add pe_int (pe_callTy call_int1 (by rfl) T.b_int PyProof.Rows.boot_int (pa_cons (pe_cmpR op_gt (px (pv 0)) pe_int (nomark _)) pa_nil)))))) (blkOk_by (own := [("_law_number", 1)]) (N := ["_law_value", "_law_number"]) (sc := defScope Kd.s__law_word) (by decide +kernel))
        (fun _ _ _ _ _ => pg_name (i := 1) sc_word.nd rfl (Or.inl rfl)) (fun _ _ _ _ _ => pts_nil) (fun _ _ _ _ _ => pe_callTy call_strE (by rfl) T.b_str PyProof.Rows.boot_str (pa_cons (pv 1) pa_nil)))))) pss_nil)
    (pss_one (ps_ret (pe_callTy call_strE (by rfl) T.b_str PyProof.Rows.boot_str (pa_cons (pv 0) pa_nil)))))), ?_⟩
  rintro vs ds r D hv ⟨d, rfl, hd, rfl⟩ hk _
  obtain ⟨v0, rfl, x0⟩ := hv.one
  have fin : ∀ {te : TE} {H1 : Hp}, Ex H H1 → EvD K te [some v0, none] H1 (gW d) → tRet te D [some v0, none] H1 := fun {te H1} e1 h => s_retD (K := K) h fun v H2 e2 hv => hk v H2 (e1.trans e2) hv
  refine q_when (b := isN d) (t_test (K := K) (d_isN (d_var x0 rfl) d_non)) (fun hb H1 e1 => ?_) fun hb H1 e1 => ?_
  · cases d with
    | none => exact fin e1 d_str
    | _ => cases hb
  · replace x0 := x0.ex e1
    match d, hd with
    | .none, _ => cases hb
    | .int i, hd =>
      refine q_when (b := false) (t_B (K := K) (d_isTup (d_var x0 rfl) fun v H' hv => ⟨.type "int", by rw [hv.int_eq]; exact .base (.int i), kit_ty (by decide +kernel)⟩)) (fun hb => absurd hb (by decide)) fun _ H2 e2 => ?_
      exact fin (e1.trans e2) (d_strI hd (d_var (x0.ex e2) rfl))
    | .str x, _ =>
      refine q_when (b := false) (t_B (K := K) (d_isTup (d_var x0 rfl) fun v H' hv => ⟨.type "str", by rw [hv.str_eq]; exact .base (.str x), kit_ty (by decide +kernel)⟩)) (fun hb => absurd hb (by decide)) fun _ H2 e2 => ?_
      exact fin (e1.trans e2) (d_strS (d_var (x0.ex e2) rfl))
    | .tuple [.int a, .int b], hd =>
      refine q_when (b := true) (t_B (K := K) (d_isTup (d_var x0 rfl) fun v H' hv => ⟨.type "tuple", by obtain ⟨p, xs, rfl, hs, _⟩ := hv.tup_eq; exact tyx_tup hs, kit_ty (by decide +kernel)⟩)) (fun _ H2 e2 => ?_) fun hb => absurd hb (by decide)
      replace x0 := x0.ex e2
      have hup : EvD K (tOp (rI0 fun i j => .int (i + j)) (tC (.int 1)) (tCB (fun xs H Q => (∃ i, xs = [V.int i] ∧ Q (.int i) H) ∨ ∃ k, xs = [V.bl k] ∧ Q (.int (if k then 1 else 0)) H) (tCons (tOp (rI0 fun i j => .bl (decide (i > j))) (tOp (rIxT K) (tVar 0) (tC (.int 1))) (tC (.int 1))) tNil))) [some v0, none] H2 (.int (1 + if decide (b > 1) = true then 1 else 0)) := d_ii (f := fun i j => i + j) d_int (d_int01 (d_ib (f := fun i j => decide (i > j)) (d_ix (d_var x0 rfl) d_int rfl) d_int))
      have sl := d_slT (K := K) (ta := tVar 0) (tl := tNoPart) (d_var x0 rfl) eo_none (eo_some hup.int)
      have ew : (cutD [PyData.int a, .int b] none (some (1 + if decide (b > 1) = true then 1 else 0))) = ((if 1 < b then [a, b] else [a]) : List Int).map PyData.int := by
        by_cases h : 1 < b
        · rw [if_pos h, if_pos (decide_eq_true h)]; rfl
        · rw [if_neg h, if_neg (by simpa using h)]; rfl
      rw [ew] at sl
      have ok : ∀ i ∈ ((if 1 < b then [a, b] else [a]) : List Int), -20 ≤ i ∧ i ≤ 20 := fun i hi => by
        have h1 : -20 ≤ a ∧ a ≤ 20 := hd.1
        have h2 : b = 1 ∨ 2 ≤ b ∧ b ≤ 20 := by
          rcases hd.2 with e | ⟨e, _⟩
          · exact .inl e
          · exact .inr e
        split at hi
        · simp only [List.mem_cons, List.not_mem_nil, or_false] at hi
          rcases hi with rfl | rfl
          · exact h1
          · omega
        · simp only [List.mem_cons, List.not_mem_nil, or_false] at hi
          subst hi
          exact h1
      have lenle : ((if 1 < b then [a, b] else [a]) : List Int).length ≤ 2 := by split <;> simp
      have ewn : wN (a, b) = Txt.join "/" (((if 1 < b then [a, b] else [a]) : List Int).map wI) := by
        unfold wN
        dsimp only
        split <;> rfl
      generalize ((if 1 < b then [a, b] else [a]) : List Int) = is at sl ok lenle ewn
      have n := n_lcT (te := tCB rStrE (tCons (tVar 1) tNil)) (tt := tYes) (j := 1) (vs := [1]) (f := fun _ => true) (g := gW) sl (by rw [List.length_map]; omega) (fun x => rfl) (fun x d H3 e3 hm hx => t_yes) fun x d H3 e3 hm hx _ => by
        obtain ⟨i, hi, rfl⟩ := List.mem_map.mp hm
        exact d_strI (ok i hi) (d_var hx rfl)
      rw [List.filter_eq_self.mpr fun _ _ => rfl, List.map_map] at n
      have n' := n.is (es := (is.map wI).map PyData.str) (by rw [List.map_map]; rfl)
      refine fin (e1.trans e2) ?_
      show EvD K _ _ _ (.str (wN (a, b)))
      rw [ewn]
      refine d_joinS d_str n' ?_
      have s1 := sum_len (ps := is.map wI) (m := 3) fun p hp => by
        obtain ⟨i, hi, rfl⟩ := List.mem_map.mp hp
        exact (wI_noslash (ok i hi)).2.2.2.1
      have l1 : ("/" : Str).length = 1 := by decide +kernel
      rw [List.length_map] at s1 ⊢
      rw [l1]
      omega
/-- the scope of the block in a text's first list -/
def blkScope : Stmt → Scope
  | .FunctionDef (body := [.Return (value := some (.Call _ [.ListComp _ _ s _] _ _)) ..]) .. => s
  | _ => {kind := .function, names := [], isGenerator := false, isCoroutine := false}
def spText (K : PySem.W.Frag) : Sp := fun vs H Q _ => ∃ L xs rs, vs = [.ref L] ∧ H L = some (.lst xs) ∧ DtL K H xs (rs.map rowD) ∧ (∀ r ∈ rs, OkRow r) ∧ rs.length ≤ 60 ∧ ∀ H', Ex H H' → Q (.str (progT rs)) H'
theorem sc_text : FnScope ["_law_rows", "_law_row_here", "_law_value"] ["_law_rows"] (defScope Kd.s__law_text) := ⟨rfl, rfl, rfl, by decide +kernel, rfl, by decide +kernel, by decide +kernel⟩
abbrev tRowT (K : PySem.W.Frag) (E : XK) : TE := tM1 (fun x xs H Q => ∃ a p, ∃ ys : List Str, x = .str a ∧ xs = [.ref p] ∧ (SqL K H p (ys.map V.str) ∨ SqT K H p (ys.map V.str)) ∧ (ys.map (·.length)).sum + ys.length * a.length ≤ 16777216 ∧ Q (.str (Txt.join a ys)) H) (tC (.str " ")) (tLc (iTup K (tVar 1)) (gName 2) tYes (tCall (spP K fWord) [] E (tCons (tVar 2) tNil)) [2])
theorem ok_text (T : Tx w K mg) : Ok Pg w K mg base CX0 2 (He.ga K "_law_text") ["_law_rows"] (spText K) := by
  refine ok_of T.f__law_text sc_text (fun vs H Q E h => by obtain ⟨_, _, _, rfl, _⟩ := h; rfl) (fun _ _ _ _ _ _ us hl => match us, hl with | [_], _ => rfl) fun cdv A outer s0 H vs Q E hr h => ?_
  obtain ⟨L, xs, rs, rfl, hL, hl, hok, hz, hk⟩ := h
  refine ⟨_, PSs.nox (pss_one (ps_ret (pe_join pe_str (pe_lc (te := tRowT K E) (own := [("_law_row_here", 1)]) (g := gName 1) (tt := tYes) (by rfl) sc_text.nd (pi_list (pv 0)) (blkOk_by (own := [("_law_row_here", 1)]) (N := ["_law_rows", "_law_row_here", "_law_value"]) (sc := defScope Kd.s__law_text) (by decide +kernel))
    (fun _ _ _ _ _ => pg_name (i := 1) sc_text.nd rfl (Or.inl rfl)) (fun _ _ _ _ _ => pts_nil) (fun _ _ _ _ _ => pe_join pe_str (pe_lc (te := tCall (spP K fWord) [] E (tCons (tVar 2) tNil)) (own := [("_law_value", 2)]) (g := gName 2) (tt := tYes) (by rfl) sc_text.nd (pi_tup (pv 1)) (blkOk_by (own := [("_law_value", 2)]) (N := ["_law_rows", "_law_row_here", "_law_value"]) (sc := blkScope Kd.s__law_text) (by decide +kernel))
      (fun _ _ _ _ _ => pg_name (i := 2) sc_text.nd rfl (Or.inl rfl)) (fun _ _ _ _ _ => pts_nil) (fun _ _ _ _ _ => pe_fn (E := E) (ok_word T) (hr.mono (by decide)) T.g__law_word pass0 (pa_cons (pv 2) pa_nil)))))))), ?_⟩
  refine s_retD (K := K) (d := .str (progT rs)) ?_ fun v H1 e1 hv => by rw [hv.str_eq]; exact hk H1 e1
  have inner : ∀ x r H1, Ex H H1 → r ∈ rs → Dt K H1 x (rowD r) → true = true → EvD K (tRowT K E) ((wipe [some (.ref L), none, none] [1]).set 1 (some x)) H1 (.str (rowT r)) := fun x r H1 e1 hm hx _ => by
    obtain ⟨w1, w2⟩ := row_words (hok r hm)
    have n := n_lcT (K := K) (σ := (wipe [some (.ref L), none, none] [1]).set 1 (some x)) (H := H1) (tl := tVar 1) (te := tCall (spP K fWord) [] E (tCons (tVar 2) tNil)) (tt := tYes) (j := 2) (vs := [2]) (f := fun _ => true) (g := gW) (ds := .str (wordR r) :: valsR r) (d_var hx rfl) (by
      have : (valsR r).length ≤ 4 := by
        cases r with
        | frame f => cases f <;> simp [valsR]
        | _ => simp [valsR]
      rw [List.length_cons]; omega) (fun x => rfl) (fun x d H3 e3 hm hx => t_yes) fun y d H3 e3 hm hy _ => d_call (ds_cons (d_var hy rfl) ds_nil) ⟨d, rfl, w2 d hm, rfl⟩
    rw [List.filter_eq_self.mpr fun _ _ => rfl, w1] at n
    refine d_joinS d_str n ?_
    have s1 := sum_len (ps := wordR r :: wordsR r) (m := 10) fun p hp => (word_mem (hok r hm) hp).1
    have l1 : (" " : Str).length = 1 := by decide +kernel
    have l4 := words_len r
    rw [List.length_cons] at s1 ⊢
    rw [l1]
    omega
  have q := n_lcMK (K := K) (as := rs) (dd := rowD) (te := tRowT K E) (tt := tYes) (j := 1) (vs := [1]) (f := fun _ => true) (g := fun r => .str (rowT r)) (σ := [some (.ref L), none, none]) (H := H) (tl := tVar 0) (ev_var rfl) (sq_of hL) hl (by omega) (fun x => rfl) (fun x d H1 e1 hm hx => t_yes) inner
  rw [List.filter_eq_self.mpr fun _ _ => rfl] at q
  refine d_joinS (ys := rs.map rowT) d_str (q.is (by rw [List.map_map]; rfl)) ?_
  have s1 := sum_len (ps := rs.map rowT) (m := 60) fun p hp => by
    obtain ⟨r, hr, rfl⟩ := List.mem_map.mp hp
    exact rowT_len (hok r hr)
  have l1 : ("\n" : Str).length = 1 := by decide +kernel
  rw [List.length_map] at s1 ⊢
  rw [l1]
  omega
end
end Kx

set_option Elab.async false
set_option linter.all false
set_option maxRecDepth 100000
set_option maxHeartbeats 4000000
namespace Kx
open PySem PySem.Spec PyProof.Rows L2 Evl HT TL
/-! ### the law's spot, the law's step -/
def KeptAt (K : PySem.W.Frag) (H : Hp) (kp : Addr) (s : Ms) : Prop := ∃ pv sv, H kp = some (.lst [pv, .str (modeS s.by_), .int s.pace, sv]) ∧ Dt K H pv (pD s.place) ∧ Dt K H sv (nD s.side)
theorem KeptAt.ex {K : PySem.W.Frag} {H H' : Hp} {kp : Addr} {s : Ms} (h : KeptAt K H kp s) (e : Ex H H') : KeptAt K H' kp s := let ⟨pv, sv, a, b, c⟩ := h; ⟨pv, sv, e _ _ a, b.ex e, c.ex e⟩
abbrev tI01 (ta : TE) : TE := tCB (fun xs H Q => (∃ i, xs = [V.int i] ∧ Q (.int i) H) ∨ ∃ k, xs = [V.bl k] ∧ Q (.int (if k then 1 else 0)) H) (tCons ta tNil)
section
variable {K : PySem.W.Frag} {σ : L2.St} {H : Hp} {ta tb te : TE} {ds es : List PyData} {d : PyData}
theorem d_ixN {i : Int} (ha : EvN K ta σ H ds) (hb : EvD K tb σ H (.int i)) (he : atI ds i = some d) : EvD K (tOp (rIxL K) ta tb) σ H d := fun H1 e Q q =>
  ha H1 e _ fun p xs H2 _ e2 hp hl => hb H2 (e.trans e2) _ fun w H3 e3 hw => by
    rw [hw.int_eq]
    obtain ⟨x, ex, hx⟩ := hl.at he
    exact ⟨p, xs, i, x, rfl, rfl, sq_of (e3 _ _ hp), ex, q x H3 (e2.trans e3) (hx.ex e3)⟩
theorem kept_place {kp : Addr} {s : Ms} {i : Nat} (h : KeptAt K H kp s) (hi : σ[i]? = some (some (.ref kp))) : EvD K (tOp (rIxL K) (tVar i) (tC (.int 0))) σ H (pD s.place) := by
  obtain ⟨pv, sv, a, b, c⟩ := h
  exact d_ixL (ev_var hi) (sq_of a) d_int (v := pv) rfl b
theorem kept_mode {kp : Addr} {s : Ms} {i : Nat} (h : KeptAt K H kp s) (hi : σ[i]? = some (some (.ref kp))) : EvD K (tOp (rIxL K) (tVar i) (tC (.int 1))) σ H (.str (modeS s.by_)) := by
  obtain ⟨pv, sv, a, b, c⟩ := h
  exact d_ixL (ev_var hi) (sq_of a) d_int (v := .str _) rfl (.str _)
theorem kept_pace {kp : Addr} {s : Ms} {i : Nat} (h : KeptAt K H kp s) (hi : σ[i]? = some (some (.ref kp))) : EvD K (tOp (rIxL K) (tVar i) (tC (.int 2))) σ H (.int s.pace) := by
  obtain ⟨pv, sv, a, b, c⟩ := h
  exact d_ixL (ev_var hi) (sq_of a) d_int (v := .int _) rfl (.int _)
theorem kept_side {kp : Addr} {s : Ms} {i : Nat} (h : KeptAt K H kp s) (hi : σ[i]? = some (some (.ref kp))) : EvD K (tOp (rIxL K) (tVar i) (tC (.int 3))) σ H (nD s.side) := by
  obtain ⟨pv, sv, a, b, c⟩ := h
  exact d_ixL (ev_var hi) (sq_of a) d_int (v := sv) rfl c
theorem isN_oD {x : Option Nu} : isN (oD x) = x.isNone := by cases x <;> rfl
/-- [x, own][int(x is None)] -/
theorem d_orL {i : Nat} {x : Option Nu} {u : Nu} {v : V} (hi : σ[i]? = some (some v)) (hv : Dt K H v (oD x)) (hu : EvD K tb σ H (nD u)) : EvD K (tOp (rIxL K) (tLst (tCons (tVar i) (tCons tb tNil))) (tI01 (tOp (fun x y H Q => y = .non ∧ Q (.bl (decide (x = .non))) H) (tVar i) (tC .non)))) σ H (nD (x.getD u)) := by
  refine d_ixN (ds := [oD x, nD u]) (n_lst (ds_cons (d_var hv hi) (ds_cons hu ds_nil)) (by show 2 ≤ 100000; decide)) (d_int01 (d_isN (d_var hv hi) d_non)) ?_
  rw [isN_oD]
  cases x <;> rfl
end
section
variable {w : World} {K : PySem.W.Frag} {mg : Str → Option Value} {base : Heap}
def spSpotL (K : PySem.W.Frag) : Sp := fun vs H Q _ => ∃ kp fv v1 v2 s fs x y, vs = [.ref kp, fv, v1, v2] ∧ KeptAt K H kp s ∧ Dt K H fv (frsD fs) ∧ Dt K H v1 (oD x) ∧ Dt K H v2 (oD y) ∧ (∀ f ∈ fs, OkF f) ∧ fs.length ≤ 8 ∧ SmP 20000 s.place ∧ FitXY s fs x y ∧
  ∀ v H', Ex H H' → Dt K H' v (pD (spotM s fs x y)) → Q v H'
theorem sc_spotL : FnScope ["_law_kept", "_law_frames", "_law_x", "_law_y", "_law_move", "_law_own", "_law_u"] ["_law_kept", "_law_frames", "_law_x", "_law_y"] (defScope Kd.s__law_spot) := ⟨rfl, rfl, rfl, by decide +kernel, rfl, by decide +kernel, by decide +kernel⟩
abbrev tMv (K : PySem.W.Frag) : TE := tOp (rIxL K) (tLst (tCons (tTup (tCons (tC (.int 0)) (tCons (tC (.int 1)) tNil))) (tCons (tVar 6) tNil))) (tI01 (tOp (fun x y H Q => y = .non ∧ Q (.bl (!decide (x = .non))) H) (tVar 6) (tC .non)))
theorem ok_spotL (T : Tx w K mg) : Ok Pg w K mg base CX0 42 (He.ga K "_law_spot") ["_law_kept", "_law_frames", "_law_x", "_law_y"] (spSpotL K) := by
  refine ok_of T.f__law_spot sc_spotL (fun vs H Q E h => by obtain ⟨_, _, _, _, _, _, _, _, rfl, _⟩ := h; rfl) (fun _ _ _ _ _ _ us hl => match us, hl with | [_, _, _, _], _ => rfl) fun cdv A outer s0 H vs Q E hr h => ?_
  obtain ⟨kp, fv, v1, v2, s, fs, x, y, rfl, hK, hF, hx, hy, okf, hl, hp, hf, hk⟩ := h
  refine ⟨_, PSs.nox (pss_cons (ps_if (pt_cmpR op_eq (pe_ix ix_list (pv 0) pe_int fun _ _ => rfl) pe_str (nomark _))
      (pss_cons (ps_setLc (te := tMv K) (i := 4) (own := [("_law_u", 6)]) (g := gName 6) (tt := tYes) (by rfl) sc_spotL.nd rfl rfl (sw_true rfl rfl rfl (by decide +kernel)) (pi_list (pe_lst (pa_cons (pv 2) (pa_cons (pv 3) pa_nil)))) (blkOk_by (own := [("_law_u", 6)]) (N := ["_law_kept", "_law_frames", "_law_x", "_law_y", "_law_move", "_law_own", "_law_u"]) (sc := defScope Kd.s__law_spot) (by decide +kernel))
          (fun _ _ _ _ _ => pg_name (i := 6) sc_spotL.nd rfl (Or.inl rfl)) (fun _ _ _ _ _ => pts_nil) (fun _ _ _ _ _ => pe_ix ix_list (pe_lst (pa_cons (pe_tup (pa_cons pe_int (pa_cons pe_int pa_nil))) (pa_cons (pv 6) pa_nil))) (pe_callTy call_int1 (by rfl) T.b_int PyProof.Rows.boot_int (pa_cons (pe_cmpR op_notN (pv 6) pe_non (nomark _)) pa_nil)) fun _ _ => rfl))
      (pss_one (ps_ret (pe_fn (E := E) (ok__law_added T) (hr.mono (by decide)) T.g__law_added pass0 (pa_cons (pe_ix ix_list (pv 0) pe_int fun _ _ => rfl) (pa_cons (pe_fn (E := E) (ok__law_led T) (hr.mono (by decide)) T.g__law_led pass0 (pa_cons (pv 1) (pa_cons (pe_tup (pa_cons (pe_ix ix_list (pv 4) pe_int fun _ _ => rfl) (pa_cons (pe_ix ix_list (pv 4) pe_int fun _ _ => rfl) pa_nil))) (pa_cons pe_bl pa_nil)))) pa_nil)))))) pss_nil)
    (pss_cons (ps_set (i := 5) sc_spotL.nd rfl (Or.inl rfl) (pe_fn (E := E) (ok__law_back T) (hr.mono (by decide)) T.g__law_back pass0 (pa_cons (pv 1) (pa_cons (pe_ix ix_list (pv 0) pe_int fun _ _ => rfl) pa_nil))))
    (pss_one (ps_ret (pe_fn (E := E) (ok__law_led T) (hr.mono (by decide)) T.g__law_led pass0 (pa_cons (pv 1) (pa_cons (pe_tup (pa_cons (pe_ix ix_list (pe_lst (pa_cons (pv 2) (pa_cons (px (pv 5)) pa_nil))) (pe_callTy call_int1 (by rfl) T.b_int PyProof.Rows.boot_int (pa_cons (pe_cmpR op_isN (pv 2) pe_non (nomark _)) pa_nil)) fun _ _ => rfl) (pa_cons (pe_ix ix_list (pe_lst (pa_cons (pv 3) (pa_cons (px (pv 5)) pa_nil))) (pe_callTy call_int1 (by rfl) T.b_int PyProof.Rows.boot_int (pa_cons (pe_cmpR op_isN (pv 3) pe_non (nomark _)) pa_nil)) fun _ _ => rfl) pa_nil))) (pa_cons pe_bl pa_nil)))))))), ?_⟩
  unfold spotM at hk
  cases hb : s.by_ with
  | true =>
    rw [hb, if_pos rfl] at hk
    refine q_when (b := decide (modeS s.by_ = "by")) (t_test (K := K) (d_eqS (kept_mode hK rfl) d_str)) (fun _ H1 e1 => ?_) fun q => absurd q (by rw [hb]; decide +kernel)
    have n := n_lcM (K := K) (σ := [some (.ref kp), some fv, some v1, some v2, none, none, none]) (H := H1) (as := [x, y]) (dd := oD) (tl := tLst (tCons (tVar 2) (tCons (tVar 3) tNil))) (te := tMv K) (tt := tYes) (j := 6) (vs := [6]) (f := fun _ => true) (g := fun x => nD (x.getD (0, 1))) (n_lst (ds_cons (d_var (hx.ex e1) rfl) (ds_cons (d_var (hy.ex e1) rfl) ds_nil)) (by show 2 ≤ 100000; decide)) (by show 2 ≤ 50000; decide) (fun x => rfl) (fun x d H1 e1 hm hx => t_yes) fun v z H2 e2 hm hz _ => by
      refine d_ixN (ds := [nD (0, 1), oD z]) (n_lst (ds_cons (d_tup2 (ds_cons d_int (ds_cons d_int ds_nil))) (ds_cons (d_var hz rfl) ds_nil)) (by show 2 ≤ 100000; decide)) (d_int01 (d_notN (d_var hz rfl) d_non)) ?_
      rw [isN_oD]
      cases z <;> rfl
    refine q_asgN (K := K) n fun p xs H2 _ e2 h2 d2 => ?_
    have d2' : DtL K H2 xs [nD (x.getD (0, 1)), nD (y.getD (0, 1))] := d2
    refine s_retD (K := K) (d := pD (addP s.place (ledD fs (x.getD (0, 1), y.getD (0, 1))))) ?_ fun v2 H3 e3 hd => hk v2 H3 ((e1.trans e2).trans e3) hd
    refine d_turn (b := 401000) (c := 401000) (g := addP) (ds_cons (kept_place (hK.ex (e1.trans e2)) rfl) (ds_cons ?_ ds_nil)) (hp.mono (by decide)) (SmP.mono (hf.1 hb 0) (by decide))
    exact d_call (ds_cons (d_var (hF.ex (e1.trans e2)) rfl) (ds_cons (d_tup2 (ds_cons (d_at (ev_var rfl) h2 d2' d_int rfl) (ds_cons (d_at (ev_var rfl) h2 d2' d_int rfl) ds_nil))) (ds_cons d_bl ds_nil))) ⟨fs, (x.getD (0, 1), y.getD (0, 1)), false, rfl, okf, by omega, fun k => (hf.1 hb k).mono (by decide), rfl⟩
  | false =>
    rw [hb, if_neg (by decide)] at hk
    refine q_when (b := decide (modeS s.by_ = "by")) (t_test (K := K) (d_eqS (kept_mode hK rfl) d_str)) (fun q => absurd q (by rw [hb]; decide +kernel)) fun _ H1 e1 => ?_
    refine q_asgD (K := K) (d := pD (fromP fs s.place)) (d_call (ds_cons (d_var (hF.ex e1) rfl) (ds_cons (kept_place (hK.ex e1) rfl) ds_nil)) ⟨fs, s.place, rfl, okf, by omega, fun k => ((hf.2 hb).1 k).mono (by decide), rfl⟩) fun u H2 e2 x5 => ?_
    have e12 := e1.trans e2
    refine s_retD (K := K) (d := pD (ledP fs (x.getD (fromP fs s.place).1, y.getD (fromP fs s.place).2))) ?_ fun v2 H3 e3 hd => hk v2 H3 (e12.trans e3) hd
    exact d_call (ds_cons (d_var (hF.ex e12) rfl) (ds_cons (d_tup2 (ds_cons (d_orL rfl (hx.ex e12) (d_ix (d_var x5 rfl) d_int rfl)) (ds_cons (d_orL rfl (hy.ex e12) (d_ix (d_var x5 rfl) d_int rfl)) ds_nil))) (ds_cons d_bl ds_nil))) ⟨fs, (x.getD (fromP fs s.place).1, y.getD (fromP fs s.place).2), true, rfl, okf, by omega, fun k => ((hf.2 hb).2 k).mono (by decide), rfl⟩
end
end Kx

set_option Elab.async false
set_option linter.all false
set_option maxRecDepth 100000
set_option maxHeartbeats 4000000
namespace Kx
open PySem PySem.Spec PyProof.Rows L2 Evl HT TL
/-! ### the step that a row makes -/
def madeD (s : Ms) (fs : List Fr) (r : Row) : PyData := match stepOf s fs r with
  | some (d, _) => d
  | none => .none
theorem step_at2 {s : Ms} {fs : List Fr} {r : Row} {d : PyData} {t : Pl} (h : stepOf s fs r = some (d, t)) : ∃ ds, d = .tuple ds ∧ atI ds 2 = some (pD t) := by
  cases r with
  | hop x y => cases h; exact ⟨_, rfl, rfl⟩
  | cut x y =>
    simp only [stepOf] at h
    split at h
    · cases h; exact ⟨_, rfl, rfl⟩
    · cases h
  | run p q l => cases h; exact ⟨_, rfl, rfl⟩
  | arc lf x y p q =>
    simp only [stepOf] at h
    split at h
    · cases h; exact ⟨_, rfl, rfl⟩
    · cases h
  | _ => cases h
def spMade (K : PySem.W.Frag) : Sp := fun vs H Q _ => ∃ kp fv rv s r, vs = [.ref kp, fv, rv] ∧ KeptAt K H kp s ∧ Dt K H fv (frsD (allF s.stk)) ∧ Dt K H rv (rowD r) ∧ isStep r = true ∧ FitRow s r ∧ ∀ v H', Ex H H' → Dt K H' v (madeD s (allF s.stk) r) → Q v H'
section
variable {K : PySem.W.Frag} {σ : L2.St} {H : Hp} {tA : TA} {E : XK}
theorem d_spotL {kp : Addr} {s : Ms} {fs : List Fr} {x y : Option Nu} {t0 t1 t2 t3 : TE} (h0 : Ev t0 σ H (.ref kp)) (h1 : EvD K t1 σ H (frsD fs)) (h2 : EvD K t2 σ H (oD x)) (h3 : EvD K t3 σ H (oD y)) (hK : KeptAt K H kp s) (okf : ∀ f ∈ fs, OkF f) (hl : fs.length ≤ 8) (hp : SmP 20000 s.place) (hf : FitXY s fs x y) :
    EvD K (tCall (spSpotL K) [] E (tCons t0 (tCons t1 (tCons t2 (tCons t3 tNil))))) σ H (pD (spotM s fs x y)) := fun H1 e1 Q q =>
  h0 H1 e1 _ fun H2 e2 => h1 H2 (e1.trans e2) _ fun w1 H3 e3 hw1 => h2 H3 ((e1.trans e2).trans e3) _ fun w2 H4 e4 hw2 => h3 H4 (((e1.trans e2).trans e3).trans e4) _ fun w3 H5 e5 hw3 =>
    ⟨kp, w1, w2, w3, s, fs, x, y, rfl, hK.ex ((((e1.trans e2).trans e3).trans e4).trans e5), hw1.ex (e4.trans e5), hw2.ex e5, hw3, okf, hl, hp, hf, fun v H6 e6 hv => q v H6 ((((e2.trans e3).trans e4).trans e5).trans e6) hv⟩
end
section
variable {w : World} {K : PySem.W.Frag} {mg : Str → Option Value} {base : Heap}
theorem sc_madeL : FnScope ["_law_kept", "_law_frames", "_law_row_here", "_law_along", "_law_there", "_law_way", "_law_spoke"] ["_law_kept", "_law_frames", "_law_row_here"] (defScope Kd.s__law_made) := ⟨rfl, rfl, rfl, by decide +kernel, rfl, by decide +kernel, by decide +kernel⟩
theorem ok_madeL (T : Tx w K mg) : Ok Pg w K mg base CX0 43 (He.ga K "_law_made") ["_law_kept", "_law_frames", "_law_row_here"] (spMade K) := by
  refine ok_of T.f__law_made sc_madeL (fun vs H Q E h => by obtain ⟨_, _, _, _, _, rfl, _⟩ := h; rfl) (fun _ _ _ _ _ _ us hl => match us, hl with | [_, _, _], _ => rfl) fun cdv A outer s0 H vs Q E hr h => ?_
  obtain ⟨kp, fv, rv, s, r, rfl, hK, hF, hR, hst, hfit, hk⟩ := h
  refine ⟨_, PSs.nox (pss_cons (ps_if (pt_cmpR op_eq (px (pv 2)) pe_str (nomark _))
      (pss_cons (ps_set (i := 3) sc_madeL.nd rfl (Or.inl rfl) (pe_fn (E := E) (ok__law_led T) (hr.mono (by decide)) T.g__law_led pass0 (pa_cons (pv 1) (pa_cons (pe_fn (E := E) (ok__law_heading T) (hr.mono (by decide)) T.g__law_heading pass0 (pa_cons (px (pv 2)) (pa_cons (px (pv 2)) pa_nil))) (pa_cons pe_bl pa_nil)))))
      (pss_one (ps_ret (pe_tup (pa_cons pe_str (pa_cons (pe_ix ix_list (pv 0) pe_int fun _ _ => rfl) (pa_cons (pe_fn (E := E) (ok__law_added T) (hr.mono (by decide)) T.g__law_added pass0 (pa_cons (pe_ix ix_list (pv 0) pe_int fun _ _ => rfl) (pa_cons (pe_fn (E := E) (ok__law_scaled T) (hr.mono (by decide)) T.g__law_scaled pass0 (pa_cons (pv 3) (pa_cons (px (pv 2)) pa_nil))) pa_nil))) pa_nil))))))) pss_nil)
    (pss_cons (ps_set (i := 4) sc_madeL.nd rfl (Or.inl rfl) (pe_fn (E := E) (ok_spotL T) (hr.mono (by decide)) T.g__law_spot pass0 (pa_cons (pv 0) (pa_cons (pv 1) (pa_cons (px (pv 2)) (pa_cons (px (pv 2)) pa_nil))))))
    (pss_cons (ps_if (pt_cmpR op_eq (px (pv 2)) pe_str (nomark _)) (pss_one (ps_ret (pe_tup (pa_cons pe_str (pa_cons (pe_ix ix_list (pv 0) pe_int fun _ _ => rfl) (pa_cons (pv 4) pa_nil)))))) pss_nil)
    (pss_cons (ps_if (pt_not (pt_val (pe_fn (E := E) (ok__law_is_far T) (hr.mono (by decide)) T.g__law_is_far pass0 (pa_cons (pv 4) (pa_cons (pe_ix ix_list (pv 0) pe_int fun _ _ => rfl) pa_nil))))) (pss_one (ps_ret pe_non)) pss_nil)
    (pss_cons (ps_if (pt_cmpR op_eq (px (pv 2)) pe_str (nomark _)) (pss_one (ps_ret (pe_tup (pa_cons pe_str (pa_cons (pe_ix ix_list (pv 0) pe_int fun _ _ => rfl) (pa_cons (pv 4) pa_nil)))))) pss_nil)
    (pss_cons (ps_set (i := 5) sc_madeL.nd rfl (Or.inl rfl) (pe_ix ix_list (pe_lst (pa_cons pe_int (pa_cons (pe_un un_neg pe_int) pa_nil))) (pe_op op_mod (pe_op op_add (pe_callTy call_int1 (by rfl) T.b_int PyProof.Rows.boot_int (pa_cons (pe_cmpR op_eq (px (pv 2)) pe_str (nomark _)) pa_nil)) (pe_fn (E := E) (ok__law_about T) (hr.mono (by decide)) T.g__law_about pass0 (pa_cons (pv 1) pa_nil))) pe_int) fun _ _ => rfl))
    (pss_cons (ps_set (i := 6) sc_madeL.nd rfl (Or.inl rfl) (pe_fn (E := E) (ok__law_turned T) (hr.mono (by decide)) T.g__law_turned pass0 (pa_cons (pe_fn (E := E) (ok__law_lessened T) (hr.mono (by decide)) T.g__law_lessened pass0 (pa_cons (pe_ix ix_list (pv 0) pe_int fun _ _ => rfl) (pa_cons (pv 4) pa_nil))) (pa_cons (pe_fn (E := E) (ok__law_heading T) (hr.mono (by decide)) T.g__law_heading pass0 (pa_cons (pe_op op_mul (pv 5) (px (pv 2))) (pa_cons (px (pv 2)) pa_nil))) pa_nil))))
    (pss_one (ps_ret (pe_tup (pa_cons pe_str (pa_cons (pe_ix ix_list (pv 0) pe_int fun _ _ => rfl) (pa_cons (pe_fn (E := E) (ok__law_added T) (hr.mono (by decide)) T.g__law_added pass0 (pa_cons (pv 4) (pa_cons (pv 6) pa_nil))) (pa_cons (pv 4) (pa_cons (pv 5) pa_nil))))))))))))))), ?_⟩
  obtain ⟨okf, hl, hp, hfr⟩ := hfit
  have wrd : ∀ {σ : L2.St} {H1 : Hp} {x : Str}, σ[2]? = some (some rv) → Ex H H1 → EvT (tTest (tOp rEq (tOp (rIxT K) (tVar 2) (tC (.int 0))) (tC (.str x)))) σ H1 (decide (wordR r = x)) := fun h e => t_test (K := K) (d_eqS (d_word (d_var (hR.ex e) h)) d_str)
  have ret : ∀ {te : TE} {σ : L2.St} {H1 : Hp} {D : Ends} {d : PyData}, D.rt = Q → Ex H H1 → EvD K te σ H1 d → d = madeD s (allF s.stk) r → tRet te D σ H1 := fun {te σ H1 D d} hD e1 h ed => s_retD (K := K) h fun v H2 e2 hv => by rw [hD]; exact hk v H2 (e1.trans e2) (ed ▸ hv)
  have col : ∀ {σ : L2.St} {H1 : Hp} {j : Nat} {d : PyData}, σ[2]? = some (some rv) → Ex H H1 → (PyData.str (wordR r) :: valsR r)[j]? = some d → EvD K (tOp (rIxT K) (tVar 2) (tC (.int (j : Nat)))) σ H1 d := fun h e hj => d_ix (ds := .str (wordR r) :: valsR r) (d_var (hR.ex e) h) d_int (atI_nat' hj)
  generalize hfs : allF s.stk = fs at *
  cases r with
  | run p q l =>
    obtain ⟨hpq, hh, hu⟩ := hfr
    refine q_when (b := decide (("run" : Str) = "run")) (wrd rfl (Ex.refl H)) (fun _ H1 e1 => ?_) fun hb => absurd hb (by decide +kernel)
    refine q_asgD (K := K) (d := pD (ledD fs (headP p q))) (d_call (ds_cons (d_var (hF.ex e1) rfl) (ds_cons (d_head (ds_cons (col (j := 1) rfl e1 rfl) (ds_cons (col (j := 2) rfl e1 rfl) ds_nil)) hpq.1 hpq.2.1 hpq.2.2) (ds_cons d_bl ds_nil))) ⟨fs, headP p q, false, rfl, okf, by omega, fun k => (hh k).mono (by decide), rfl⟩) fun v H2 e2 xv => ?_
    have e12 := e1.trans e2
    have h0 : SmP 20000 (ledD fs (headP p q)) := hh 0
    have h1 : SmP 20020 (sclP (ledD fs (headP p q)) l) := ⟨h0.1.mul hu, h0.2.mul hu⟩
    refine ret rfl e12 (d := .tuple [.str "line", pD s.place, pD (addP s.place (sclP (ledD fs (headP p q)) l))]) (d_tup (ds_cons d_str (ds_cons (kept_place (hK.ex e12) rfl) (ds_cons ?_ ds_nil))) (by show 3 ≤ 100000; decide)) rfl
    exact d_turn (b := 401000) (c := 401000) (g := addP) (ds_cons (kept_place (hK.ex e12) rfl) (ds_cons (d_call (ds_cons (d_var xv rfl) (ds_cons (col (j := 3) rfl e12 rfl) ds_nil)) ⟨_, l, rfl, h0.mono (by decide), hu.mono (by decide), rfl⟩) ds_nil)) (hp.mono (by decide)) (h1.mono (by decide))
  | hop x y =>
    refine q_when (b := decide (("hop" : Str) = "run")) (wrd rfl (Ex.refl H)) (fun hb => absurd hb (by decide +kernel)) fun _ H1 e1 => ?_
    refine q_asgD (K := K) (d := pD (spotM s fs x y)) (d_spotL (ev_var rfl) (d_var (hF.ex e1) rfl) (col (j := 1) rfl e1 rfl) (col (j := 2) rfl e1 rfl) (hK.ex e1) okf hl hp hfr) fun v H2 e2 xv => ?_
    have e12 := e1.trans e2
    refine q_when (b := decide (("hop" : Str) = "hop")) (wrd rfl e12) (fun _ H3 e3 => ?_) fun hb => absurd hb (by decide +kernel)
    exact ret rfl (e12.trans e3) (d := .tuple [.str "hop", pD s.place, pD (spotM s fs x y)]) (d_tup (ds_cons d_str (ds_cons (kept_place (hK.ex (e12.trans e3)) rfl) (ds_cons (d_var (xv.ex e3) rfl) ds_nil))) (by show 3 ≤ 100000; decide)) rfl
  | cut x y =>
    refine q_when (b := decide (("cut" : Str) = "run")) (wrd rfl (Ex.refl H)) (fun hb => absurd hb (by decide +kernel)) fun _ H1 e1 => ?_
    refine q_asgD (K := K) (d := pD (spotM s fs x y)) (d_spotL (ev_var rfl) (d_var (hF.ex e1) rfl) (col (j := 1) rfl e1 rfl) (col (j := 2) rfl e1 rfl) (hK.ex e1) okf hl hp hfr) fun v H2 e2 xv => ?_
    have e12 := e1.trans e2
    refine q_when (b := decide (("cut" : Str) = "hop")) (wrd rfl e12) (fun hb => absurd hb (by decide +kernel)) fun _ H3 e3 => ?_
    have e13 := e12.trans e3
    have sp := sm_spot hfr hp
    refine q_when (b := !farP s.place (spotM s fs x y)) (et_not (t_B (K := K) (d_call (ds_cons (d_var (xv.ex e3) rfl) (ds_cons (kept_place (hK.ex e13) rfl) ds_nil)) ⟨spotM s fs x y, s.place, rfl, sp.mono (by decide), hp.mono (by decide), rfl⟩))) (fun hb H4 e4 => ?_) fun hb H4 e4 => ?_
    · have hfar : farP s.place (spotM s fs x y) = false := by simpa using hb
      exact ret rfl (e13.trans e4) d_non (by simp only [madeD, stepOf, hfar]; rfl)
    · have hfar : farP s.place (spotM s fs x y) = true := by simpa using hb
      have e14 := e13.trans e4
      refine q_when (b := decide (("cut" : Str) = "cut")) (wrd rfl e14) (fun _ H5 e5 => ?_) fun hb => absurd hb (by decide +kernel)
      exact ret rfl (e14.trans e5) (d := .tuple [.str "line", pD s.place, pD (spotM s fs x y)]) (d_tup (ds_cons d_str (ds_cons (kept_place (hK.ex (e14.trans e5)) rfl) (ds_cons (d_var (xv.ex ((e3.trans e4).trans e5)) rfl) ds_nil))) (by show 3 ≤ 100000; decide)) (by simp only [madeD, stepOf, hfar]; rfl)
  | arc lf x y p q =>
    obtain ⟨hxy, hpq⟩ := hfr
    have no : ∀ {z : Str}, z ∈ (["run", "hop", "cut"] : List Str) → decide (wordR (.arc lf x y p q) = z) = false := fun {z} hx => by
      have key : ∀ x ∈ (["run", "hop", "cut"] : List Str), decide (("left" : Str) = x) = false ∧ decide (("right" : Str) = x) = false := by decide +kernel
      cases lf
      · exact (key z hx).2
      · exact (key z hx).1
    refine q_when (b := false) (et_is (wrd rfl (Ex.refl H)) (no (by simp))) (fun hb => absurd hb (by decide)) fun _ H1 e1 => ?_
    refine q_asgD (K := K) (d := pD (spotM s fs x y)) (d_spotL (ev_var rfl) (d_var (hF.ex e1) rfl) (col (j := 1) rfl e1 rfl) (col (j := 2) rfl e1 rfl) (hK.ex e1) okf hl hp hxy) fun v H2 e2 xv => ?_
    have e12 := e1.trans e2
    refine q_when (b := false) (et_is (wrd rfl e12) (no (by simp))) (fun hb => absurd hb (by decide)) fun _ H3 e3 => ?_
    have e13 := e12.trans e3
    have sp := sm_spot hxy hp
    refine q_when (b := !farP s.place (spotM s fs x y)) (et_not (t_B (K := K) (d_call (ds_cons (d_var (xv.ex e3) rfl) (ds_cons (kept_place (hK.ex e13) rfl) ds_nil)) ⟨spotM s fs x y, s.place, rfl, sp.mono (by decide), hp.mono (by decide), rfl⟩))) (fun hb H4 e4 => ?_) fun hb H4 e4 => ?_
    · have hfar : farP s.place (spotM s fs x y) = false := by simpa using hb
      exact ret rfl (e13.trans e4) d_non (by simp only [madeD, stepOf, hfar]; rfl)
    · have hfar : farP s.place (spotM s fs x y) = true := by simpa using hb
      have e14 := e13.trans e4
      refine q_when (b := false) (et_is (wrd rfl e14) (no (by simp))) (fun hb => absurd hb (by decide)) fun _ H5 e5 => ?_
      have e15 := e14.trans e5
      -- the way
      refine q_asgD (K := K) (d := .int (if (lf != aboutF fs) = true then 1 else -1)) ?_ fun vw H6 e6 xw => ?_
      · have er : EvD K (tOp (rIxT K) (tVar 2) (tC (.int 0))) [some (.ref kp), some fv, some rv, none, some v, none, none] H5 (.str (wordR (.arc lf x y p q))) := d_word (d_var (hR.ex e15) rfl)
        refine d_ixN (ds := [.int 1, .int (-1)]) (n_lst (ds_cons d_int (ds_cons d_m1 ds_nil)) (by show 2 ≤ 100000; decide)) (d_iC (f := fun i j => i % j) (d_ii (f := fun i j => i + j) (d_int01 (d_eqS er d_str)) (d_call (ds_cons (d_var (hF.ex e15) rfl) ds_nil) ⟨fs, rfl, by omega, rfl⟩)) d_int (by show (0 : Int) < 2; decide)) ?_
        have ew : decide (wordR (.arc lf x y p q) = "right") = !lf := by cases lf <;> rfl
        rw [ew]
        cases lf <;> cases aboutF fs <;> rfl
      rw [xw.int_eq]
      have e16 := e15.trans e6
      have xv6 := xv.ex (((e3.trans e4).trans e5).trans e6)
      generalize hw : (if (lf != aboutF fs) = true then (1 : Int) else -1) = way
      have hway : way = 1 ∨ way = -1 := by rw [← hw]; split <;> simp
      have hpq' : FitPQ (way * p) q := by
        obtain ⟨h1, h2, h3⟩ := hpq
        refine ⟨fun ⟨z1, z2⟩ => h1 ⟨?_, z2⟩, ?_, h3⟩
        · rcases hway with e | e <;> rw [e] at z1 <;> omega
        · rcases hway with e | e <;> rw [e] <;> omega
      have hsub : SmP 60002 (subP s.place (spotM s fs x y)) := SmP.mono (hp.sub sp) (by decide)
      have hhead := sm_head hpq'.1 hpq'.2.1 hpq'.2.2
      refine q_asgD (K := K) (d := pD (trnP (subP s.place (spotM s fs x y)) (headP (way * p) q))) ?_ fun vt H7 e7 xt => ?_
      · refine d_turn (b := 200000) (c := 1000) (g := trnP) (ds_cons (d_turn (b := 401000) (c := 401000) (g := subP) (ds_cons (kept_place (hK.ex e16) rfl) (ds_cons (d_var xv6 rfl) ds_nil)) (hp.mono (by decide)) (sp.mono (by decide))) (ds_cons (d_head (ds_cons (d_iC (f := fun i j => i * j) (d_vint rfl) (col (j := 3) rfl e16 rfl) (.inl ?_)) (ds_cons (col (j := 4) rfl e16 rfl) ds_nil)) hpq'.1 hpq'.2.1 hpq'.2.2) ds_nil)) (hsub.mono (by decide)) (hhead.mono (by decide))
        rcases hway with e | e <;> rw [e] <;> exact ⟨by decide, by decide⟩
      have e17 := e16.trans e7
      have ht := sm_trn hsub hhead
      refine ret rfl e17 (d := .tuple [.str "arc", pD s.place, pD (addP (spotM s fs x y) (trnP (subP s.place (spotM s fs x y)) (headP (way * p) q))), pD (spotM s fs x y), .int way]) (d_tup (ds_cons d_str (ds_cons (kept_place (hK.ex e17) rfl) (ds_cons (d_turn (b := 401000) (c := 401000) (g := addP) (ds_cons (d_var (xv6.ex e7) rfl) (ds_cons (d_var xt rfl) ds_nil)) (sp.mono (by decide)) (ht.mono (by decide))) (ds_cons (d_var (xv6.ex e7) rfl) (ds_cons (d_vint rfl) ds_nil))))) (by show 5 ≤ 100000; decide)) ?_
      simp only [madeD, stepOf, hfar, ← hw]
      rfl
  | _ => cases hst
end
end Kx

set_option Elab.async false
set_option linter.all false
set_option maxRecDepth 100000
set_option maxHeartbeats 4000000
namespace Kx
open PySem PySem.Spec PyProof.Rows L2 Evl HT TL
/-! ### where a piece is -/
theorem eqv_row {r : Row} {x : Str} {es : List PyData} : PyData.eqv (rowD r) (.tuple (.str x :: es)) = (decide (wordR r = x) && PyData.eqvAll (valsR r) es) := by
  show PyData.eqv (.tuple (.str (wordR r) :: valsR r)) _ = _
  rw [PyData.eqv, PyData.eqvAll, PyData.eqv]
  rfl
theorem eqv_fin {r : Row} : PyData.eqv (rowD r) (.tuple [.str "end"]) = decide (r = .fin) := by
  rw [eqv_row, isFin_word]
  cases r with
  | fin => simp [isFin, valsR, PyData.eqvAll]
  | _ => simp [isFin]
theorem eqv_piece {r : Row} {nm : Str} : PyData.eqv (rowD r) (.tuple [.str "piece", .str nm]) = decide (r = .piece nm) := by
  rw [eqv_row, isPiece_word]
  cases r with
  | piece n => simp [isPiece, valsR, PyData.eqvAll, PyData.eqv]; rfl
  | _ => simp [isPiece]
theorem shp_row {r : Row} (h : OkRow r) : Shp 2 (rowD r) := shp_tup (n := 1) fun d hd => by
  rcases List.mem_cons.mp hd with rfl | hd
  · have all : ∀ x ∈ (["back", "by", "call", "cut", "end", "flip", "from", "hop", "left", "pace", "piece", "right", "run", "shift", "side", "turn"] : List Str), PyData.strOk x = true := by decide +kernel
    refine (shp_str (all _ ?_)).mono (by decide)
    cases r with
    | arc lf x y p q => cases lf <;> simp [wordR]
    | mode b => cases b <;> simp [wordR]
    | frame f => cases f <;> simp [wordR]
    | _ => simp [wordR]
  · obtain ⟨i, hi⟩ := List.mem_iff_getElem?.mp hd
    have q := row_rd h
    have l := q.len
    have li := (List.getElem?_eq_some_iff.mp hi).1
    have hc : (shapeR r).cps.toList[i]? = some (shapeR r).cps.toList[i] := List.getElem?_eq_getElem (by omega)
    have hx : (wordsR r)[i]? = some (wordsR r)[i] := List.getElem?_eq_getElem (by omega)
    obtain ⟨d', hd', hr⟩ := q.at hc hx
    rw [hi] at hd'
    cases hd'
    exact rdc_shp hr
theorem shp_rows {rs : List Row} (h : ∀ r ∈ rs, OkRow r) : Shp 3 (.list (rs.map rowD)) := shp_lst (n := 2) fun d hd => by
  obtain ⟨r, hr, rfl⟩ := List.mem_map.mp hd
  exact shp_row (h r hr)
def spSpan (K : PySem.W.Frag) : Sp := fun vs H Q _ => ∃ rw rvs rs nm, vs = [.ref rw, .str nm] ∧ H rw = some (.lst rvs) ∧ DtL K H rvs (rs.map rowD) ∧ (∀ r ∈ rs, OkRow r) ∧ WfR rs ∧ Row.piece nm ∈ rs ∧ rs.length ≤ 60 ∧
  ∀ p v H', H p = none → Ex H H' → H' p = some (.lst [.int (begOf rs nm), .int (endOf rs (begOf rs nm)), v]) → Dt K H' v (frsD []) → Q (.ref p) H'
section
variable {w : World} {K : PySem.W.Frag} {mg : Str → Option Value} {base : Heap}
theorem sc_span : FnScope ["_law_rows", "_law_name", "_law_begin", "_law_end"] ["_law_rows", "_law_name"] (defScope Kd.s__law_span) := ⟨rfl, rfl, rfl, by decide +kernel, rfl, by decide +kernel, by decide +kernel⟩
theorem ok_span (T : Tx w K mg) : Ok Pg w K mg base CX0 1 (He.ga K "_law_span") ["_law_rows", "_law_name"] (spSpan K) := by
  refine ok_of T.f__law_span sc_span (fun vs H Q E h => by obtain ⟨_, _, _, _, rfl, _⟩ := h; rfl) (fun _ _ _ _ _ _ us hl => match us, hl with | [_, _], _ => rfl) fun cdv A outer s0 H vs Q E hr h => ?_
  obtain ⟨rw, rvs, rs, nm, rfl, hW, hd, hok, W, hpm, hz, hk⟩ := h
  refine ⟨_, PSs.nox (pss_cons (ps_set (i := 2) sc_span.nd rfl (Or.inl rfl) (pe_op op_add (pe_bm PySem.F.plainAttrs_list PySem.F.slot_list_index PySem.F.type_list_index (mt_indexD (hu65 hr)) (pv 0) (pa_cons (pe_tup (pa_cons pe_str (pa_cons (pv 1) pa_nil))) pa_nil)) pe_int))
    (pss_cons (ps_set (i := 3) sc_span.nd rfl (Or.inl rfl) (pv 2))
    (pss_cons (ps_while PassesOwn.never (pt_cmpR (op_neD hr.units) (pe_ix ix_list (pv 0) (pv 3) fun _ _ => rfl) (pe_tup (pa_cons pe_str pa_nil)) (nomark _)) (pss_one (ps_set (i := 3) sc_span.nd rfl (Or.inl rfl) (pe_op op_add (pv 3) pe_int))))
    (pss_one (ps_ret (pe_lst (pa_cons (pv 2) (pa_cons (pv 3) (pa_cons (pe_tup pa_nil) pa_nil))))))))), ?_⟩
  obtain ⟨k, hk1, hk2⟩ := beg_at hpm
  have kf : rs.findIdx (fun r => decide (r = Row.piece nm)) = k := by unfold begOf at hk2; omega
  have S := sp_of W hpm
  have lenR := hd.len
  rw [List.length_map] at lenR
  -- the begin
  have hidx : EvD K (tBM K "list" (rIndexD K) (tVar 0) (tCons (tTup (tCons (tC (.str "piece")) (tCons (tVar 1) tNil))) tNil)) [some (.ref rw), some (.str nm), none, none] H (.int (k : Nat)) := fun H1 e1 Q' q' => by
    refine ⟨_, rfl, .inl ⟨rfl, rvs, sq_of (e1 _ _ hW)⟩, ?_⟩
    refine (d_tup2 (K := K) (σ := [some (.ref rw), some (.str nm), none, none]) (ds_cons d_str (ds_cons (d_vstr rfl) ds_nil))) H1 (Ex.refl _) _ fun v H2 e2 hv => ?_
    have e12 := e1.trans e2
    have hkz : (rs.map rowD)[k]? = some (rowD (.piece nm)) := by rw [List.getElem?_map, hk1]; rfl
    refine ⟨rw, v, .tuple [.str "piece", .str nm], rs.map rowD, k, rowD (.piece nm), rfl, rfl, .lst (sq_of (e12 _ _ hW)) (hd.ex e12).dp, hv.dp, (shp_rows hok).shaped (by decide), ?_, hkz, by rw [eqv_piece]; exact decide_eq_true rfl, fun m z' hm hz' => ?_, q' _ H2 e2 (.int _)⟩
    · exact (shp_row (hok _ hpm)).shaped (by decide)
    · rw [List.getElem?_map] at hz'
      cases hr' : rs[m]? with
      | none => rw [hr'] at hz'; cases hz'
      | some r' =>
        rw [hr'] at hz'
        cases hz'
        rw [eqv_piece]
        refine decide_eq_false fun e => ?_
        subst e
        have := dup_at W.dup hr' hk1
        omega
  refine q_asgD (K := K) (d := .int (begOf rs nm : Nat)) (EvD.is (d_ii (f := fun i j => i + j) hidx d_int) (by rw [hk2]; rfl)) fun v H1 e1 hv => ?_
  rw [hv.int_eq]
  refine q_asg (v := .int (begOf rs nm : Nat)) (ev_var rfl) fun H2 e2 => ?_
  have e12 := e1.trans e2
  -- the end
  refine q_while (fun m σ' H' => ∃ j : Nat, σ' = [some (.ref rw), some (.str nm), some (.int (begOf rs nm : Nat)), some (.int (j : Nat))] ∧ begOf rs nm ≤ j ∧ j ≤ endOf rs (begOf rs nm) ∧ m = endOf rs (begOf rs nm) - j ∧ Ex H H') (endOf rs (begOf rs nm) - begOf rs nm) ⟨_, rfl, Nat.le_refl _, S.le, rfl, e12⟩ ?_
  rintro m σ' H' ⟨j, rfl, hj1, hj2, rfl, ex⟩
  have hjl : j < rs.length := Nat.lt_of_le_of_lt hj2 (List.getElem?_eq_some_iff.mp S.fin).1
  have hj : rs[j]? = some rs[j] := List.getElem?_eq_getElem hjl
  have at_ : EvD K (tOp (rIxL K) (tVar 0) (tVar 3)) [some (.ref rw), some (.str nm), some (.int (begOf rs nm : Nat)), some (.int (j : Nat))] H' (rowD rs[j]) := d_at (ev_var rfl) (ex _ _ hW) (hd.ex ex) (d_vint rfl) (atI_nat' (by rw [List.getElem?_map, hj]; rfl))
  have tst := t_test (K := K) (ne_ev at_ (d_tup (K := K) (σ := [some (.ref rw), some (.str nm), some (.int (begOf rs nm : Nat)), some (.int (j : Nat))]) (H := H') (ds_cons (d_str (s := "end")) ds_nil) (by show 1 ≤ 100000; decide)) ((shp_row (hok _ (List.getElem_mem hjl))).shaped (by decide)) ((shp_row (r := .fin) trivial).shaped (by decide)))
  rw [eqv_fin] at tst
  refine ⟨_, tst, fun hb H3 e3 => ?_, fun hb H3 e3 => ?_⟩
  · have hlt : j < endOf rs (begOf rs nm) := by
      rcases Nat.lt_or_eq_of_le hj2 with h | h
      · exact h
      · have hf := S.fin
        rw [← h, hj] at hf
        rw [Option.some.inj hf] at hb
        simp at hb
    refine ⟨fun σ2 H4 => ∃ m', m' < endOf rs (begOf rs nm) - j ∧ ∃ j' : Nat, σ2 = [some (.ref rw), some (.str nm), some (.int (begOf rs nm : Nat)), some (.int (j' : Nat))] ∧ begOf rs nm ≤ j' ∧ j' ≤ endOf rs (begOf rs nm) ∧ m' = endOf rs (begOf rs nm) - j' ∧ Ex H H4, fun σ2 H4 ⟨m', a, b⟩ => ⟨m', a, b⟩, ?_⟩
    refine s_asgD (K := K) (d := .int ((j + 1 : Nat) : Int)) (EvD.is (d_ii (f := fun i j => i + j) (d_vint rfl) d_int) (by simp)) fun v H4 e4 hv => ?_
    rw [hv.int_eq]
    exact ⟨endOf rs (begOf rs nm) - (j + 1), by omega, j + 1, rfl, by omega, by omega, rfl, (ex.trans e3).trans e4⟩
  · have hje : j = endOf rs (begOf rs nm) := by
      rcases Nat.lt_or_eq_of_le hj2 with h | h
      · have hp := S.inn j _ hj1 h hj
        have he : rs[j] = .fin := by simpa using hb
        rw [he] at hp
        cases hp
      · exact h
    subst hje
    have ex3 := ex.trans e3
    refine s_retN (K := K) (n_lst (ds_cons (d_vint rfl) (ds_cons (d_vint rfl) (ds_cons (d_tup ds_nil (by show 0 ≤ 100000; decide)) ds_nil))) (by show 3 ≤ 100000; decide)) fun p xs H4 hp e4 hx hus => ?_
    obtain ⟨u0, u1, u2, rfl, x0, x1, x2⟩ := hus.three
    rw [x0.int_eq, x1.int_eq] at hx
    exact hk p u2 _ (fresh_back ex3 hp) (ex3.trans e4) hx x2
end
end Kx

set_option Elab.async false
set_option linter.all false
set_option maxRecDepth 100000
set_option maxHeartbeats 4000000
namespace Kx
open PySem PySem.Spec PyProof.Rows L2 Evl HT TL
/-! ### rows that make no step -/
section
variable {K : PySem.W.Frag} {σ : L2.St} {H : Hp} {ta tb tc te : TE} {ds es : List PyData} {d : PyData} {D : Ends} {tz : TS}
theorem inV_strs {x : Str} {ws : List Str} : inV (.str x) (ws.map V.str) = decide (x ∈ ws) := by
  unfold inV
  induction ws with
  | nil => rfl
  | cons w ws ih =>
    rw [List.map_cons, List.any_cons, ih]
    show (w == x || decide (x ∈ ws)) = _
    by_cases h : w = x
    · subst h; simp
    · rw [beq_eq_false_iff_ne.mpr h]
      have : x ≠ w := fun e => h e.symm
      simp [this]
theorem d_inL {x : Str} {ws : List Str} (ha : EvD K ta σ H (.str x)) (hb : EvN K tb σ H (ws.map .str)) : EvD K (tOp (rIn K false) ta tb) σ H (.bool (decide (x ∈ ws))) := fun H1 e Q q =>
  ha.str H1 e _ fun H2 e2 => hb H2 (e.trans e2) _ fun p xs H3 _ e3 h3 d3 => by
    rw [dtl_str_eq d3] at h3
    refine ⟨p, _, rfl, .inl (sq_of h3), rfl, ?_, ?_⟩
    · rw [List.all_eq_true]
      intro v hv
      obtain ⟨w, _, rfl⟩ := List.mem_map.mp hv
      rfl
    · rw [inV_strs]
      exact q _ H3 (e2.trans e3) (.bl _)
/-- a list's item written -/
theorem s_setL {l : Addr} {xs : List V} {i : Int} {j : Nat} (h : EvD K te σ H d) (ha : Ev ta σ H (.ref l)) (hb : EvD K tb σ H (.int i)) (hl : H l = some (.lst xs)) (hj : ixN xs.length i = some j) (k : ∀ v H1, Ex H H1 → Dt K H1 v d → H1 l = some (.lst xs) → D.nx σ (upd H1 l (.lst (xs.set j v)))) :
    tAsg te (gSub ta tb rSetL) D σ H := h H (Ex.refl H) _ fun v H1 e1 hv => ha H1 e1 _ fun H2 e2 => hb.int H2 (e1.trans e2) _ fun H3 e3 => by
  have e := (e1.trans e2).trans e3
  exact ⟨l, xs, i, j, rfl, rfl, e _ _ hl, hj, k v H3 e (hv.ex (e2.trans e3)) (e _ _ hl)⟩
theorem q_setL {l : Addr} {xs : List V} {i : Int} {j : Nat} (h : EvD K te σ H d) (ha : Ev ta σ H (.ref l)) (hb : EvD K tb σ H (.int i)) (hl : H l = some (.lst xs)) (hj : ixN xs.length i = some j) (k : ∀ v H1, Ex H H1 → Dt K H1 v d → H1 l = some (.lst xs) → tz D σ (upd H1 l (.lst (xs.set j v)))) :
    tSeq (tAsg te (gSub ta tb rSetL)) tz D σ H := s_setL (D := { D with nx := tz D }) h ha hb hl hj k
theorem ev_ixL {l : Addr} {xs : List V} {i : Int} {v : V} (ha : Ev ta σ H (.ref l)) (hl : H l = some (.lst xs)) (hb : EvD K tb σ H (.int i)) (hv : atI xs i = some v) : Ev (tOp (rIxL K) ta tb) σ H v := fun H1 e Q q =>
  ha H1 e _ fun H2 e2 => hb.int H2 (e.trans e2) _ fun H3 e3 => ⟨l, xs, i, v, rfl, rfl, sq_of ((e.trans (e2.trans e3)) _ _ hl), hv, q H3 (e2.trans e3)⟩
end
def keepErr (r : Row) (fs : List Fr) (c : Nat) : Bool := match r with
  | .back => decide (fs = [])
  | .frame _ => decide (c = 8)
  | _ => false
def keepS (s : Ms) : Row → Ms
  | .mode b => { s with by_ := b }
  | .pace g => { s with pace := g }
  | .side u => { s with side := u }
  | _ => s
def keepF (fs : List Fr) : Row → List Fr
  | .frame f => fs ++ [f]
  | .back => fs.dropLast
  | _ => fs
def spKeep (K : PySem.W.Frag) : Sp := fun vs H Q _ => ∃ kp lv rv s pre a p e fv fs r, ∃ c : Nat, vs = [.ref kp, .ref lv, rv, .int c] ∧ KeptAt K H kp s ∧ H lv = some (.lst (pre ++ [.ref a])) ∧ H a = some (.lst [.int p, .int e, fv]) ∧ Dt K H fv (frsD fs) ∧ fs.length ≤ 8 ∧ Dt K H rv (rowD r) ∧ isStep r = false ∧ isCall r = false ∧ plain r = true ∧
  (keepErr r fs c = true → ∀ H', Ex H H' → Q (.str "frame") H') ∧
  (keepErr r fs c = false → ∀ H' fv', KeptAt K H' kp (keepS s r) → H' a = some (.lst [.int p, .int e, fv']) → Dt K H' fv' (frsD (keepF fs r)) → Kp [kp, a] H H' → Q .non H')
section
variable {w : World} {K : PySem.W.Frag} {mg : Str → Option Value} {base : Heap}
theorem sc_keep : FnScope ["_law_kept", "_law_levels", "_law_row_here", "_law_count", "_law_level"] ["_law_kept", "_law_levels", "_law_row_here", "_law_count"] (defScope Kd.s__law_keep) := ⟨rfl, rfl, rfl, by decide +kernel, rfl, by decide +kernel, by decide +kernel⟩
theorem ok_keep (T : Tx w K mg) : Ok Pg w K mg base CX0 1 (He.ga K "_law_keep") ["_law_kept", "_law_levels", "_law_row_here", "_law_count"] (spKeep K) := by
  refine ok_of T.f__law_keep sc_keep (fun vs H Q E h => by obtain ⟨_, _, _, _, _, _, _, _, _, _, _, _, rfl, _⟩ := h; rfl) (fun _ _ _ _ _ _ us hl => match us, hl with | [_, _, _, _], _ => rfl) fun cdv A outer s0 H vs Q E hr h => ?_
  obtain ⟨kp, lv, rv, s, pre, a, p, e, fv, fs, r, c, rfl, hK, hL, hA, hF, hl8, hR, hst, hca, hpl, hke, hkk⟩ := h
  refine ⟨_, PSs.nox (pss_cons (ps_set (i := 4) sc_keep.nd rfl (Or.inl rfl) (pe_ix ix_list (pv 1) (pe_un un_neg pe_int) fun _ _ => rfl))
    (pss_cons (ps_if (pt_cmpR op_in_seq (px (pv 2)) (pe_lst (pa_cons pe_str (pa_cons pe_str pa_nil))) (by rfl)) (pss_one (ps_asg (px (pv 2)) (pg_sub (pv 0) pe_int set_list))) (pss_one (ps_if (pt_cmpR op_eq (px (pv 2)) pe_str (nomark _)) (pss_one (ps_asg (px (pv 2)) (pg_sub (pv 0) pe_int set_list))) (pss_one (ps_if (pt_cmpR op_eq (px (pv 2)) pe_str (nomark _)) (pss_one (ps_asg (px (pv 2)) (pg_sub (pv 0) pe_int set_list))) (pss_one (ps_if (PW.pt (pw_or (PW.pt (pw_and (pt_cmpR op_eq (px (pv 2)) pe_str (nomark _)) (pw_and1 (pt_cmpR (op_eqD hr.units) (pe_ix ix_list (pv 4) pe_int fun _ _ => rfl) (pe_tup pa_nil) (nomark _))))) (pw_or1 (PW.pt (pw_and (pt_cmpR op_in_seq (px (pv 2)) (pe_lst (pa_cons pe_str (pa_cons pe_str (pa_cons pe_str pa_nil)))) (by rfl)) (pw_and1 (pt_cmpR op_eq (pv 3) pe_int (nomark _)))))))) (pss_one (ps_ret pe_str)) (pss_one (ps_if (pt_cmpR op_eq (px (pv 2)) pe_str (nomark _)) (pss_one (ps_asg (pe_slice sl_tupA (pe_ix ix_list (pv 4) pe_int fun _ _ => rfl) po_none (po_some (pe_un un_neg pe_int))) (pg_sub (pv 4) pe_int set_list))) (pss_one (ps_asg (pe_op op_catA (pe_ix ix_list (pv 4) pe_int fun _ _ => rfl) (pe_tup (pa_cons (pv 2) pa_nil))) (pg_sub (pv 4) pe_int set_list))))))))))))
    (pss_one (ps_ret pe_non)))), ?_⟩
  obtain ⟨pv, sv, hKl, hpv, hsv⟩ := id hK
  have nka : kp ≠ a := by
    rintro rfl
    rw [hKl] at hA
    cases hA
  refine q_asg (v := .ref a) (ev_ixL (ev_var rfl) hL (d_m1 (K := K)) (atI_last _ _)) fun H1 e1 => ?_
  have wrd : ∀ {σ : L2.St} {H1 : Hp} {x : Str}, σ[2]? = some (some rv) → Ex H H1 → EvT (tTest (tOp rEq (tOp (rIxT K) (tVar 2) (tC (.int 0))) (tC (.str x)))) σ H1 (decide (wordR r = x)) := fun h e => t_test (K := K) (d_eqS (d_word (d_var (hR.ex e) h)) d_str)
  have in2 : ∀ {σ : L2.St} {H1 : Hp}, σ[2]? = some (some rv) → Ex H H1 → EvT (tTest (tOp (rIn K false) (tOp (rIxT K) (tVar 2) (tC (.int 0))) (tLst (tCons (tC (.str "by")) (tCons (tC (.str "from")) tNil))))) σ H1 (decide (wordR r ∈ (["by", "from"] : List Str))) := fun h e => t_test (K := K) (d_inL (ws := ["by", "from"]) (d_word (d_var (hR.ex e) h)) (n_lst (ds_cons d_str (ds_cons d_str ds_nil)) (by show 2 ≤ 100000; decide)))
  have in3 : ∀ {σ : L2.St} {H1 : Hp}, σ[2]? = some (some rv) → Ex H H1 → EvT (tTest (tOp (rIn K false) (tOp (rIxT K) (tVar 2) (tC (.int 0))) (tLst (tCons (tC (.str "shift")) (tCons (tC (.str "turn")) (tCons (tC (.str "flip")) tNil)))))) σ H1 (decide (wordR r ∈ (["shift", "turn", "flip"] : List Str))) := fun h e => t_test (K := K) (d_inL (ws := ["shift", "turn", "flip"]) (d_word (d_var (hR.ex e) h)) (n_lst (ds_cons d_str (ds_cons d_str (ds_cons d_str ds_nil))) (by show 3 ≤ 100000; decide)))
  have col1 : ∀ {σ : L2.St} {H1 : Hp} {d : PyData} {ds : List PyData}, σ[2]? = some (some rv) → Ex H H1 → valsR r = d :: ds → EvD K (tOp (rIxT K) (tVar 2) (tC (.int 1))) σ H1 d := fun h e hj => d_ix (ds := .str (wordR r) :: valsR r) (d_var (hR.ex e) h) d_int (atI_nat' (j := 1) (by rw [hj]; rfl))
  have done : ∀ {H' : Hp} {fv' : V}, keepErr r fs c = false → KeptAt K H' kp (keepS s r) → H' a = some (.lst [.int p, .int e, fv']) → Dt K H' fv' (frsD (keepF fs r)) → Kp [kp, a] H H' → tRet (tC .non) { nx := fun _ H' => Q .non H', rt := Q } [some (.ref kp), some (.ref lv), some rv, some (.int c), some (.ref a)] H' := fun {H' fv'} h0 h1 h2 h3 h4 =>
    s_ret (v := .non) ev_c fun H'' e'' => hkk h0 H'' fv' (h1.ex e'') (e'' _ _ h2) (h3.ex e'') (h4.trans (Kp.ex e''))
  -- the kept list written
  have wk : ∀ {H' : Hp} {i : Nat} {v : V}, Ex H H' → keepErr r fs c = false → keepF fs r = fs → KeptAt K (upd H' kp (.lst ([pv, .str (modeS s.by_), .int s.pace, sv].set i v))) kp (keepS s r) → tRet (tC .non) { nx := fun _ H' => Q .non H', rt := Q } [some (.ref kp), some (.ref lv), some rv, some (.int c), some (.ref a)] (upd H' kp (.lst ([pv, .str (modeS s.by_), .int s.pace, sv].set i v))) := fun {H' i v} ex h0 hf h1 => by
    have tk : TK H' (upd H' kp (.lst ([pv, .str (modeS s.by_), .int s.pace, sv].set i v))) := TK.upd (ex _ _ hKl) trivial
    refine done h0 h1 (fv' := fv) (by rw [upd_ne (Ne.symm nka)]; exact ex _ _ hA) ?_ ((Kp.ex ex).trans (.wr (by simp)))
    rw [hf]
    exact (hF.ex ex).tk tk
  have wa : ∀ {H' : Hp} {v : V}, Ex H H' → keepErr r fs c = false → keepS s r = s → Dt K H' v (frsD (keepF fs r)) → tRet (tC .non) { nx := fun _ H' => Q .non H', rt := Q } [some (.ref kp), some (.ref lv), some rv, some (.int c), some (.ref a)] (upd H' a (.lst ([.int p, .int e, fv].set 2 v))) := fun {H' v} ex h0 hs hv => by
    have tk : TK H' (upd H' a (.lst ([.int p, .int e, fv].set 2 v))) := TK.upd (ex _ _ hA) trivial
    refine done h0 ?_ (fv' := v) upd_same (hv.tk tk) ((Kp.ex ex).trans (.wr (by simp)))
    rw [hs]
    exact ⟨pv, sv, by rw [upd_ne nka]; exact ex _ _ hKl, (hpv.ex ex).tk tk, (hsv.ex ex).tk tk⟩
  have lv2 : ∀ {σ : L2.St} {H1 : Hp}, σ[4]? = some (some (.ref a)) → Ex H H1 → EvD K (tOp (rIxL K) (tVar 4) (tC (.int 2))) σ H1 (frsD fs) := fun h e => d_ixL (ev_var h) (sq_of (e _ _ hA)) d_int (v := fv) rfl (hF.ex e)
  cases r with
  | mode b =>
    have hw : wordR (.mode b) = modeS b := by cases b <;> rfl
    refine q_if (b := true) (et_is (in2 rfl e1) (by cases b <;> decide +kernel)) (fun _ H2 e2 => ?_) fun hb => absurd hb (by decide)
    have ex := e1.trans e2
    refine s_setL (K := K) (l := kp) (j := 1) (d := .str (modeS b)) (EvD.is (d_word (d_var (hR.ex ex) rfl)) (by rw [hw])) (ev_var rfl) d_int (ex _ _ hKl) rfl fun v H3 e3 hv h3 => ?_
    rw [hv.str_eq]
    have tk : TK H3 (upd H3 kp (.lst ([pv, .str (modeS s.by_), .int s.pace, sv].set 1 (.str (modeS b))))) := TK.upd h3 trivial
    exact wk (ex.trans e3) rfl rfl ⟨pv, sv, upd_same, (hpv.ex (ex.trans e3)).tk tk, (hsv.ex (ex.trans e3)).tk tk⟩
  | pace g =>
    refine q_if (b := false) (et_is (in2 rfl e1) (show decide (("pace" : Str) ∈ (["by", "from"] : List Str)) = false by decide +kernel)) (fun hb => absurd hb (by decide)) fun _ H2 e2 => ?_
    refine s_ifG (b := true) (et_is (wrd rfl (e1.trans e2)) (show decide (("pace" : Str) = "pace") = true by decide +kernel)) (fun _ H3 e3 => ?_) fun hb => absurd hb (by decide)
    have ex := (e1.trans e2).trans e3
    refine s_setL (K := K) (l := kp) (j := 2) (d := .int g) (col1 rfl ex rfl) (ev_var rfl) d_int (ex _ _ hKl) rfl fun v H4 e4 hv h4 => ?_
    rw [hv.int_eq]
    have tk : TK H4 (upd H4 kp (.lst ([pv, .str (modeS s.by_), .int s.pace, sv].set 2 (.int g)))) := TK.upd h4 trivial
    exact wk (ex.trans e4) rfl rfl ⟨pv, sv, upd_same, (hpv.ex (ex.trans e4)).tk tk, (hsv.ex (ex.trans e4)).tk tk⟩
  | side u =>
    refine q_if (b := false) (et_is (in2 rfl e1) (show decide (("side" : Str) ∈ (["by", "from"] : List Str)) = false by decide +kernel)) (fun hb => absurd hb (by decide)) fun _ H2 e2 => ?_
    refine s_ifG (b := false) (et_is (wrd rfl (e1.trans e2)) (show decide (("side" : Str) = "pace") = false by decide +kernel)) (fun hb => absurd hb (by decide)) fun _ H3 e3 => ?_
    refine s_ifG (b := true) (et_is (wrd rfl ((e1.trans e2).trans e3)) (show decide (("side" : Str) = "side") = true by decide +kernel)) (fun _ H4 e4 => ?_) fun hb => absurd hb (by decide)
    have ex := ((e1.trans e2).trans e3).trans e4
    refine s_setL (K := K) (l := kp) (j := 3) (d := nD u) (col1 rfl ex rfl) (ev_var rfl) d_int (ex _ _ hKl) rfl fun v H5 e5 hv h5 => ?_
    have tk : TK H5 (upd H5 kp (.lst ([pv, .str (modeS s.by_), .int s.pace, sv].set 3 v))) := TK.upd h5 trivial
    exact wk (ex.trans e5) rfl rfl ⟨pv, v, upd_same, (hpv.ex (ex.trans e5)).tk tk, hv.tk tk⟩
  | back =>
    refine q_if (b := false) (et_is (in2 rfl e1) (by decide +kernel)) (fun hb => absurd hb (by decide)) fun _ H2 e2 => ?_
    refine s_ifG (b := false) (et_is (wrd rfl (e1.trans e2)) (by decide +kernel)) (fun hb => absurd hb (by decide)) fun _ H3 e3 => ?_
    refine s_ifG (b := false) (et_is (wrd rfl ((e1.trans e2).trans e3)) (by decide +kernel)) (fun hb => absurd hb (by decide)) fun _ H4 e4 => ?_
    have ex := ((e1.trans e2).trans e3).trans e4
    have cmp : EvD K (tOp (rEqD K) (tOp (rIxL K) (tVar 4) (tC (.int 2))) (tTup tNil)) [some (.ref kp), some (.ref lv), some rv, some (.int c), some (.ref a)] H4 (.bool (decide (fs = []))) := by
      have q := eq_ev (K := K) (lv2 (σ := [some (.ref kp), some (.ref lv), some rv, some (.int c), some (.ref a)]) rfl ex) (d_tup (σ := [some (.ref kp), some (.ref lv), some rv, some (.int c), some (.ref a)]) ds_nil (by show 0 ≤ 100000; decide)) ((shp_frsD fs).shaped (by decide)) (by decide +kernel)
      rw [eqv_frs] at q
      exact q
    refine s_ifG (b := decide (fs = [])) (et_is (et_or (et_and (wrd rfl ex) fun _ => t_test (K := K) cmp) fun _ => et_and (b := false) (in3 rfl ex) fun z => absurd z (by decide +kernel)) ?_) (fun hb H5 e5 => ?_) fun hb H5 e5 => ?_
    · have w1 : decide (wordR .back = "back") = true := by decide +kernel
      rw [w1, Bool.true_and, Bool.and_false, Bool.or_false]
    · exact s_ret (v := .str "frame") ev_c fun H6 e6 => hke hb H6 ((ex.trans e5).trans e6)
    · have ex5 := ex.trans e5
      refine s_ifG (b := true) (et_is (wrd rfl ex5) (by decide +kernel)) (fun _ H6 e6 => ?_) fun hb => absurd hb (by decide)
      have ex6 := ex5.trans e6
      refine s_setL (K := K) (l := a) (j := 2) (d := frsD fs.dropLast) (EvD.is (d_slT (lv2 rfl ex6) eo_none (eo_some (d_m1 (K := K)).int)) ?_) (ev_var rfl) d_int (ex6 _ _ hA) rfl fun v H7 e7 hv h7 => ?_
      · rw [cut_last]
        show PyData.tuple _ = .tuple (fs.dropLast.map frD)
        rw [List.map_dropLast]
      · exact wa (ex6.trans e7) hb rfl hv
  | frame f =>
    have wf : wordR (.frame f) = "shift" ∨ wordR (.frame f) = "turn" ∨ wordR (.frame f) = "flip" := by
      cases f with
      | shift a b => exact .inl rfl
      | turn p q => exact .inr (.inl rfl)
      | flip => exact .inr (.inr rfl)
    have no : ∀ x ∈ (["pace", "side", "back"] : List Str), decide (wordR (.frame f) = x) = false := fun x hx => by
      have key : ∀ x ∈ (["pace", "side", "back"] : List Str), decide (("shift" : Str) = x) = false ∧ decide (("turn" : Str) = x) = false ∧ decide (("flip" : Str) = x) = false := by decide +kernel
      obtain ⟨k1, k2, k3⟩ := key x hx
      rcases wf with e | e | e <;> rw [e] <;> assumption
    have n2 : decide (wordR (.frame f) ∈ (["by", "from"] : List Str)) = false := by rcases wf with e | e | e <;> rw [e] <;> decide +kernel
    have y3 : decide (wordR (.frame f) ∈ (["shift", "turn", "flip"] : List Str)) = true := by rcases wf with e | e | e <;> rw [e] <;> decide +kernel
    refine q_if (b := false) (et_is (in2 rfl e1) n2) (fun hb => absurd hb (by decide)) fun _ H2 e2 => ?_
    refine s_ifG (b := false) (et_is (wrd rfl (e1.trans e2)) (no _ (by simp))) (fun hb => absurd hb (by decide)) fun _ H3 e3 => ?_
    refine s_ifG (b := false) (et_is (wrd rfl ((e1.trans e2).trans e3)) (no _ (by simp))) (fun hb => absurd hb (by decide)) fun _ H4 e4 => ?_
    have ex := ((e1.trans e2).trans e3).trans e4
    refine s_ifG (b := decide (c = 8)) (et_is (et_or (et_and (b := false) (wrd rfl ex) fun z => absurd (z.symm.trans (no _ (by simp))) (by decide)) fun _ => et_and (in3 rfl ex) fun _ => t_test (K := K) (d_eqI (d_vint rfl) d_int)) ?_) (fun hb H5 e5 => ?_) fun hb H5 e5 => ?_
    · rw [y3, Bool.and_false, Bool.false_or, Bool.true_and]
      exact decide_eq_decide.mpr ⟨fun h => by omega, fun h => by omega⟩
    · exact s_ret (v := .str "frame") ev_c fun H6 e6 => hke hb H6 ((ex.trans e5).trans e6)
    · have ex5 := ex.trans e5
      refine s_ifG (b := false) (et_is (wrd rfl ex5) (no _ (by simp))) (fun hb => absurd hb (by decide)) fun _ H6 e6 => ?_
      have ex6 := ex5.trans e6
      refine s_setL (K := K) (l := a) (j := 2) (d := frsD (fs ++ [f])) (EvD.is (d_catT (lv2 rfl ex6) (d_tup (ds_cons (d_var (hR.ex ex6) rfl) ds_nil) (by show 1 ≤ 100000; decide)) (by rw [List.length_map]; show _ + 1 ≤ 100000; omega)) ?_) (ev_var rfl) d_int (ex6 _ _ hA) rfl fun v H7 e7 hv h7 => ?_
      · show PyData.tuple _ = .tuple ((fs ++ [f]).map frD)
        rw [List.map_append, rowD_frame]
        rfl
      · exact wa (ex6.trans e7) hb rfl hv
  | hop x y => cases hst
  | cut x y => cases hst
  | run x y z => cases hst
  | arc x y z p q => cases hst
  | piece x => cases hpl
  | fin => cases hpl
  | call x y => cases hca
end
end Kx

set_option Elab.async false
set_option linter.all false
set_option maxRecDepth 100000
set_option maxHeartbeats 4000000
namespace Kx
open PySem PySem.Spec PyProof.Rows L2 Evl HT TL
/-! ### the law's levels and calls -/
def LvObj (K : PySem.W.Frag) (H : Hp) (a : Addr) (p e : Nat) (fs : List Fr) : Prop := ∃ v, H a = some (.lst [.int (p : Int), .int (e : Int), v]) ∧ Dt K H v (frsD fs)
/-- where the rows of the topmost level end -/
def EndL (rs : List Row) : List Lv → Nat
  | [] => rs.length
  | c :: _ => match rs[c.row]? with
    | some (.call nm _) => endOf rs (begOf rs nm)
    | _ => 0
/-- levels that have called -/
def Lvs (K : PySem.W.Frag) (H : Hp) (rs : List Row) : List Addr → List Lv → Prop
  | [], [] => True
  | a :: as, c :: rest => LvObj K H a (c.row + 1) (EndL rs rest) c.frs ∧ Lvs K H rs as rest
  | _, _ => False
structure LvP (K : PySem.W.Frag) (H : Hp) (rs : List Row) (rw lv cl a0 : Addr) (as : List Addr) (l : Lv) (rest : List Lv) : Prop where
  rows : ∃ rvs, H rw = some (.lst rvs) ∧ DtL K H rvs (rs.map rowD)
  lst : H lv = some (.lst (as.reverse.map V.ref ++ [V.ref a0]))
  top : LvObj K H a0 l.row (EndL rs rest) l.frs
  bel : Lvs K H rs as rest
  cal : ∃ cvs, H cl = some (.lst cvs) ∧ DtL K H cvs (trailD rest)
  nd : (rw :: lv :: cl :: a0 :: as).Nodup
section
variable {K : PySem.W.Frag} {H H' : Hp} {rs : List Row}
theorem LvObj.kp {a : Addr} {p e : Nat} {fs : List Fr} (h : LvObj K H a p e fs) (k : ∀ o, H a = some o → H' a = some o) (tk : TK H H') : LvObj K H' a p e fs := let ⟨v, h1, h2⟩ := h; ⟨v, k _ h1, h2.tk tk⟩
theorem Lvs.kp : ∀ {as : List Addr} {rest : List Lv}, Lvs K H rs as rest → (∀ a ∈ as, ∀ o, H a = some o → H' a = some o) → TK H H' → Lvs K H' rs as rest
  | [], [], _, _, _ => trivial
  | a :: as, c :: rest, h, k, tk => ⟨h.1.kp (k a (List.mem_cons_self ..)) tk, Lvs.kp h.2 (fun x hx => k x (List.mem_cons_of_mem _ hx)) tk⟩
  | [], _ :: _, h, _, _ => h.elim
  | _ :: _, [], h, _, _ => h.elim
theorem Lvs.len : ∀ {as : List Addr} {rest : List Lv}, Lvs K H rs as rest → as.length = rest.length
  | [], [], _ => rfl
  | a :: as, c :: rest, h => by rw [List.length_cons, List.length_cons, Lvs.len h.2]
  | [], _ :: _, h => h.elim
  | _ :: _, [], h => h.elim
theorem Lvs.there : ∀ {as : List Addr} {rest : List Lv}, Lvs K H rs as rest → ∀ a ∈ as, ∃ o, H a = some o
  | [], [], _, _, h => by cases h
  | a :: as, c :: rest, h, x, hx => by
    rcases List.mem_cons.mp hx with rfl | hx
    · obtain ⟨v, h1, _⟩ := h.1; exact ⟨_, h1⟩
    · exact Lvs.there h.2 x hx
  | [], _ :: _, h, _, _ => h.elim
  | _ :: _, [], h, _, _ => h.elim
theorem LvP.ex {rw lv cl a0 : Addr} {as : List Addr} {l : Lv} {rest : List Lv} (h : LvP K H rs rw lv cl a0 as l rest) (e : Ex H H') : LvP K H' rs rw lv cl a0 as l rest :=
  ⟨let ⟨rvs, a, b⟩ := h.rows; ⟨rvs, e _ _ a, b.ex e⟩, e _ _ h.lst, h.top.kp (fun o ho => e _ _ ho) (.ex e), h.bel.kp (fun a _ o ho => e _ _ ho) (.ex e), let ⟨cvs, a, b⟩ := h.cal; ⟨cvs, e _ _ a, b.ex e⟩, h.nd⟩
end
def spNext (K : PySem.W.Frag) : Sp := fun vs H Q _ => ∃ rw lv cl a0 as l rest rs, vs = [.ref rw, .ref lv, .ref cl] ∧ LvP K H rs rw lv cl a0 as l rest ∧ WfR rs ∧ (∀ r ∈ rs, OkRow r) ∧ rs.length ≤ 60 ∧ Chain rs l rest ∧ rest.length ≤ 8 ∧
  (∀ l' rest' a0' as' H', pass1 rs (l :: rest) = some (l' :: rest') → LvP K H' rs rw lv cl a0' as' l' rest' → (∀ x ∈ a0' :: as', x ∈ a0 :: as ∨ H x = none) → Kp (lv :: cl :: a0 :: as) H H' → Q (.bl true) H') ∧
  (pass1 rs (l :: rest) = none → ∀ H', Ex H H' → Q (.bl false) H')
section
variable {K : PySem.W.Frag} {σ : L2.St} {H : Hp} {ta tb tc te : TE} {ds es : List PyData} {d : PyData} {D : Ends} {tz : TS} {E : XK}
/-- the end of a piece, and one more -/
theorem d_spanE {rw : Addr} {rvs : List V} {rs : List Row} {nm : Str} (ha : Ev ta σ H (.ref rw)) (hb : EvD K tb σ H (.str nm)) (hW : H rw = some (.lst rvs)) (hd : DtL K H rvs (rs.map rowD)) (hok : ∀ r ∈ rs, OkRow r) (W : WfR rs) (hm : Row.piece nm ∈ rs) (hz : rs.length ≤ 60) :
    EvD K (tOp (rIxL K) (tCall (spSpan K) [] E (tCons ta (tCons tb tNil))) (tC (.int 1))) σ H (.int (endOf rs (begOf rs nm) : Nat)) := fun H1 e Q q => by
  show (tCons ta (tCons tb tNil)) σ H1 fun vs H2 => spSpan K (vs ++ []) H2 (fun x H3 => rIxL K x (.int 1) H3 Q) E
  refine (ea_cons ha (ea_cons hb.str ea_nil)) H1 e _ fun H2 e2 => ?_
  have eH := e.trans e2
  exact ⟨rw, rvs, rs, nm, rfl, eH _ _ hW, hd.ex eH, hok, W, hm, hz, fun p v H3 hp e3 h3 hv => ⟨p, _, 1, .int (endOf rs (begOf rs nm) : Nat), rfl, rfl, sq_of h3, rfl, q _ H3 (e2.trans e3) (.int _)⟩⟩
theorem q_popV {l : Addr} {xs : List V} {x : V} (hl : H l = some (.lst (xs ++ [x]))) (ha : Ev ta σ H (.ref l)) (k : ∀ H1, Ex H H1 → H1 l = some (.lst (xs ++ [x])) → tz D σ (upd H1 l (.lst xs))) : tSeq (tDrop (tBM0 K "list" rPop ta)) tz D σ H := ha H (Ex.refl H) _ fun H1 e1 => by
  refine ⟨Or.inl ⟨rfl, _, sq_of (e1 l _ hl)⟩, l, xs ++ [x], x, rfl, rfl, e1 l _ hl, by simp, ?_⟩
  rw [List.dropLast_concat]
  exact k H1 e1 (e1 l _ hl)
theorem q_popPair {l : Addr} {xs : List V} {i j : Nat} {d1 d2 : PyData} (hl : H l = some (.lst xs)) (ha : Ev ta σ H (.ref l)) (hd : DtL K H xs (ds ++ [.tuple [d1, d2]])) (k : ∀ v w H1, Ex H H1 → H1 l = some (.lst xs) → Dt K (upd H1 l (.lst xs.dropLast)) v d1 → Dt K (upd H1 l (.lst xs.dropLast)) w d2 → DtL K H1 xs.dropLast ds → tz D ((σ.set i (some v)).set j (some w)) (upd H1 l (.lst xs.dropLast))) :
    tSeq (tAsg (tBM0 K "list" rPop ta) (gTup K 2 (gCons (gName i) (gCons (gName j) gNil)))) tz D σ H := ha H (Ex.refl H) _ fun H1 e1 => by
  obtain ⟨h1, y, h2, h3⟩ := hd.pop
  have hl1 := e1 l _ hl
  refine ⟨Or.inl ⟨rfl, xs, sq_of hl1⟩, l, xs, y, rfl, rfl, hl1, h2, ?_⟩
  have tk : TK H1 (upd H1 l (.lst xs.dropLast)) := TK.upd hl1 trivial
  obtain ⟨p, ys, rfl, hs, hll⟩ := ((h3.ex e1).tk tk).tup_eq
  obtain ⟨v, w, rfl, hv, hw⟩ := hll.two
  exact ⟨p, _, rfl, hs, rfl, _, _, rfl, _, _, rfl, rfl, k _ _ H1 e1 hl1 hv hw (h1.ex e1)⟩
end
theorem Kp.sub {L L' : List Addr} {H H' : Hp} (h : Kp L H H') (s : ∀ x ∈ L, x ∈ L') : Kp L' H H' := fun b o n hb => h b o (fun m => n (s b m)) hb
theorem pass1_plain {rs : List Row} {l : Lv} {rest : List Lv} {r : Row} (h : rs[l.row]? = some r) (p : plain r = true) : pass1 rs (l :: rest) = none := by
  rw [pass1_cons, h]
  cases r <;> first | rfl | cases p
theorem plain_np {r : Row} (p : plain r = true) : isPiece r = false := by cases r <;> first | rfl | cases p
theorem EndL_call {rs : List Row} {c : Lv} {rest : List Lv} {nm : Str} {n : Nat} (h : rs[c.row]? = some (.call nm n)) : EndL rs (c :: rest) = endOf rs (begOf rs nm) := by
  simp only [EndL, h]
theorem next_cases {rs : List Row} (W : WfR rs) {l : Lv} {rest : List Lv} (hC : Chain rs l rest) : (∃ r, rs[l.row]? = some r ∧ plain r = true ∧ l.row < EndL rs rest) ∨ (rest = [] ∧ ∃ nm, rs[l.row]? = some (.piece nm)) ∨ (rest = [] ∧ l.row = rs.length) ∨
    ∃ c rest' nm n, rest = c :: rest' ∧ rs[c.row]? = some (.call nm n) ∧ c.turn < n ∧ rs[l.row]? = some .fin ∧ l.row = endOf rs (begOf rs nm) ∧ Chain rs c rest' := by
  cases rest with
  | nil =>
    have hC' : outs rs l.row := hC
    by_cases hlt : l.row < rs.length
    · have hr' : rs[l.row]? = some rs[l.row] := List.getElem?_eq_getElem hlt
      cases hp : plain rs[l.row] with
      | true => exact .inl ⟨_, hr', hp, hlt⟩
      | false =>
        cases hr : rs[l.row] with
        | piece nm => rw [hr] at hr'; exact .inr (.inl ⟨rfl, nm, hr'⟩)
        | fin => rw [hr] at hr'; exact (outs_nofin W.nest hC' hr').elim
        | _ => rw [hr] at hp; cases hp
    · exact .inr (.inr (.inl ⟨rfl, by have := hC'.2; omega⟩))
  | cons c rest' =>
    obtain ⟨⟨nm, n, hcr, hct, hb1, hb2⟩, hC'⟩ := hC
    obtain ⟨S, _⟩ := Wf.call W hcr
    rcases Nat.lt_or_eq_of_le hb2 with hlt | he
    · have hl : l.row < rs.length := Nat.lt_trans hlt (List.getElem?_eq_some_iff.mp S.fin).1
      have hr' : rs[l.row]? = some rs[l.row] := List.getElem?_eq_getElem hl
      exact .inl ⟨_, hr', S.inn _ _ hb1 hlt hr', by rw [EndL_call hcr]; exact hlt⟩
    · exact .inr (.inr (.inr ⟨c, rest', nm, n, rfl, hcr, hct, by rw [he]; exact S.fin, he, hC'⟩))
section
variable {w : World} {K : PySem.W.Frag} {mg : Str → Option Value} {base : Heap}
theorem sc_next : FnScope ["_law_rows", "_law_levels", "_law_calls", "_law_level", "_law_row_here", "_law_turn"] ["_law_rows", "_law_levels", "_law_calls"] (defScope Kd.s__law_next) := ⟨rfl, rfl, rfl, by decide +kernel, rfl, by decide +kernel, by decide +kernel⟩
theorem ok_next (T : Tx w K mg) : Ok Pg w K mg base CX0 2 (He.ga K "_law_next") ["_law_rows", "_law_levels", "_law_calls"] (spNext K) := by
  refine ok_of T.f__law_next sc_next (fun vs H Q E h => by obtain ⟨_, _, _, _, _, _, _, _, rfl, _⟩ := h; rfl) (fun _ _ _ _ _ _ us hl => match us, hl with | [_, _, _], _ => rfl) fun cdv A outer s0 H vs Q E hr h => ?_
  obtain ⟨rw, lv, cl, a0, as, l, rest, rs, rfl, hP, W, hok, hz, hC, hr8, hT, hF⟩ := h
  refine ⟨_, PSs.nox (pss_cons (ps_set (i := 3) sc_next.nd rfl (Or.inl rfl) (pe_ix ix_list (pv 1) (pe_un un_neg pe_int) fun _ _ => rfl))
    (pss_cons (ps_if (PW.pt (pw_and (pt_cmpR op_lt (pe_ix ix_list (pv 3) pe_int fun _ _ => rfl) (pe_ix ix_list (pv 3) pe_int fun _ _ => rfl) (nomark _)) (pw_and1 (pt_cmpR op_eq (px (pe_ix ix_list (pv 0) (pe_ix ix_list (pv 3) pe_int fun _ _ => rfl) fun _ _ => rfl)) pe_str (nomark _))))) (pss_cons (ps_asg (pe_op op_add (pe_ix ix_list (pe_fn (E := E) (ok_span T) (hr.mono (by decide)) T.g__law_span pass0 (pa_cons (pv 0) (pa_cons (px (pe_ix ix_list (pv 0) (pe_ix ix_list (pv 3) pe_int fun _ _ => rfl) fun _ _ => rfl)) pa_nil))) pe_int fun _ _ => rfl) pe_int) (pg_sub (pv 3) pe_int set_list))
    (pss_one (ps_ret pe_bl))) pss_nil)
    (pss_cons (ps_if (PW.pt (pw_or (pt_cmpR op_lt (pe_ix ix_list (pv 3) pe_int fun _ _ => rfl) (pe_ix ix_list (pv 3) pe_int fun _ _ => rfl) (nomark _)) (pw_or1 (pt_cmpR op_eq (pe_callB call_len_seq (by rfl) T.b_len PySem.boot_len (pa_cons (pv 1) pa_nil)) pe_int (nomark _))))) (pss_one (ps_ret pe_bl)) pss_nil)
    (pss_cons (ps_expr (pe_bm0 PySem.F.plainAttrs_list PySem.F.slot_list_pop PySem.F.type_list_pop mt_pop (pv 1)))
    (pss_cons (ps_asg (pe_bm0 PySem.F.plainAttrs_list PySem.F.slot_list_pop PySem.F.type_list_pop mt_pop (pv 2)) (pg_tup (by rfl) (pgs_cons (pg_name (i := 4) sc_next.nd rfl (Or.inl rfl)) (pgs_cons (pg_name (i := 5) sc_next.nd rfl (Or.inl rfl)) pgs_nil))))
    (pss_cons (ps_if (pt_cmpR op_lt (pe_op op_add (pv 5) pe_int) (px (pe_ix ix_list (pv 0) (pv 4) fun _ _ => rfl)) (nomark _)) (pss_cons (ps_expr (pe_bm PySem.F.plainAttrs_list PySem.F.slot_list_append PySem.F.type_list_append mt_append (pv 2) (pa_cons (pe_tup (pa_cons (pv 4) (pa_cons (pe_op op_add (pv 5) pe_int) pa_nil))) pa_nil)))
    (pss_one (ps_expr (pe_bm PySem.F.plainAttrs_list PySem.F.slot_list_append PySem.F.type_list_append mt_append (pv 1) (pa_cons (pe_fn (E := E) (ok_span T) (hr.mono (by decide)) T.g__law_span pass0 (pa_cons (pv 0) (pa_cons (px (pe_ix ix_list (pv 0) (pv 4) fun _ _ => rfl)) pa_nil))) pa_nil))))) pss_nil)
    (pss_one (ps_ret pe_bl)))))))), ?_⟩
  obtain ⟨rvs, hW, hd⟩ := hP.rows
  obtain ⟨fv, hA, hfv⟩ := hP.top
  obtain ⟨cvs, hCl, hcd⟩ := hP.cal
  have nd := hP.nd
  simp only [List.nodup_cons, List.mem_cons, not_or] at nd
  obtain ⟨⟨n1, n2, n3, n4⟩, ⟨n5, n6, n7⟩, ⟨n8, n9⟩, n10, n11⟩ := nd
  have lenAs := hP.bel.len
  refine q_asg (v := .ref a0) (ev_ixL (ev_var rfl) hP.lst (d_m1 (K := K)) (atI_last _ _)) fun H1 e1 => ?_
  have l0 : ∀ {σ : L2.St} {H' : Hp}, σ[3]? = some (some (.ref a0)) → Ex H H' → EvD K (tOp (rIxL K) (tVar 3) (tC (.int 0))) σ H' (.int (l.row : Int)) := fun h e => d_ixL (ev_var h) (sq_of (e _ _ hA)) d_int (v := .int _) rfl (.int _)
  have l1 : ∀ {σ : L2.St} {H' : Hp}, σ[3]? = some (some (.ref a0)) → Ex H H' → EvD K (tOp (rIxL K) (tVar 3) (tC (.int 1))) σ H' (.int (EndL rs rest : Int)) := fun h e => d_ixL (ev_var h) (sq_of (e _ _ hA)) d_int (v := .int _) rfl (.int _)
  have ltT : ∀ {σ : L2.St} {H' : Hp}, σ[3]? = some (some (.ref a0)) → Ex H H' → EvT (tTest (tOp (rI0 fun i j => .bl (decide (i < j))) (tOp (rIxL K) (tVar 3) (tC (.int 0))) (tOp (rIxL K) (tVar 3) (tC (.int 1))))) σ H' (decide ((l.row : Int) < (EndL rs rest : Int))) := fun h e => t_test (K := K) (d_ib (f := fun i j => decide (i < j)) (l0 h e) (l1 h e))
  have rowAt : ∀ {σ : L2.St} {H' : Hp} {te : TE} {j : Nat} {r : Row}, σ[0]? = some (some (.ref rw)) → Ex H H' → EvD K te σ H' (.int (j : Int)) → rs[j]? = some r → EvD K (tOp (rIxL K) (tVar 0) te) σ H' (rowD r) := fun h e ht hr => d_at (ev_var h) (e _ _ hW) (hd.ex e) ht (atI_nat' (by rw [List.getElem?_map, hr]; rfl))
  have lenT : ∀ {σ : L2.St} {H' : Hp}, σ[1]? = some (some (.ref lv)) → Ex H H' → EvT (tTest (tOp rEq (tCB (rLenS K) (tCons (tVar 1) tNil)) (tC (.int 1)))) σ H' (decide (((as.length + 1 : Nat) : Int) = 1)) := fun h e => t_test (K := K) (d_eqI (EvD.is (d_of (ev_len (ev_var h) (sq_of (e _ _ hP.lst))) (.int _)) (by simp)) d_int)
  have stay : pass1 rs (l :: rest) = none → ∀ {H' : Hp} {σ : L2.St}, Ex H H' → tRet (tC (.bl false)) { nx := fun _ H' => Q .non H', rt := Q } σ H' := fun hp H' σ ex => s_ret (v := .bl false) ev_c fun H2 e2 => hF hp H2 (ex.trans e2)
  have pieceT : ∀ {σ : L2.St} {H' : Hp} {r : Row}, σ[0]? = some (some (.ref rw)) → σ[3]? = some (some (.ref a0)) → Ex H H' → rs[l.row]? = some r → EvT (tTest (tOp rEq (tOp (rIxT K) (tOp (rIxL K) (tVar 0) (tOp (rIxL K) (tVar 3) (tC (.int 0)))) (tC (.int 0))) (tC (.str "piece")))) σ H' (isPiece r) := fun h0 h3 e hr => et_is (t_test (K := K) (d_eqS (d_word (rowAt h0 e (l0 h3 e) hr)) d_str)) isPiece_word
  rcases next_cases W hC with ⟨r, hr', hp, hlt⟩ | ⟨rfl, nm, hr'⟩ | ⟨rfl, hl⟩ | ⟨c, rest', nm, n, rfl, hcr, hct, hfin, hle, hC'⟩
  · -- a plain row: nothing is gone on
    have lt' : decide ((l.row : Int) < (EndL rs rest : Int)) = true := decide_eq_true (by omega)
    refine q_when (b := false) (et_is (et_and (ltT rfl e1) fun _ => pieceT rfl rfl e1 hr') (by rw [plain_np hp, Bool.and_false])) (fun hb => absurd hb (by decide)) fun _ H2 e2 => ?_
    have e12 := e1.trans e2
    refine q_when (b := true) (et_is (et_or (b := false) (ltT rfl e12) fun z => absurd (lt'.symm.trans z) (by decide)) (by rw [lt']; rfl)) (fun _ H3 e3 => ?_) fun hb => absurd hb (by decide)
    exact stay (pass1_plain hr' hp) (e12.trans e3)
  · -- a piece is passed over
    have hlt : l.row < rs.length := (List.getElem?_eq_some_iff.mp hr').1
    have lt' : decide ((l.row : Int) < (EndL rs [] : Int)) = true := decide_eq_true (by show (l.row : Int) < (rs.length : Int); omega)
    refine q_when (b := true) (et_is (et_and (ltT rfl e1) fun _ => pieceT rfl rfl e1 hr') (by rw [lt']; rfl)) (fun _ H2 e2 => ?_) fun hb => absurd hb (by decide)
    have e12 := e1.trans e2
    have hm := List.mem_of_getElem? hr'
    have arow := rowAt (σ := [some (.ref rw), some (.ref lv), some (.ref cl), some (.ref a0), none, none]) rfl e12 (l0 (σ := [some (.ref rw), some (.ref lv), some (.ref cl), some (.ref a0), none, none]) rfl e12) hr'
    refine q_setL (K := K) (l := a0) (j := 0) (d := .int ((endOf rs (begOf rs nm) + 1 : Nat) : Int)) (EvD.is (d_ii (f := fun i j => i + j) (d_spanE (ev_var rfl) (d_ix (ds := [.str "piece", .str nm]) arow d_int rfl) (e12 _ _ hW) (hd.ex e12) hok W hm hz) d_int) (by simp)) (ev_var rfl) d_int (e12 _ _ hA) rfl fun v H3 e3 hv h3 => ?_
    rw [hv.int_eq]
    have ex := e12.trans e3
    refine s_ret (v := .bl true) ev_c fun H4 e4 => ?_
    have tk : TK H3 (upd H3 a0 (.lst ([.int (l.row : Int), .int (EndL rs [] : Int), fv].set 0 (.int ((endOf rs (begOf rs nm) + 1 : Nat) : Int))))) := TK.upd h3 trivial
    have as0 : as = [] := List.length_eq_zero_iff.mp lenAs
    subst as0
    refine hT ⟨endOf rs (begOf rs nm) + 1, 0, l.frs⟩ [] a0 [] H4 (by rw [pass1_cons, hr']) (LvP.ex ⟨⟨rvs, by rw [upd_ne n3]; exact ex _ _ hW, (hd.ex ex).tk tk⟩, by rw [upd_ne n6]; exact ex _ _ hP.lst, ⟨fv, upd_same, (hfv.ex ex).tk tk⟩, trivial, ⟨cvs, by rw [upd_ne n8]; exact ex _ _ hCl, (hcd.ex ex).tk tk⟩, hP.nd⟩ e4) (fun x hx => .inl hx) (((Kp.ex ex).trans (.wr (by simp))).trans (Kp.ex e4))
  · -- the end of all
    have lt' : decide ((l.row : Int) < (EndL rs [] : Int)) = false := decide_eq_false (by show ¬ (l.row : Int) < (rs.length : Int); omega)
    refine q_when (b := false) (et_is (et_and (b := false) (ltT rfl e1) fun z => absurd (lt'.symm.trans z) (by decide)) (by rw [lt']; rfl)) (fun hb => absurd hb (by decide)) fun _ H2 e2 => ?_
    have e12 := e1.trans e2
    have as0 : as.length = 0 := lenAs
    refine q_when (b := true) (et_is (et_or (ltT rfl e12) fun _ => lenT rfl e12) (by rw [lt', as0]; rfl)) (fun _ H3 e3 => ?_) fun hb => absurd hb (by decide)
    exact stay (by rw [pass1_cons, List.getElem?_eq_none (by omega)]) (e12.trans e3)
  · -- a turn's end
    have eE : EndL rs (c :: rest') = endOf rs (begOf rs nm) := EndL_call hcr
    have lt' : decide ((l.row : Int) < (EndL rs (c :: rest') : Int)) = false := decide_eq_false (by rw [eE]; omega)
    refine q_when (b := false) (et_is (et_and (b := false) (ltT rfl e1) fun z => absurd (lt'.symm.trans z) (by decide)) (by rw [lt']; rfl)) (fun hb => absurd hb (by decide)) fun _ H2 e2 => ?_
    have e12 := e1.trans e2
    have as1 : as.length = rest'.length + 1 := lenAs
    refine q_when (b := false) (et_is (et_or (ltT rfl e12) fun _ => lenT rfl e12) (by rw [lt', as1, Bool.false_or]; exact decide_eq_false (by omega))) (fun hb => absurd hb (by decide)) fun _ H3 e3 => ?_
    have e13 := e12.trans e3
    obtain ⟨a1, as', rfl⟩ : ∃ a1 as', as = a1 :: as' := by
      cases as with
      | nil => simp at as1
      | cons a b => exact ⟨a, b, rfl⟩
    obtain ⟨⟨v1, hA1, hv1⟩, hbel⟩ := hP.bel
    -- the level goes
    refine q_popV (l := lv) (xs := (a1 :: as').reverse.map V.ref) (x := .ref a0) (e13 _ _ hP.lst) (ev_var rfl) fun H4 e4 h4 => ?_
    have e14 := e13.trans e4
    have tk4 : TK H (upd H4 lv (.lst ((a1 :: as').reverse.map V.ref))) := (TK.ex e14).trans (TK.upd h4 trivial)
    have kp4 : Kp [lv, cl] H (upd H4 lv (.lst ((a1 :: as').reverse.map V.ref))) := (Kp.ex e14).trans (.wr (by simp))
    have g4 : upd H4 lv (.lst ((a1 :: as').reverse.map V.ref)) lv = some (.lst ((a1 :: as').reverse.map V.ref)) := upd_same
    have c4 : upd H4 lv (.lst ((a1 :: as').reverse.map V.ref)) cl = some (.lst cvs) := by rw [upd_ne (Ne.symm n5)]; exact e14 _ _ hCl
    generalize upd H4 lv (.lst ((a1 :: as').reverse.map V.ref)) = G4 at tk4 kp4 g4 c4
    have hcd4 := hcd.tk tk4
    rw [trailD_cons] at hcd4
    refine q_popPair (K := K) (l := cl) (xs := cvs) c4 (ev_var rfl) hcd4 fun v w H5 e5 h5 hv hw' hds => ?_
    rw [hv.int_eq, hw'.int_eq]
    have tk6 : TK H (upd H5 cl (.lst cvs.dropLast)) := (tk4.trans (TK.ex e5)).trans (TK.upd h5 trivial)
    have kp6 : Kp [lv, cl] H (upd H5 cl (.lst cvs.dropLast)) := (kp4.trans (Kp.ex e5)).trans (.wr (by simp))
    have g6 : upd H5 cl (.lst cvs.dropLast) lv = some (.lst ((a1 :: as').reverse.map V.ref)) := by rw [upd_ne n5]; exact e5 _ _ g4
    have c6 : upd H5 cl (.lst cvs.dropLast) cl = some (.lst cvs.dropLast) := upd_same
    have d6 : DtL K (upd H5 cl (.lst cvs.dropLast)) cvs.dropLast (trailD rest') := hds.tk (TK.upd h5 trivial)
    generalize upd H5 cl (.lst cvs.dropLast) = G6 at tk6 kp6 g6 c6 d6
    generalize cvs.dropLast = us at c6 d6
    clear hv hw' hds h5 e5 c4 g4 kp4 tk4 hcd4
    have hW6 : G6 rw = some (.lst rvs) := kp6 rw _ (by simp; exact ⟨n1, n2⟩) hW
    have hd6 := hd.tk tk6
    have callRow : ∀ {σ : L2.St} {H' : Hp} {te : TE}, σ[0]? = some (some (.ref rw)) → Ex G6 H' → EvD K te σ H' (.int (c.row : Int)) → EvD K (tOp (rIxL K) (tVar 0) te) σ H' (rowD (.call nm n)) := fun h e ht => d_at (ev_var h) (e _ _ hW6) (hd6.ex e) ht (atI_nat' (by rw [List.getElem?_map, hcr]; rfl))
    have lus : us.length < 100000 := by
      have := d6.len
      unfold trailD at this
      rw [List.length_map, List.length_reverse] at this
      rw [List.length_cons] at hr8
      omega
    have n12 : ∀ x ∈ a1 :: as', x ∉ [lv, cl] := fun x hx hm => by
      simp only [List.mem_cons, List.not_mem_nil, or_false] at hm
      rcases hm with rfl | rfl
      · exact n7 hx
      · exact n9 hx
    have nw : rw ∉ [lv, cl] := by simp; exact ⟨n1, n2⟩
    -- what stands below, wherever only the two lists were written
    have below : ∀ {H' : Hp}, Kp [lv, cl] H H' → TK H H' → LvObj K H' a1 (c.row + 1) (EndL rs rest') c.frs ∧ Lvs K H' rs as' rest' := fun k tk => ⟨LvObj.kp ⟨v1, hA1, hv1⟩ (fun o ho => k a1 o (n12 a1 (List.mem_cons_self ..)) ho) tk, hbel.kp (fun a ha o ho => k a o (n12 a (List.mem_cons_of_mem _ ha)) ho) tk⟩
    refine q_when (b := decide ((c.turn : Int) + 1 < (n : Int))) (t_test (K := K) (d_ib (f := fun i j => decide (i < j)) (d_ii (f := fun i j => i + j) (d_vint rfl) d_int) (d_ix (ds := [.str "call", .str nm, .int n]) (callRow rfl (Ex.refl G6) (d_vint rfl)) d_int rfl))) (fun hb H7 e7 => ?_) fun hb H7 e7 => ?_
    · -- one more turn
      have hmore : c.turn + 1 < n := by
        have := of_decide_eq_true hb
        omega
      have hS := Wf.call W hcr
      have hpm : Row.piece nm ∈ rs := (W.calls nm n (List.mem_of_getElem? hcr)).1
      refine q_appD (K := K) (l := cl) (xs := us) (d := .tuple [.int (c.row : Int), .int ((c.turn + 1 : Nat) : Int)]) (e7 _ _ c6) (ev_var rfl) (EvD.is (d_tup2 (ds_cons (d_vint rfl) (ds_cons (d_ii (f := fun i j => i + j) (d_vint rfl) d_int) ds_nil))) (by simp)) lus fun v H8 e8 hv h8 => ?_
      have e78 := e7.trans e8
      have tk9 : TK G6 (upd H8 cl (.lst (us ++ [v]))) := (TK.ex e78).trans (TK.upd h8 trivial)
      have kp9 : Kp [lv, cl] H (upd H8 cl (.lst (us ++ [v]))) := (kp6.trans (Kp.ex e78)).trans (.wr (by simp))
      have g9 : upd H8 cl (.lst (us ++ [v])) lv = some (.lst ((a1 :: as').reverse.map V.ref)) := by rw [upd_ne n5]; exact e78 _ _ g6
      have c9 : upd H8 cl (.lst (us ++ [v])) cl = some (.lst (us ++ [v])) := upd_same
      have d9 : DtL K (upd H8 cl (.lst (us ++ [v]))) (us ++ [v]) (trailD rest' ++ [.tuple [.int (c.row : Int), .int ((c.turn + 1 : Nat) : Int)]]) := ((d6.ex e78).append (.cons hv .nil)).tk (TK.upd h8 trivial)
      generalize upd H8 cl (.lst (us ++ [v])) = G9 at tk9 kp9 g9 c9 d9
      have tkH := tk6.trans tk9
      have hW9 : G9 rw = some (.lst rvs) := kp9 rw _ nw hW
      have hd9 := hd.tk tkH
      refine s_appG (l := lv) (xs := (a1 :: as').reverse.map V.ref) (ev_var rfl) g9 (by rw [List.length_map, List.length_reverse, as1]; rw [List.length_cons] at hr8; omega) fun H10 e10 Q' q' => ?_
      have callRow' : EvD K (tOp (rIxL K) (tVar 0) (tVar 4)) [some (.ref rw), some (.ref lv), some (.ref cl), some (.ref a0), some (.int (c.row : Int)), some (.int (c.turn : Int))] H10 (rowD (.call nm n)) := d_at (ev_var rfl) (e10 _ _ hW9) (hd9.ex e10) (d_vint rfl) (atI_nat' (by rw [List.getElem?_map, hcr]; rfl))
      refine (ea_cons (ev_var rfl) (ea_cons (d_ix (K := K) (ds := [.str "call", .str nm, .int n]) callRow' d_int rfl).str ea_nil)) H10 (Ex.refl _) _ fun H11 e11 => ?_
      have e911 := e10.trans e11
      refine ⟨rw, rvs, rs, nm, rfl, e911 _ _ hW9, hd9.ex e911, hok, W, hpm, hz, fun p v3 H12 hp e12' h12 hv3 => q' (.ref p) H12 ((e911.trans e12') _ _ g9) ?_⟩
      have e912 := e911.trans e12'
      show tRet (tC (.bl true)) { nx := fun _ H' => Q .non H', rt := Q } [some (.ref rw), some (.ref lv), some (.ref cl), some (.ref a0), some (.int (c.row : Int)), some (.int (c.turn : Int))] (upd H12 lv (.lst ((a1 :: as').reverse.map V.ref ++ [V.ref p])))
      refine s_ret (v := .bl true) ev_c fun H13 e13' => ?_
      have tkL : TK H12 (upd H12 lv (.lst ((a1 :: as').reverse.map V.ref ++ [V.ref p]))) := TK.upd (e912 _ _ g9) trivial
      have kpE : Kp [lv, cl] H (upd H12 lv (.lst ((a1 :: as').reverse.map V.ref ++ [V.ref p]))) := (kp9.trans (Kp.ex e912)).trans (.wr (by simp))
      have tkE : TK H (upd H12 lv (.lst ((a1 :: as').reverse.map V.ref ++ [V.ref p]))) := (tkH.trans (TK.ex e912)).trans tkL
      have fresh : ∀ {x : Addr} {o : HO}, G9 x = some o → x ≠ p := fun h => ne_of_none (e911 _ _ h) hp
      have freshH : ∀ {x : Addr} {o : HO}, H x = some o → x ∉ [lv, cl] → x ≠ p := fun h hn => fresh (kp9 _ _ hn h)
      have plv : lv ≠ p := fresh g9
      have pcl : cl ≠ p := fresh c9
      have prw : rw ≠ p := fresh hW9
      have pas : ∀ x ∈ a1 :: as', x ≠ p := fun x hx => by
        obtain ⟨o, ho⟩ := hP.bel.there x hx
        exact freshH ho (n12 x hx)
      have pH : H p = none := by
        cases e : H p with
        | none => rfl
        | some o => exact absurd rfl (freshH e (by simp; exact ⟨Ne.symm plv, Ne.symm pcl⟩))
      obtain ⟨bt, bb⟩ := below kpE tkE
      have nd' := hP.nd
      simp only [List.nodup_cons, List.mem_cons, not_or] at nd' 
      refine hT ⟨begOf rs nm, 0, []⟩ (⟨c.row, c.turn + 1, c.frs⟩ :: rest') p (a1 :: as') H13 ?_ (LvP.ex ⟨⟨rvs, kpE rw _ nw hW, hd.tk tkE⟩, upd_same, ⟨v3, ?_, hv3.tk tkL⟩, ⟨bt, bb⟩, ⟨us ++ [v], ?_, ?_⟩, ?_⟩ e13') (fun x hx => ?_) ((kpE.sub fun x hx => ?_).trans (Kp.ex e13'))
      · rw [pass1_cons]
        simp only [hfin, hcr]
        rw [if_pos hmore]
      · rw [upd_ne (Ne.symm plv), EndL_call (c := ⟨c.row, c.turn + 1, c.frs⟩) hcr]
        exact h12
      · rw [upd_ne (Ne.symm n5)]
        exact e912 _ _ c9
      · rw [trailD_cons]
        exact (d9.ex e912).tk tkL
      · refine List.nodup_cons.mpr ⟨?_, List.nodup_cons.mpr ⟨?_, List.nodup_cons.mpr ⟨?_, List.nodup_cons.mpr ⟨fun hm => pas p hm rfl, n11⟩⟩⟩⟩
        · simp only [List.mem_cons, not_or]
          exact ⟨n1, n2, prw, fun e => n4 (e ▸ List.mem_cons_self ..), fun hm => n4 (List.mem_cons_of_mem _ hm)⟩
        · simp only [List.mem_cons, not_or]
          exact ⟨n5, plv, fun e => n7 (e ▸ List.mem_cons_self ..), fun hm => n7 (List.mem_cons_of_mem _ hm)⟩
        · simp only [List.mem_cons, not_or]
          exact ⟨pcl, fun e => n9 (e ▸ List.mem_cons_self ..), fun hm => n9 (List.mem_cons_of_mem _ hm)⟩
      · rcases List.mem_cons.mp hx with rfl | hx
        · exact .inr pH
        · exact .inl (List.mem_cons_of_mem _ hx)
      · simp only [List.mem_cons, List.not_mem_nil, or_false] at hx
        rcases hx with rfl | rfl <;> simp
    · -- the call has ended
      have hmore : ¬ c.turn + 1 < n := by
        have := of_decide_eq_false hb
        omega
      refine s_ret (v := .bl true) ev_c fun H8 e8 => ?_
      have e78 := e7.trans e8
      have kpE : Kp [lv, cl] H H8 := kp6.trans (Kp.ex e78)
      have tkE : TK H H8 := tk6.trans (TK.ex e78)
      obtain ⟨bt, bb⟩ := below kpE tkE
      refine hT ⟨c.row + 1, 0, c.frs⟩ rest' a1 as' H8 ?_ ⟨⟨rvs, kpE rw _ nw hW, hd.tk tkE⟩, ?_, bt, bb, ⟨us, e78 _ _ c6, d6.ex e78⟩, ?_⟩ (fun x hx => .inl (List.mem_cons_of_mem _ hx)) (kpE.sub fun x hx => ?_)
      · rw [pass1_cons]
        simp only [hfin, hcr]
        rw [if_neg hmore]
      · have := e78 _ _ g6
        rw [List.reverse_cons, List.map_append] at this
        exact this
      · have q := hP.nd
        exact q.sublist (.cons_cons _ (.cons_cons _ (.cons_cons _ (.cons _ (List.Sublist.refl _)))))
      · simp only [List.mem_cons, List.not_mem_nil, or_false] at hx
        rcases hx with rfl | rfl <;> simp
end
end Kx

set_option Elab.async false
set_option linter.all false
set_option maxRecDepth 100000
set_option maxHeartbeats 4000000
namespace Kx
open PySem PySem.Spec PyProof.Rows L2 Evl HT TL
/-! ### all frames of the law's levels -/
section
variable {K : PySem.W.Frag} {σ : L2.St} {H : Hp} {ta tb tc te : TE}
abbrev tFr2 (K : PySem.W.Frag) : TE := tCB (rListS K) (tCons (tOp (rIxL K) (tVar 13) (tC (.int 2))) tNil)
theorem n_lists {lv : Addr} {bs : List Addr} {fss : List (List Fr)} (hi : Ev ta σ H (.ref lv)) (h14 : σ.length = 14) (hl : H lv = some (.lst (bs.map V.ref))) (hlen : bs.length = fss.length) (hb : ∀ (j : Nat) (b : Addr) (fs : List Fr), bs[j]? = some b → fss[j]? = some fs → ∃ p e v, H b = some (.lst [p, e, v]) ∧ Dt K H v (frsD fs)) (hz : bs.length ≤ 1000) :
    ∀ H1, Ex H H1 → ∀ Q : VK, (∀ (L : Addr) (ls : List Addr) (yss : List (List V)) (H2 : Hp), Ex H1 H2 → H2 L = some (.lst (ls.map V.ref)) → ls.length = bs.length → yss.length = bs.length → (∀ (j : Nat) (b : Addr) (ys : List V), ls[j]? = some b → yss[j]? = some ys → H2 b = some (.lst ys)) → DtL K H2 yss.flatten (fss.flatten.map frD) → Q (.ref L) H2) →
      tLc (iList K ta) (gName 13) tYes (tFr2 K) [13] σ H1 Q := fun H0 e0 Q q => hi H0 e0 _ fun H1 e1 => by
  have e01 := e0.trans e1
  refine ⟨lv, rfl, ⟨_, sq_of (e01 _ _ hl)⟩, fun Dl hD => ?_⟩
  refine lc_list (K := K) (a := lv) (xs := bs.map V.ref) (fun i H' => Ex H1 H' ∧ ∃ ls yss, ls.length = i ∧ yss.length = i ∧ H' Dl = some (.lst (ls.map V.ref)) ∧ (∀ b ∈ ls, b ≠ Dl) ∧ (∀ (j : Nat) (b : Addr) (ys : List V), ls[j]? = some b → yss[j]? = some ys → H' b = some (.lst ys)) ∧ DtL K H' yss.flatten ((fss.take i).flatten.map frD))
    ⟨Ex.new hD, [], [], rfl, rfl, upd_same, fun b hb => (by cases hb), fun j b ys h => (by cases h), by rw [List.take_zero]; exact .nil⟩ (fun i H' _ p => sq_of ((e01.trans p.1) _ _ hl)) (fun i x H' hx p => ⟨?_, ?_⟩) fun H' p => ?_
  · simp only [wipe]
    rw [List.set_set, List.set_set]
  · obtain ⟨ex, ls, yss, l1, l2, hd, hn, hp, hdt⟩ := p
    rw [List.getElem?_map] at hx
    cases hbj : bs[i]? with
    | none => rw [hbj] at hx; cases hx
    | some b =>
      rw [hbj] at hx
      cases hx
      have hi' : i < bs.length := (List.getElem?_eq_some_iff.mp hbj).1
      have hfj : fss[i]? = some fss[i] := List.getElem?_eq_getElem (by omega)
      generalize fss[i] = fs at hfj
      obtain ⟨p, e, v, hbo, hv⟩ := hb i b fs hbj hfj
      refine t_yes (H := H') H' (Ex.refl H') _ fun H2 e2 => ?_
      rw [if_pos rfl]
      have eH := (e01.trans ex).trans e2
      have at13 : ((wipe σ [13]).set 13 (some (V.ref b)))[13]? = some (some (V.ref b)) := by
        rw [List.getElem?_set_self (by rw [wipe_length]; omega)]
      have hix : EvD K (tOp (rIxL K) (tVar 13) (tC (.int 2))) ((wipe σ [13]).set 13 (some (V.ref b))) H2 (frsD fs) := d_ixL (ev_var at13) (sq_of (eH _ _ hbo)) d_int (v := v) rfl (hv.ex eH)
      refine hix H2 (Ex.refl _) _ fun w H3 e3 hw => ?_
      obtain ⟨a, xs, rfl, hs, hxl⟩ := hw.tup_eq
      refine ⟨a, xs, rfl, .inr hs, fun nl hnl => ?_⟩
      have e23 := e2.trans e3
      have en : Ex H3 (upd H3 nl (.lst xs)) := Ex.new hnl
      have hd3 := e23 _ _ hd
      have nnl : nl ≠ Dl := fun e => by rw [e] at hnl; rw [hd3] at hnl; cases hnl
      have hdN : upd H3 nl (.lst xs) Dl = some (.lst (ls.map V.ref)) := en _ _ hd3
      have tk : TK (upd H3 nl (.lst xs)) (upd (upd H3 nl (.lst xs)) Dl (.lst (ls.map V.ref ++ [V.ref nl]))) := TK.upd hdN trivial
      refine ⟨ls.map V.ref, hdN, sz_lt (by rw [List.length_map]; omega), Ex.mut (((ex.trans e2).trans e3).trans en) hD, ls ++ [nl], yss ++ [xs], by simp [l1], by simp [l2], by rw [List.map_append]; exact upd_same, fun y hy => ?_, fun j y ys hy hys => ?_, ?_⟩
      · rcases List.mem_append.mp hy with hy | hy
        · exact hn y hy
        · rw [List.mem_singleton] at hy; subst hy; exact nnl
      · by_cases hj : j < ls.length
        · rw [List.getElem?_append_left hj] at hy
          rw [List.getElem?_append_left (by omega)] at hys
          rw [upd_ne (hn y (List.mem_of_getElem? hy))]
          exact en _ _ (e23 _ _ (hp j y ys hy hys))
        · have hjl : j = ls.length := by
            have := (List.getElem?_eq_some_iff.mp hy).1
            simp at this
            omega
          subst hjl
          rw [List.getElem?_append_right (Nat.le_refl _), Nat.sub_self] at hy
          rw [List.getElem?_append_right (by omega), show ls.length - yss.length = 0 by omega] at hys
          cases hy
          cases hys
          rw [upd_ne nnl]
          exact upd_same
      · have et : (fss.take (i + 1)).flatten = (fss.take i).flatten ++ fs := by
          rw [List.take_add_one, hfj, List.flatten_append]; simp
        have ey : (yss ++ [xs]).flatten = yss.flatten ++ xs := by rw [List.flatten_append]; simp
        rw [et, ey, List.map_append]
        exact (((hdt.ex e23).append hxl).ex en).tk tk
  · obtain ⟨ex, ls, yss, l1, l2, hd, hn, hp, hdt⟩ := p
    rw [List.length_map] at l1 l2
    rw [List.length_map, hlen, List.take_length] at hdt
    exact q Dl ls yss H' (e1.trans ex) hd l1 l2 hp hdt
theorem sum_go {tl : TE} {Q : VK} (h : tl σ H fun x H1 => (tLst tNil) σ H1 fun u H2 => ∃ (L st : Addr) (ls : List Addr) (yss : List (List V)), [x] = [V.ref L] ∧ u = .ref st ∧ H2 L = some (.lst (ls.map V.ref)) ∧ H2 st = some (.lst []) ∧ 0 < ls.length ∧ ls.length = yss.length ∧
  (∀ (j : Nat) (b : Addr) (ys : List V), ls[j]? = some b → yss[j]? = some ys → H2 b = some (.lst ys)) ∧ yss.flatten.length ≤ sizeLine ∧ ∀ (q : Addr), H2 q = none → rTup K [.ref q] (upd H2 q (.lst yss.flatten)) Q) :
    tCB (rTup K) (tCons (tSumL (tCons tl tNil) (tLst tNil)) tNil) σ H Q := h
theorem d_allFr {lv : Addr} {bs : List Addr} {fss : List (List Fr)} (hi : Ev ta σ H (.ref lv)) (h14 : σ.length = 14) (hl : H lv = some (.lst (bs.map V.ref))) (hlen : bs.length = fss.length) (hb : ∀ (j : Nat) (b : Addr) (fs : List Fr), bs[j]? = some b → fss[j]? = some fs → ∃ p e v, H b = some (.lst [p, e, v]) ∧ Dt K H v (frsD fs)) (hz : bs.length ≤ 1000) (hpos : 0 < bs.length) (htot : fss.flatten.length ≤ 1000) :
    EvD K (tCB (rTup K) (tCons (tSumL (tCons (tLc (iList K ta) (gName 13) tYes (tFr2 K) [13]) tNil) (tLst tNil)) tNil)) σ H (frsD fss.flatten) := fun H0 e0 Q q => by
  refine sum_go ?_
  refine n_lists hi h14 hl hlen hb hz H0 e0 _ fun L ls yss H2 e2 hL l1 l2 hp hd => ?_
  refine ⟨Nat.zero_le _, fun st hst => ?_⟩
  have e3 : Ex H2 (upd H2 st (.lst [])) := Ex.new hst
  refine ⟨L, st, ls, yss, rfl, rfl, e3 _ _ hL, upd_same, by omega, by omega, fun j b ys hb hy => e3 _ _ (hp j b ys hb hy), ?_, fun q' hq' => ?_⟩
  · rw [hd.len, List.length_map]; exact sz_of (by omega)
  · have e4 : Ex (upd H2 st (.lst [])) (upd (upd H2 st (.lst [])) q' (.lst yss.flatten)) := Ex.new hq'
    refine ⟨q', yss.flatten, rfl, .inl ⟨sq_of upd_same, fun t ht => ?_⟩⟩
    have e5 := Ex.new (o := .tup yss.flatten) ht
    exact q (.ref t) _ (((e2.trans e3).trans e4).trans e5) (.tup (SqT.of upd_same) (hd.ex ((e3.trans e4).trans e5)))
end
end Kx

set_option Elab.async false
set_option linter.all false
set_option maxRecDepth 100000
set_option maxHeartbeats 4000000
namespace Kx
open PySem PySem.Spec PyProof.Rows L2 Evl HT TL
/-! ### where the law's going stands -/
structure GnAt (K : PySem.W.Frag) (H0 H : Hp) (rs : List Row) (rw kp lv cl en : Addr) (s : Ms) (a0 : Addr) (as : List Addr) (l : Lv) (rest : List Lv) : Prop where
  P : LvP K H rs rw lv cl a0 as l rest
  kept : KeptAt K H kp s
  ent : ∃ evs, H en = some (.lst evs) ∧ DtL K H evs s.made
  ex : Ex H0 H
  new : ∀ x ∈ kp :: lv :: cl :: en :: a0 :: as, H0 x = none
  nd : (kp :: en :: rw :: lv :: cl :: a0 :: as).Nodup
/-- the topmost place moved on: all levels stand as if they had called -/
structure GnMid (K : PySem.W.Frag) (H0 H : Hp) (rs : List Row) (rw kp lv cl en : Addr) (s : Ms) (a0 : Addr) (as : List Addr) (l : Lv) (rest : List Lv) : Prop where
  rows : ∃ rvs, H rw = some (.lst rvs) ∧ DtL K H rvs (rs.map rowD)
  lst : H lv = some (.lst (as.reverse.map V.ref ++ [V.ref a0]))
  lvs : Lvs K H rs (a0 :: as) (l :: rest)
  cal : ∃ cvs, H cl = some (.lst cvs) ∧ DtL K H cvs (trailD rest)
  kept : KeptAt K H kp s
  ent : ∃ evs, H en = some (.lst evs) ∧ DtL K H evs s.made
  ex : Ex H0 H
  new : ∀ x ∈ kp :: lv :: cl :: en :: a0 :: as, H0 x = none
  nd : (kp :: en :: rw :: lv :: cl :: a0 :: as).Nodup
section
variable {K : PySem.W.Frag} {H0 H H' : Hp} {rs : List Row} {rw kp lv cl en : Addr} {s : Ms} {a0 : Addr} {as : List Addr} {l : Lv} {rest : List Lv}
theorem KeptAt.stay (h : KeptAt K H kp s) (k : ∀ o, H kp = some o → H' kp = some o) (tk : TK H H') : KeptAt K H' kp s := let ⟨pv, sv, a, b, c⟩ := h; ⟨pv, sv, k _ a, b.tk tk, c.tk tk⟩
theorem GnAt.to (G : GnAt K H0 H rs rw kp lv cl en s a0 as l rest) (e : Ex H H') : GnAt K H0 H' rs rw kp lv cl en s a0 as l rest :=
  ⟨G.P.ex e, G.kept.ex e, let ⟨evs, a, b⟩ := G.ent; ⟨evs, e _ _ a, b.ex e⟩, G.ex.trans e, G.new, G.nd⟩
theorem GnMid.to (G : GnMid K H0 H rs rw kp lv cl en s a0 as l rest) (e : Ex H H') : GnMid K H0 H' rs rw kp lv cl en s a0 as l rest :=
  ⟨let ⟨rvs, a, b⟩ := G.rows; ⟨rvs, e _ _ a, b.ex e⟩, e _ _ G.lst, G.lvs.kp (fun a _ o ho => e _ _ ho) (.ex e), let ⟨cvs, a, b⟩ := G.cal; ⟨cvs, e _ _ a, b.ex e⟩, G.kept.ex e, let ⟨evs, a, b⟩ := G.ent; ⟨evs, e _ _ a, b.ex e⟩, G.ex.trans e, G.new, G.nd⟩
/-- what was known at first stands, where only new things were written -/
theorem ex_new {L : List Addr} (ex : Ex H0 H) (new : ∀ x ∈ L, H0 x = none) (k : Kp L H H') : Ex H0 H' := fun a o h => k a o (fun hm => by rw [new a hm] at h; cases h) (ex a o h)
theorem Lvs.lstAt : ∀ {as : List Addr} {st : List Lv}, Lvs K H rs as st → ∀ a ∈ as, ∃ xs, H a = some (.lst xs)
  | [], [], _, _, h => by cases h
  | a :: as, c :: rest, h, x, hx => by
    rcases List.mem_cons.mp hx with rfl | hx
    · obtain ⟨v, h1, _⟩ := h.1; exact ⟨_, h1⟩
    · exact Lvs.lstAt h.2 x hx
  | [], _ :: _, h, _, _ => h.elim
  | _ :: _, [], h, _, _ => h.elim
theorem LvP.mut (P : LvP K H rs rw lv cl a0 as l rest) : ∀ b ∈ lv :: cl :: a0 :: as, ∀ o, H b = some o → Mut (some o) := fun b hb o ho => by
  have key : ∃ xs, H b = some (.lst xs) := by
    rcases List.mem_cons.mp hb with rfl | hb
    · exact ⟨_, P.lst⟩
    · rcases List.mem_cons.mp hb with rfl | hb
      · obtain ⟨cvs, h, _⟩ := P.cal; exact ⟨_, h⟩
      · rcases List.mem_cons.mp hb with rfl | hb
        · obtain ⟨v, h, _⟩ := P.top; exact ⟨_, h⟩
        · exact P.bel.lstAt b hb
  obtain ⟨xs, h⟩ := key
  rw [h] at ho
  cases ho
  trivial
theorem s_call3 {σ : L2.St} {D : Ends} {E : XK} {sp : Sp} {ta tb tc : TE} {va vb vc : V} {i : Nat} (ha : Ev ta σ H va) (hb : Ev tb σ H vb) (hc : Ev tc σ H vc) (h : ∀ H1, Ex H H1 → sp [va, vb, vc] H1 (fun x H2 => D.nx (σ.set i (some x)) H2) E) : tAsg (tCall sp [] E (tCons ta (tCons tb (tCons tc tNil)))) (gName i) D σ H :=
  (ea_cons ha (ea_cons hb (ea_cons hc ea_nil))) H (Ex.refl H) (fun vs H1 => sp (vs ++ []) H1 (fun x H2 => gName i x σ H2 D.nx) E) h
/-- moved = next(..) -/
theorem s_nextG {σ : L2.St} {D : Ends} {E : XK} (h0 : σ[0]? = some (some (.ref rw))) (h2 : σ[2]? = some (some (.ref lv))) (h3 : σ[3]? = some (some (.ref cl))) (G : GnAt K H0 H rs rw kp lv cl en s a0 as l rest) (W : WfR rs) (hok : ∀ r ∈ rs, OkRow r) (hz : rs.length ≤ 60) (hC : Chain rs l rest) (hr : rest.length ≤ 8)
    (kT : ∀ l' rest' a0' as' H', pass1 rs (l :: rest) = some (l' :: rest') → GnAt K H0 H' rs rw kp lv cl en s a0' as' l' rest' → D.nx (σ.set 6 (some (.bl true))) H')
    (kF : pass1 rs (l :: rest) = none → ∀ H', GnAt K H0 H' rs rw kp lv cl en s a0 as l rest → D.nx (σ.set 6 (some (.bl false))) H') :
    tAsg (tCall (spNext K) [] E (tCons (tVar 0) (tCons (tVar 2) (tCons (tVar 3) tNil)))) (gName 6) D σ H := by
  refine s_call3 (ev_var h0) (ev_var h2) (ev_var h3) fun H1 e1 => ?_
  have G1 := G.to e1
  refine ⟨rw, lv, cl, a0, as, l, rest, rs, rfl, G1.P, W, hok, hz, hC, hr, fun l' rest' a0' as' H' hp P' hs hk => kT l' rest' a0' as' H' hp ?_, fun hp H' e' => kF hp H' (G1.to e')⟩
  have tk : TK H1 H' := hk.tk G1.P.mut
  have nd := G1.nd
  simp only [List.nodup_cons] at nd
  obtain ⟨nk, ne, _⟩ := nd
  have nk' : kp ∉ lv :: cl :: a0 :: as := fun h => nk (List.mem_cons_of_mem _ (List.mem_cons_of_mem _ h))
  have ne' : en ∉ lv :: cl :: a0 :: as := fun h => ne (List.mem_cons_of_mem _ h)
  obtain ⟨evs, hev, dev⟩ := G1.ent
  obtain ⟨pv, sv, hkp, _⟩ := id G1.kept
  have known : ∀ {x : Addr} {o : HO}, H1 x = some o → x ∉ a0 :: as → x ∉ a0' :: as' := fun ho hx hm => by
    rcases hs _ hm with h | h
    · exact hx h
    · rw [h] at ho; cases ho
  refine ⟨P', G1.kept.stay (fun o ho => hk _ _ nk' ho) tk, ⟨evs, hk _ _ ne' hev, dev.tk tk⟩, ex_new G1.ex (fun x hx => G1.new x ?_) hk, fun x hx => ?_, ?_⟩
  · rcases List.mem_cons.mp hx with rfl | hx
    · simp
    · rcases List.mem_cons.mp hx with rfl | hx
      · simp
      · exact List.mem_cons_of_mem _ (List.mem_cons_of_mem _ (List.mem_cons_of_mem _ (List.mem_cons_of_mem _ hx)))
  · simp only [List.mem_cons] at hx
    have four : x = kp ∨ x = lv ∨ x = cl ∨ x = en → H0 x = none := fun h => G1.new x (by simp only [List.mem_cons]; rcases h with h | h | h | h <;> simp [h])
    rcases hx with h | h | h | h | h
    · exact four (.inl h)
    · exact four (.inr (.inl h))
    · exact four (.inr (.inr (.inl h)))
    · exact four (.inr (.inr (.inr h)))
    · rcases hs x (List.mem_cons.mpr h) with h | h
      · exact G1.new x (List.mem_cons_of_mem _ (List.mem_cons_of_mem _ (List.mem_cons_of_mem _ (List.mem_cons_of_mem _ h))))
      · exact fresh_back G1.ex h
  · refine List.nodup_cons.mpr ⟨fun hm => ?_, List.nodup_cons.mpr ⟨fun hm => ?_, P'.nd⟩⟩
    · rcases List.mem_cons.mp hm with h | hm
      · exact nk (h ▸ List.mem_cons_self ..)
      · rcases List.mem_cons.mp hm with h | hm
        · exact nk (List.mem_cons_of_mem _ (h ▸ List.mem_cons_self ..))
        · rcases List.mem_cons.mp hm with h | hm
          · exact nk' (h ▸ List.mem_cons_self ..)
          · rcases List.mem_cons.mp hm with h | hm
            · exact nk' (List.mem_cons_of_mem _ (h ▸ List.mem_cons_self ..))
            · exact known hkp (fun h => nk' (List.mem_cons_of_mem _ (List.mem_cons_of_mem _ h))) hm
    · rcases List.mem_cons.mp hm with h | hm
      · exact ne (h ▸ List.mem_cons_self ..)
      · rcases List.mem_cons.mp hm with h | hm
        · exact ne' (h ▸ List.mem_cons_self ..)
        · rcases List.mem_cons.mp hm with h | hm
          · exact ne' (List.mem_cons_of_mem _ (h ▸ List.mem_cons_self ..))
          · exact known hev (fun h => ne' (List.mem_cons_of_mem _ (List.mem_cons_of_mem _ h))) hm
/-- levels[-1][0] = at + 1 -/
theorem q_bump {σ : L2.St} {D : Ends} {tz : TS} {te : TE} (h2 : σ[2]? = some (some (.ref lv))) (G : GnAt K H0 H rs rw kp lv cl en s a0 as l rest) (h : EvD K te σ H (.int ((l.row + 1 : Nat) : Int))) (k : ∀ H', GnMid K H0 H' rs rw kp lv cl en s a0 as l rest → TK H H' → tz D σ H') :
    tSeq (tAsg te (gSub (tOp (rIxL K) (tVar 2) (tUn (rU fun i => .int (-i)) (tC (.int 1)))) (tC (.int 0)) rSetL)) tz D σ H := by
  obtain ⟨fv, hA, hfv⟩ := G.P.top
  refine q_setL (K := K) (l := a0) (j := 0) h (ev_ixL (ev_var h2) G.P.lst (d_m1 (K := K)) (atI_last _ _)) d_int hA rfl fun v H1 e1 hv h1 => ?_
  rw [hv.int_eq]
  have G1 := G.to e1
  have tk : TK H1 (upd H1 a0 (.lst ([.int (l.row : Int), .int (EndL rs rest : Int), fv].set 0 (.int ((l.row + 1 : Nat) : Int))))) := TK.upd h1 trivial
  have nd := G.nd
  simp only [List.nodup_cons, List.mem_cons, not_or] at nd
  obtain ⟨⟨k1, k2, k3, k4, k5, k6⟩, ⟨m1, m2, m3, m4, m5⟩, ⟨n1, n2, n3, n4⟩, ⟨n5, n6, n7⟩, ⟨n8, n9⟩, n10, n11⟩ := nd
  obtain ⟨rvs, hW, hd⟩ := G1.P.rows
  obtain ⟨cvs, hC, hcd⟩ := G1.P.cal
  obtain ⟨evs, hE, hed⟩ := G1.ent
  refine k _ ⟨⟨rvs, by rw [upd_ne n3]; exact hW, hd.tk tk⟩, by rw [upd_ne n6]; exact G1.P.lst, ⟨⟨fv, upd_same, (hfv.ex e1).tk tk⟩, G1.P.bel.kp (fun a ha o ho => by rw [upd_ne (by intro e; subst e; exact n10 ha)]; exact ho) tk⟩, ⟨cvs, by rw [upd_ne n8]; exact hC, hcd.tk tk⟩, G1.kept.stay (fun o ho => by rw [upd_ne k5]; exact ho) tk, ⟨evs, by rw [upd_ne m4]; exact hE, hed.tk tk⟩, Ex.mut G1.ex (G.new a0 (by simp)), G.new, G.nd⟩ ((TK.ex e1).trans tk)
theorem Lvs.at : ∀ {as : List Addr} {st : List Lv}, Lvs K H rs as st → ∀ (j : Nat) (a : Addr) (fs : List Fr), as[j]? = some a → (st.map (·.frs))[j]? = some fs → ∃ p e v, H a = some (.lst [p, e, v]) ∧ Dt K H v (frsD fs)
  | [], [], _, j, a, fs, h, _ => by simp at h
  | a :: as, c :: rest, h, 0, b, fs, hb, hf => by
    simp at hb hf
    subst hb hf
    obtain ⟨v, h1, h2⟩ := h.1
    exact ⟨_, _, v, h1, h2⟩
  | a :: as, c :: rest, h, j + 1, b, fs, hb, hf => Lvs.at h.2 j b fs (by simpa using hb) (by simpa using hf)
  | [], _ :: _, h, _, _, _, _, _ => h.elim
  | _ :: _, [], h, _, _, _, _, _ => h.elim
theorem d_framesG {σ : L2.St} (h2 : σ[2]? = some (some (.ref lv))) (h14 : σ.length = 14) (G : GnMid K H0 H rs rw kp lv cl en s a0 as l rest) (hl : (l :: rest).length ≤ 9) (ht : (allF (l :: rest)).length ≤ 8) :
    EvD K (tCB (rTup K) (tCons (tSumL (tCons (tLc (iList K (tVar 2)) (gName 13) tYes (tFr2 K) [13]) tNil) (tLst tNil)) tNil)) σ H (frsD (allF (l :: rest))) := by
  have len := G.lvs.len
  have hlst : H lv = some (.lst ((a0 :: as).reverse.map V.ref)) := by
    rw [List.reverse_cons, List.map_append]
    exact G.lst
  refine d_allFr (bs := (a0 :: as).reverse) (fss := (l :: rest).reverse.map (·.frs)) (ev_var h2) h14 hlst (by rw [List.length_reverse, List.length_map, List.length_reverse]; exact len) (fun j b fs hb hf => ?_) (by rw [List.length_reverse]; omega) (by rw [List.length_reverse]; simp) (by show (allF (l :: rest)).length ≤ 1000; omega)
  have hj : j < (a0 :: as).length := by
    have := (List.getElem?_eq_some_iff.mp hb).1
    simpa using this
  rw [List.getElem?_reverse hj] at hb
  rw [List.map_reverse, List.getElem?_reverse (by rw [List.length_map]; omega), List.length_map, ← len] at hf
  exact G.lvs.at _ b fs hb hf
end
end Kx

set_option Elab.async false
set_option linter.all false
set_option maxRecDepth 100000
set_option maxHeartbeats 4000000
namespace Kx
open PySem PySem.Spec PyProof.Rows L2 Evl HT TL
/-! ### a row done by the law -/
section
variable {K : PySem.W.Frag} {H0 H H' : Hp} {rs : List Row} {rw kp lv cl en : Addr} {s : Ms} {a0 : Addr} {as : List Addr} {l : Lv} {rest : List Lv}
theorem GnMid.at (G : GnMid K H0 H rs rw kp lv cl en s a0 as l rest) : GnAt K H0 H rs rw kp lv cl en s a0 as ⟨l.row + 1, 0, l.frs⟩ rest :=
  ⟨⟨G.rows, G.lst, G.lvs.1, G.lvs.2, G.cal, (List.nodup_cons.mp (List.nodup_cons.mp G.nd).2).2⟩, G.kept, G.ent, G.ex, G.new, G.nd⟩
theorem s_stepG {σ : L2.St} {D : Ends} {te : TE} {v11 : V} {d ed : PyData} {ds : List PyData} {t : Pl} (h1 : σ[1]? = some (some (.ref kp))) (h4 : σ[4]? = some (some (.ref en))) (h11 : σ[11]? = some (some v11)) (G : GnMid K H0 H rs rw kp lv cl en s a0 as l rest) (hv : Dt K H v11 d) (hd : d = .tuple ds) (ht : atI ds 2 = some (pD t)) (hE : EvD K te σ H ed) (hm : s.made.length ≤ 100)
    (k : ∀ H', GnAt K H0 H' rs rw kp lv cl en { s with place := t, made := s.made ++ [ed] } a0 as ⟨l.row + 1, 0, l.frs⟩ rest → D.nx σ H') :
    tSeq (tDrop (tBM K "list" rAppend (tVar 4) (tCons te tNil))) (tAsg (tOp (rIxT K) (tVar 11) (tC (.int 2))) (gSub (tVar 1) (tC (.int 0)) rSetL)) D σ H := by
  subst hd
  obtain ⟨evs, hev, dev⟩ := G.ent
  refine q_appD (K := K) (l := en) (xs := evs) (d := ed) hev (ev_var h4) hE (by rw [dev.len]; omega) fun v H1 e1 hv1 h1' => ?_
  have G1 := G.to e1
  have nd := G.nd
  simp only [List.nodup_cons, List.mem_cons, not_or] at nd
  obtain ⟨⟨k1, k2, k3, k4, k5, k6⟩, ⟨m1, m2, m3, m4, m5⟩, ⟨n1, n2, n3, n4⟩, ⟨n5, n6, n7⟩, ⟨n8, n9⟩, n10, n11⟩ := nd
  have tk1 : TK H1 (upd H1 en (.lst (evs ++ [v]))) := TK.upd h1' trivial
  have hv11 := (hv.ex e1).tk tk1
  obtain ⟨pv, sv, hkp, hpv, hsv⟩ := G1.kept
  have hkp1 : upd H1 en (.lst (evs ++ [v])) kp = some (.lst [pv, .str (modeS s.by_), .int s.pace, sv]) := by rw [upd_ne k1]; exact hkp
  refine s_setL (K := K) (l := kp) (j := 0) (d_ix (d_var hv11 h11) d_int ht) (ev_var h1) d_int hkp1 rfl fun v' H2 e2 hv' h2' => ?_
  have tk2 : TK H2 (upd H2 kp (.lst ([pv, .str (modeS s.by_), .int s.pace, sv].set 0 v'))) := TK.upd h2' trivial
  -- all but the two lists stand
  have keep : ∀ {x : Addr} {o : HO}, x ≠ en → x ≠ kp → H1 x = some o → upd H2 kp (.lst ([pv, .str (modeS s.by_), .int s.pace, sv].set 0 v')) x = some o := fun h1 h2 h => by
    rw [upd_ne h2]
    exact e2 _ _ (by rw [upd_ne h1]; exact h)
  have tk : TK H1 (upd H2 kp (.lst ([pv, .str (modeS s.by_), .int s.pace, sv].set 0 v'))) := (tk1.trans (TK.ex e2)).trans tk2
  obtain ⟨rvs, hW, hdr⟩ := G1.rows
  obtain ⟨cvs, hC, hcd⟩ := G1.cal
  have eEn : upd H2 kp (.lst ([pv, .str (modeS s.by_), .int s.pace, sv].set 0 v')) en = some (.lst (evs ++ [v])) := by
    rw [upd_ne (Ne.symm k1)]
    exact e2 _ _ upd_same
  refine k _ (GnMid.at ⟨⟨rvs, keep (Ne.symm m1) (Ne.symm k2) hW, hdr.tk tk⟩, keep (Ne.symm m2) (Ne.symm k3) G1.lst, G1.lvs.kp (fun a ha o ho => keep ?_ ?_ ho) tk, ⟨cvs, keep (Ne.symm m3) (Ne.symm k4) hC, hcd.tk tk⟩, ⟨v', sv, upd_same, hv'.tk tk2, hsv.tk tk⟩, ⟨evs ++ [v], eEn, ?_⟩, ?_, G.new, G.nd⟩)
  · rintro rfl
    rcases List.mem_cons.mp ha with h | h
    · exact m4 h
    · exact m5 h
  · rintro rfl
    rcases List.mem_cons.mp ha with h | h
    · exact k5 h
    · exact k6 h
  · exact ((dev.ex e1).append (.cons hv1 .nil)).tk tk
  · exact Ex.mut ((Ex.mut G1.ex (G.new en (by simp))).trans e2) (G.new kp (by simp))
theorem s_callG {σ : L2.St} {D : Ends} {te : TE} {v8 : V} {nm : Str} {n : Nat} {E : XK} (h0 : σ[0]? = some (some (.ref rw))) (h2 : σ[2]? = some (some (.ref lv))) (h3 : σ[3]? = some (some (.ref cl))) (h8 : σ[8]? = some (some v8)) (G : GnMid K H0 H rs rw kp lv cl en s a0 as l rest) (W : WfR rs) (hok : ∀ r ∈ rs, OkRow r) (hz : rs.length ≤ 60) (hrow : rs[l.row]? = some (.call nm n)) (hlt : l.turn = 0) (hr8 : rest.length ≤ 8)
    (hv : Dt K H v8 (rowD (.call nm n))) (hT : EvD K te σ H (.tuple [.int (l.row : Int), .int 0]))
    (k : ∀ p H', GnAt K H0 H' rs rw kp lv cl en s p (a0 :: as) ⟨begOf rs nm, 0, []⟩ (l :: rest) → D.nx σ H') :
    tSeq (tDrop (tBM K "list" rAppend (tVar 3) (tCons te tNil))) (tDrop (tBM K "list" rAppend (tVar 2) (tCons (tCall (spSpan K) [] E (tCons (tVar 0) (tCons (tOp (rIxT K) (tVar 8) (tC (.int 1))) tNil))) tNil))) D σ H := by
  obtain ⟨cvs, hC, hcd⟩ := G.cal
  have hpm : Row.piece nm ∈ rs := (W.calls nm n (List.mem_of_getElem? hrow)).1
  have lcv : cvs.length ≤ 8 := by
    have := hcd.len
    unfold trailD at this
    rw [List.length_map, List.length_reverse] at this
    omega
  refine q_appD (K := K) (l := cl) (xs := cvs) hC (ev_var h3) hT (by omega) fun v H1 e1 hv1 h1' => ?_
  have G1 := G.to e1
  have nd := G.nd
  simp only [List.nodup_cons, List.mem_cons, not_or] at nd
  obtain ⟨⟨k1, k2, k3, k4, k5, k6⟩, ⟨m1, m2, m3, m4, m5⟩, ⟨n1, n2, n3, n4⟩, ⟨n5, n6, n7⟩, ⟨n8, n9⟩, n10, n11⟩ := nd
  have tk1 : TK H1 (upd H1 cl (.lst (cvs ++ [v]))) := TK.upd h1' trivial
  obtain ⟨rvs, hW, hdr⟩ := G1.rows
  have hl1 : upd H1 cl (.lst (cvs ++ [v])) lv = some (.lst (as.reverse.map V.ref ++ [V.ref a0])) := by rw [upd_ne n5]; exact G1.lst
  have hW1 : upd H1 cl (.lst (cvs ++ [v])) rw = some (.lst rvs) := by rw [upd_ne n2]; exact hW
  have lenAs := G.lvs.len
  have lle : (as.reverse.map V.ref ++ [V.ref a0]).length < 100000 := by
    rw [List.length_append, List.length_map, List.length_reverse]
    simp only [List.length_cons, List.length_nil] at lenAs ⊢
    omega
  refine s_appG (l := lv) (xs := as.reverse.map V.ref ++ [V.ref a0]) (ev_var h2) hl1 lle fun H2 e2 Q' q' => ?_
  have hv2 := ((hv.ex e1).tk tk1).ex e2
  refine (ea_cons (ev_var h0) (ea_cons (d_ix (K := K) (ds := [.str "call", .str nm, .int n]) (d_var hv2 h8) d_int rfl).str ea_nil)) H2 (Ex.refl _) _ fun H3 e3 => ?_
  have e23 := e2.trans e3
  refine ⟨rw, rvs, rs, nm, rfl, e23 _ _ hW1, (hdr.tk tk1).ex e23, hok, W, hpm, hz, fun p v3 H4 hp e4 h4 hv3 => q' (.ref p) H4 ((e23.trans e4) _ _ hl1) ?_⟩
  have e24 := e23.trans e4
  have tkL : TK H4 (upd H4 lv (.lst ((as.reverse.map V.ref ++ [V.ref a0]) ++ [V.ref p]))) := TK.upd (e24 _ _ hl1) trivial
  have tk : TK H1 (upd H4 lv (.lst ((as.reverse.map V.ref ++ [V.ref a0]) ++ [V.ref p]))) := (tk1.trans (TK.ex e24)).trans tkL
  have keep : ∀ {x : Addr} {o : HO}, x ≠ cl → x ≠ lv → H1 x = some o → upd H4 lv (.lst ((as.reverse.map V.ref ++ [V.ref a0]) ++ [V.ref p])) x = some o := fun h1 h2 h => by
    rw [upd_ne h2]
    exact e24 _ _ (by rw [upd_ne h1]; exact h)
  have c4 : upd H4 lv (.lst ((as.reverse.map V.ref ++ [V.ref a0]) ++ [V.ref p])) cl = some (.lst (cvs ++ [v])) := by
    rw [upd_ne (Ne.symm n5)]
    exact e24 _ _ upd_same
  have fresh : ∀ {x : Addr} {o : HO}, upd H1 cl (.lst (cvs ++ [v])) x = some o → x ≠ p := fun h => ne_of_none (e23 _ _ h) hp
  have freshK : ∀ {x : Addr} {o : HO}, x ≠ cl → H1 x = some o → x ≠ p := fun hc h => fresh (by rw [upd_ne hc]; exact h)
  have plv : lv ≠ p := fresh hl1
  have pcl : cl ≠ p := fresh upd_same
  have prw : rw ≠ p := fresh hW1
  obtain ⟨evs, hev, dev⟩ := G1.ent
  have pen : en ≠ p := freshK m3 hev
  obtain ⟨pv, sv, hkp, _⟩ := id G1.kept
  have pkp : kp ≠ p := freshK k4 hkp
  have pas : ∀ x ∈ a0 :: as, x ≠ p := fun x hx => by
    obtain ⟨xs, ho⟩ := G1.lvs.lstAt x hx
    refine freshK ?_ ho
    rintro rfl
    rcases List.mem_cons.mp hx with h | h
    · exact n8 h
    · exact n9 h
  have ex4 : Ex H0 H4 := (Ex.mut G1.ex (G.new cl (by simp))).trans e24
  have p0 : H0 p = none := by
    cases e : H0 p with
    | none => rfl
    | some o =>
      have : H1 p = some o := G1.ex _ _ e
      exact absurd rfl (freshK (Ne.symm pcl) this)
  show D.nx σ _
  refine k p _ ⟨⟨⟨rvs, keep n2 n1 hW, hdr.tk tk⟩, ?_, ⟨v3, ?_, hv3.tk tkL⟩, ?_, ⟨cvs ++ [v], c4, ?_⟩, ?_⟩, G1.kept.stay (fun o ho => keep k4 k3 ho) tk, ⟨evs, keep m3 m2 hev, dev.tk tk⟩, Ex.mut ex4 (G.new lv (by simp)), fun x hx => ?_, ?_⟩
  · rw [upd_same, List.reverse_cons, List.map_append]
    rfl
  · rw [upd_ne (Ne.symm plv), EndL_call hrow]
    exact h4
  · refine G1.lvs.kp (fun a ha o ho => keep ?_ ?_ ho) tk
    · rintro rfl
      rcases List.mem_cons.mp ha with h | h
      · exact n8 h
      · exact n9 h
    · rintro rfl
      rcases List.mem_cons.mp ha with h | h
      · exact n6 h
      · exact n7 h
  · rw [trailD_cons, hlt]
    exact ((hcd.ex e1).append (.cons hv1 .nil)).tk tk
  · refine List.nodup_cons.mpr ⟨?_, List.nodup_cons.mpr ⟨?_, List.nodup_cons.mpr ⟨?_, List.nodup_cons.mpr ⟨fun hm => pas p hm rfl, List.nodup_cons.mpr ⟨n10, n11⟩⟩⟩⟩⟩
    · simp only [List.mem_cons, not_or]; exact ⟨n1, n2, prw, n3, n4⟩
    · simp only [List.mem_cons, not_or]; exact ⟨n5, plv, n6, n7⟩
    · simp only [List.mem_cons, not_or]; exact ⟨pcl, n8, n9⟩
  · simp only [List.mem_cons] at hx
    rcases hx with h | h | h | h | h | h
    · exact G.new x (by simp [h])
    · exact G.new x (by simp [h])
    · exact G.new x (by simp [h])
    · exact G.new x (by simp [h])
    · rw [h]; exact p0
    · exact G.new x (List.mem_cons_of_mem _ (List.mem_cons_of_mem _ (List.mem_cons_of_mem _ (List.mem_cons_of_mem _ (List.mem_cons.mpr h)))))
  · refine List.nodup_cons.mpr ⟨?_, List.nodup_cons.mpr ⟨?_, List.nodup_cons.mpr ⟨?_, List.nodup_cons.mpr ⟨?_, List.nodup_cons.mpr ⟨?_, List.nodup_cons.mpr ⟨fun hm => pas p hm rfl, List.nodup_cons.mpr ⟨n10, n11⟩⟩⟩⟩⟩⟩⟩
    · simp only [List.mem_cons, not_or]; exact ⟨k1, k2, k3, k4, pkp, k5, k6⟩
    · simp only [List.mem_cons, not_or]; exact ⟨m1, m2, m3, pen, m4, m5⟩
    · simp only [List.mem_cons, not_or]; exact ⟨n1, n2, prw, n3, n4⟩
    · simp only [List.mem_cons, not_or]; exact ⟨n5, plv, n6, n7⟩
    · simp only [List.mem_cons, not_or]; exact ⟨pcl, n8, n9⟩
theorem s_keepG {σ : L2.St} {D : Ends} {tu : TS} {tn : TE} {v8 : V} {r : Row} {c : Nat} {E : XK} (h1 : σ[1]? = some (some (.ref kp))) (h2 : σ[2]? = some (some (.ref lv))) (h8 : σ[8]? = some (some v8)) (G : GnMid K H0 H rs rw kp lv cl en s a0 as l rest) (hv : Dt K H v8 (rowD r)) (hc : EvD K tn σ H (.int (c : Int))) (hl8 : l.frs.length ≤ 8) (hst : isStep r = false) (hca : isCall r = false) (hpl : plain r = true)
    (kE : keepErr r l.frs c = true → ∀ H', Ex H H' → tu D σ H') (kO : keepErr r l.frs c = false → ∀ H', GnAt K H0 H' rs rw kp lv cl en (keepS s r) a0 as ⟨l.row + 1, 0, keepF l.frs r⟩ rest → D.nx σ H') :
    tIfS (tTest (tOp (fun x y H Q => y = .non ∧ Q (.bl (!decide (x = .non))) H) (tCall (spKeep K) [] E (tCons (tVar 1) (tCons (tVar 2) (tCons (tVar 8) (tCons tn tNil))))) (tC .non))) tu tNext D σ H := by
  refine (ea_cons (ev_var h1) (ea_cons (ev_var h2) (ea_cons (ev_var h8) (ea_cons hc.int ea_nil)))) H (Ex.refl H) (fun vs H1 => spKeep K (vs ++ []) H1 (fun x H2 => V.non = .non ∧ ∃ k, V.bl (!decide (x = .non)) = .bl k ∧ (if k = true then tu D σ H2 else tNext D σ H2)) E) fun H1 e1 => ?_
  have G1 := G.to e1
  have nd := G.nd
  simp only [List.nodup_cons, List.mem_cons, not_or] at nd
  obtain ⟨⟨k1, k2, k3, k4, k5, k6⟩, ⟨m1, m2, m3, m4, m5⟩, ⟨n1, n2, n3, n4⟩, ⟨n5, n6, n7⟩, ⟨n8, n9⟩, n10, n11⟩ := nd
  obtain ⟨fv, hA, hfv⟩ := G1.lvs.1
  refine ⟨kp, lv, v8, s, as.reverse.map V.ref, a0, _, _, fv, l.frs, r, c, rfl, G1.kept, G1.lst, hA, hfv, hl8, hv.ex e1, hst, hca, hpl, fun he H2 e2 => ⟨rfl, true, rfl, ?_⟩, fun he H2 fv' hk ha hf kpp => ⟨rfl, false, rfl, ?_⟩⟩
  · rw [if_pos rfl]
    exact kE he H2 (e1.trans e2)
  · rw [if_neg (by decide)]
    obtain ⟨pv, sv, hkp, _⟩ := id G1.kept
    have tk : TK H1 H2 := kpp.tk fun b hb o ho => by
      simp only [List.mem_cons, List.not_mem_nil, or_false] at hb
      rcases hb with rfl | rfl
      · rw [hkp] at ho; cases ho; trivial
      · rw [hA] at ho; cases ho; trivial
    have keep : ∀ {x : Addr} {o : HO}, x ≠ kp → x ≠ a0 → H1 x = some o → H2 x = some o := fun h1 h2 h => kpp _ _ (by simp; exact ⟨h1, h2⟩) h
    obtain ⟨rvs, hW, hdr⟩ := G1.rows
    obtain ⟨cvs, hC, hcd⟩ := G1.cal
    obtain ⟨evs, hev, dev⟩ := G1.ent
    refine kO he H2 ⟨⟨⟨rvs, keep (Ne.symm k2) n3 hW, hdr.tk tk⟩, keep (Ne.symm k3) n6 G1.lst, ⟨fv', ha, hf⟩, G1.lvs.2.kp (fun a ha' o ho => keep ?_ ?_ ho) tk, ⟨cvs, keep (Ne.symm k4) n8 hC, hcd.tk tk⟩, (List.nodup_cons.mp (List.nodup_cons.mp G.nd).2).2⟩, hk, ⟨evs, keep (Ne.symm k1) m4 hev, ?_⟩, ex_new G1.ex (fun x hx => ?_) kpp, G.new, G.nd⟩
    · rintro rfl; exact k6 ha'
    · rintro rfl; exact n10 ha'
    · have em : (keepS s r).made = s.made := by cases r <;> rfl
      rw [em]
      exact dev.tk tk
    · simp only [List.mem_cons, List.not_mem_nil, or_false] at hx
      rcases hx with rfl | rfl
      · exact G.new _ (by simp)
      · exact G.new _ (by simp)
end
end Kx

set_option Elab.async false
set_option linter.all false
set_option maxRecDepth 100000
set_option maxHeartbeats 4000000
namespace Kx
open PySem PySem.Spec PyProof.Rows L2 Evl HT TL
/-! ### the law's own going through the rows -/
def kindB : Bad → Str
  | .uneven _ => "uneven" | .frame _ => "frame" | .deep _ => "deep" | .many _ => "many"
def spGone (K : PySem.W.Frag) : Sp := fun vs H Q _ => ∃ rw rvs rs m o, vs = [.ref rw] ∧ H rw = some (.lst rvs) ∧ DtL K H rvs (rs.map rowD) ∧ WfR rs ∧ (∀ r ∈ rs, OkRow r) ∧ rs.length ≤ 60 ∧ Pre rs m ms0 o ∧
  (∀ ds, o = .ok ds → ∀ p en evs H', Ex H H' → H' p = some (.tup [.str "told", .ref en]) → H' en = some (.lst evs) → DtL K H' evs ds → Q (.ref p) H') ∧
  (∀ b, o = .error b → ∀ v H', Ex H H' → Dt K H' v (.tuple [.str (kindB b), .int (numB b)]) → Q v H')
theorem step_in {r : Row} : decide (wordR r ∈ (["hop", "cut", "run", "left", "right"] : List Str)) = isStep r := by
  have no : ∀ x ∈ (["back", "by", "call", "end", "flip", "from", "pace", "piece", "shift", "side", "turn"] : List Str), decide (x ∈ (["hop", "cut", "run", "left", "right"] : List Str)) = false := by decide +kernel
  have yes : ∀ x ∈ (["hop", "cut", "run", "left", "right"] : List Str), decide (x ∈ (["hop", "cut", "run", "left", "right"] : List Str)) = true := by decide +kernel
  cases r with
  | hop x y => exact yes _ (by simp [wordR])
  | cut x y => exact yes _ (by simp [wordR])
  | run p q l => exact yes _ (by simp [wordR])
  | arc lf x y p q => cases lf <;> exact yes _ (by simp [wordR])
  | mode b => cases b <;> exact no _ (by simp [wordR])
  | frame f => cases f <;> exact no _ (by simp [wordR])
  | _ => exact no _ (by simp [wordR])
theorem call_word {r : Row} : decide (wordR r = "call") = isCall r := by
  have no : ∀ x ∈ (["hop", "cut", "run", "left", "right", "back", "by", "end", "flip", "from", "pace", "piece", "shift", "side", "turn"] : List Str), decide (x = "call") = false := by decide +kernel
  cases r with
  | call n t => rfl
  | arc lf x y p q => cases lf <;> exact no _ (by simp [wordR])
  | mode b => cases b <;> exact no _ (by simp [wordR])
  | frame f => cases f <;> exact no _ (by simp [wordR])
  | _ => exact no _ (by simp [wordR])
/-- what a run comes to next -/
theorem run_next {rs : List Row} {k : Nat} {s : Ms} {o : Except Bad (List PyData)} (R : RunF rs k s o) : (∃ l, s.stk = [l] ∧ l.row = rs.length ∧ o = .ok s.made) ∨
    ∃ l rest r, StepOk rs s l rest r ∧ ((∃ b, o = .error b ∧ doRow rs s l rest r = .error b) ∨ ∃ s1 n st k', doRow rs s l rest r = .ok s1 ∧ Sett rs n s1.stk st ∧ pass1 rs st = none ∧ RunF rs k' { s1 with stk := st } o ∧ k' < k) := by
  cases R with
  | fin h e hm ch ht =>
    refine .inl ⟨_, e, ?_, rfl⟩
    rw [e] at h
    exact of_decide_eq_true h
  | bad S hd => exact .inr ⟨_, _, _, S, .inl ⟨_, rfl, hd⟩⟩
  | go S hd ht hp t => exact .inr ⟨_, _, _, S, .inr ⟨_, _, _, _, hd, ht, hp, t, Nat.lt_succ_self _⟩⟩
theorem deed_none {rs : List Row} {s : Ms} {l : Lv} {rest : List Lv} {r : Row} (h : isStep r = true) (hs : stepOf s (allF s.stk) r = none) : deedM rs s l rest r = .error (.uneven l.row) := by
  cases r with
  | hop x y => simp only [deedM, hs]
  | cut x y => simp only [deedM, hs]
  | run x y z => simp only [deedM, hs]
  | arc x y z p q => simp only [deedM, hs]
  | _ => cases h
theorem deed_some {rs : List Row} {s : Ms} {l : Lv} {rest : List Lv} {r : Row} {d : PyData} {t : Pl} (h : isStep r = true) (hs : stepOf s (allF s.stk) r = some (d, t)) : deedM rs s l rest r = .ok { s with place := t, made := s.made ++ [entD s d] } := by
  cases r with
  | hop x y => simp only [deedM, hs]
  | cut x y => simp only [deedM, hs]
  | run x y z => simp only [deedM, hs]
  | arc x y z p q => simp only [deedM, hs]
  | _ => cases h
theorem deed_keep {rs : List Row} {s : Ms} {l : Lv} {rest : List Lv} {r : Row} (e : s.stk = l :: rest) (h1 : isStep r = false) (h2 : isCall r = false) (h3 : plain r = true) : deedM rs s l rest r = if keepErr r l.frs (allF s.stk).length = true then .error (.frame l.row) else .ok { keepS s r with stk := ⟨l.row, l.turn, keepF l.frs r⟩ :: rest } := by
  cases r with
  | mode b =>
    rw [if_neg (show ¬ keepErr (.mode b) l.frs (allF s.stk).length = true from fun z => by cases z)]
    show Except.ok ({ s with by_ := b } : Ms) = .ok { s with by_ := b, stk := l :: rest }
    rw [← e]
  | pace b =>
    rw [if_neg (show ¬ keepErr (.pace b) l.frs (allF s.stk).length = true from fun z => by cases z)]
    show Except.ok ({ s with pace := b } : Ms) = .ok { s with pace := b, stk := l :: rest }
    rw [← e]
  | side b =>
    rw [if_neg (show ¬ keepErr (.side b) l.frs (allF s.stk).length = true from fun z => by cases z)]
    show Except.ok ({ s with side := b } : Ms) = .ok { s with side := b, stk := l :: rest }
    rw [← e]
  | frame f =>
    by_cases h : (allF s.stk).length = 8
    · rw [if_pos (show keepErr (.frame f) l.frs (allF s.stk).length = true from decide_eq_true h)]
      simp only [deedM]
      rw [if_pos h]
    · rw [if_neg (show ¬ keepErr (.frame f) l.frs (allF s.stk).length = true from fun z => h (of_decide_eq_true z))]
      simp only [deedM]
      rw [if_neg h]
      rfl
  | back =>
    by_cases h : l.frs = []
    · rw [if_pos (show keepErr .back l.frs (allF s.stk).length = true from decide_eq_true h)]
      simp only [deedM]
      rw [if_pos h]
    · rw [if_neg (show ¬ keepErr .back l.frs (allF s.stk).length = true from fun z => h (of_decide_eq_true z))]
      simp only [deedM]
      rw [if_neg h]
      rfl
  | hop x y => cases h1
  | cut x y => cases h1
  | run x y z => cases h1
  | arc x y z p q => cases h1
  | piece x => cases h3
  | fin => cases h3
  | call x y => cases h2
section
variable {K : PySem.W.Frag} {σ : L2.St} {H : Hp} {ta tb tc te : TE} {D : Ends} {tz : TS}
theorem d_madeG {kp : Addr} {s : Ms} {r : Row} {E : XK} (h1 : Ev ta σ H (.ref kp)) (h2 : EvD K tb σ H (frsD (allF s.stk))) (h3 : EvD K tc σ H (rowD r)) (hK : KeptAt K H kp s) (hst : isStep r = true) (hf : FitRow s r) : EvD K (tCall (spMade K) [] E (tCons ta (tCons tb (tCons tc tNil)))) σ H (madeD s (allF s.stk) r) := fun H1 e1 Q q =>
  h1 H1 e1 _ fun H2 e2 => h2 H2 (e1.trans e2) _ fun w1 H3 e3 hw1 => h3 H3 ((e1.trans e2).trans e3) _ fun w2 H4 e4 hw2 =>
    ⟨kp, w1, w2, s, r, rfl, hK.ex (((e1.trans e2).trans e3).trans e4), hw1.ex e4, hw2, hst, hf, fun v H5 e5 hv => q v H5 (((e2.trans e3).trans e4).trans e5) hv⟩
theorem q_par3 {i j l : Nat} (h : ta σ H fun v H1 => tb σ H1 fun w H2 => tc σ H2 fun u H3 => ∃ v' w' u', [v, w, u] = [v', w', u'] ∧ tz D (((σ.set i (some v')).set j (some w')).set l (some u')) H3) : tSeq (tPar3 i j l (tCons ta (tCons tb (tCons tc tNil)))) tz D σ H := h
theorem l_ref {ds : List PyData} {Q : VK} (h : EvN K ta σ H ds) (q : ∀ a xa H1, H a = none → Ex H H1 → H1 a = some (.lst xa) → DtL K H1 xa ds → ∀ p, H1 p = none → Q (.ref p) (upd H1 p (.lst [.ref a]))) : tLst (tCons ta tNil) σ H Q :=
  h H (Ex.refl H) (fun x H1 => 1 ≤ sizeLine ∧ ∀ p, H1 p = none → Q (.ref p) (upd H1 p (.lst [x]))) fun a xa H1 h1 h2 h3 h4 => ⟨by decide, fun p hp => q a xa H1 h1 h2 h3 h4 p hp⟩
/-- ('told', entries) -/
theorem s_told {x : Str} {l : Addr} (ha : Ev ta σ H (.ref l)) (k : ∀ p H1, H p = none → Ex H H1 → H1 p = some (.tup [.str x, .ref l]) → D.rt (.ref p) H1) : tRet (tTup (tCons (tC (.str x)) (tCons ta tNil))) D σ H :=
  ha H (Ex.refl H) (fun v H1 => 2 ≤ sizeLine ∧ ∀ p, H1 p = none → D.rt (.ref p) (upd H1 p (.tup [.str x, v]))) fun H1 e1 => ⟨by decide, fun p hp => k p _ (fresh_back e1 hp) (e1.trans (Ex.new hp)) upd_same⟩
theorem dt_kept {xs : List V} (h : DtL K H xs [pD ((0, 1), (0, 1)), .str "from", .int 0, nD (0, 1)]) : ∃ pv sv, xs = [pv, .str "from", .int 0, sv] ∧ Dt K H pv (pD ((0, 1), (0, 1))) ∧ Dt K H sv (nD (0, 1)) := by
  cases h with
  | cons a h =>
    cases h with
    | cons b h =>
      cases h with
      | cons c h =>
        cases h with
        | cons d h =>
          cases h
          exact ⟨_, _, by rw [b.str_eq, c.int_eq], a, d⟩
end
section
variable {w : World} {K : PySem.W.Frag} {mg : Str → Option Value} {base : Heap}
theorem sc_gone : FnScope ["_law_rows", "_law_kept", "_law_levels", "_law_calls", "_law_entries", "_law_many", "_law_moved", "_law_at", "_law_row_here", "_law_steps", "_law_frames", "_law_step", "_law_side", "_law_level"] ["_law_rows"] (defScope Kd.s__law_gone) := ⟨rfl, rfl, rfl, by decide +kernel, rfl, by decide +kernel, by decide +kernel⟩
theorem ok_gone (T : Tx w K mg) : Ok Pg w K mg base CX0 44 (He.ga K "_law_gone") ["_law_rows"] (spGone K) := by
  refine ok_of T.f__law_gone sc_gone (fun vs H Q E h => by obtain ⟨_, _, _, _, _, rfl, _⟩ := h; rfl) (fun _ _ _ _ _ _ us hl => match us, hl with | [_], _ => rfl) fun cdv A outer s0 H vs Q E hr h => ?_
  obtain ⟨rw, rvs, rs, m, o, rfl, hW, hd, W, hok, hz, hPre, hT, hE⟩ := h
  refine ⟨_, PSs.nox (pss_cons (ps_set (i := 1) sc_gone.nd rfl (Or.inl rfl) (pe_lst (pa_cons (pe_tup (pa_cons (pe_tup (pa_cons pe_int (pa_cons pe_int pa_nil))) (pa_cons (pe_tup (pa_cons pe_int (pa_cons pe_int pa_nil))) pa_nil))) (pa_cons pe_str (pa_cons pe_int (pa_cons (pe_tup (pa_cons pe_int (pa_cons pe_int pa_nil))) pa_nil))))))
    (pss_cons (ps_par3 (i := 2) (j := 3) (l := 4) rfl sc_gone.nd rfl rfl rfl (by decide) (by decide) (by decide) rfl rfl rfl (pa_cons (pe_lst (pa_cons (pe_lst (pa_cons pe_int (pa_cons (pe_callB call_len_seq (by rfl) T.b_len PySem.boot_len (pa_cons (pv 0) pa_nil)) (pa_cons (pe_tup pa_nil) pa_nil)))) pa_nil)) (pa_cons (pe_lst pa_nil) (pa_cons (pe_lst pa_nil) pa_nil))) (by rfl))
    (pss_cons (ps_set (i := 5) sc_gone.nd rfl (Or.inl rfl) pe_int)
    (pss_one (ps_while PassesOwn.never (pt_val pe_bl) (pss_cons (ps_set (i := 6) sc_gone.nd rfl (Or.inl rfl) pe_bl)
    (pss_cons (ps_while PassesOwn.never (pt_val (pv 6)) (pss_one (ps_set (i := 6) sc_gone.nd rfl (Or.inl rfl) (pe_fn (E := E) (ok_next T) (hr.mono (by decide)) T.g__law_next pass0 (pa_cons (pv 0) (pa_cons (pv 2) (pa_cons (pv 3) pa_nil)))))))
    (pss_cons (ps_set (i := 7) sc_gone.nd rfl (Or.inl rfl) (pe_ix ix_list (pe_ix ix_list (pv 2) (pe_un un_neg pe_int) fun _ _ => rfl) pe_int fun _ _ => rfl))
    (pss_cons (ps_if (pt_cmpR op_eq (pv 7) (pe_ix ix_list (pe_ix ix_list (pv 2) (pe_un un_neg pe_int) fun _ _ => rfl) pe_int fun _ _ => rfl) (nomark _)) (pss_one (ps_ret (pe_tup (pa_cons pe_str (pa_cons (pv 4) pa_nil))))) pss_nil)
    (pss_cons (ps_set (i := 8) sc_gone.nd rfl (Or.inl rfl) (pe_ix ix_list (pv 0) (pv 7) fun _ _ => rfl))
    (pss_cons (ps_set (i := 9) sc_gone.nd rfl (Or.inl rfl) (pe_cmpR op_in_seq (px (pv 8)) (pe_lst (pa_cons pe_str (pa_cons pe_str (pa_cons pe_str (pa_cons pe_str (pa_cons pe_str pa_nil)))))) (by rfl)))
    (pss_cons (ps_if (PW.pt (pw_or (pt_cmpR op_eq (pv 5) pe_int (nomark _)) (pw_or1 (PW.pt (pw_and (pt_val (pv 9)) (pw_and1 (pt_cmpR op_eq (pe_callB call_len_seq (by rfl) T.b_len PySem.boot_len (pa_cons (pv 4) pa_nil)) pe_int (nomark _)))))))) (pss_one (ps_ret (pe_tup (pa_cons pe_str (pa_cons (pe_ix ix_list (pe_lst (pa_cons pe_int (pa_cons pe_int pa_nil))) (pe_callTy call_int1 (by rfl) T.b_int PyProof.Rows.boot_int (pa_cons (pe_cmpR op_eq (pv 5) pe_int (nomark _)) pa_nil)) fun _ _ => rfl) pa_nil))))) pss_nil)
    (pss_cons (ps_set (i := 5) sc_gone.nd rfl (Or.inl rfl) (pe_op op_add (pv 5) pe_int))
    (pss_cons (ps_asg (pe_op op_add (pv 7) pe_int) (pg_sub (pe_ix ix_list (pv 2) (pe_un un_neg pe_int) fun _ _ => rfl) pe_int set_list))
    (pss_cons (ps_set (i := 10) sc_gone.nd rfl (Or.inl rfl) (pe_callTy call_tuple_of (by rfl) T.b_tuple PyProof.Rows.boot_tuple (pa_cons (pe_sumL (by rfl) (by rfl) T.b_sum (pa_cons (pe_lc (te := tFr2 K) (own := [("_law_level", 13)]) (g := gName 13) (tt := tYes) (by rfl) sc_gone.nd (pi_list (pv 2)) (blkOk_by (own := [("_law_level", 13)]) (N := ["_law_rows", "_law_kept", "_law_levels", "_law_calls", "_law_entries", "_law_many", "_law_moved", "_law_at", "_law_row_here", "_law_steps", "_law_frames", "_law_step", "_law_side", "_law_level"]) (sc := defScope Kd.s__law_gone) (by decide +kernel)) (fun _ _ _ _ _ => pg_name (i := 13) sc_gone.nd rfl (Or.inl rfl)) (fun _ _ _ _ _ => pts_nil) (fun _ _ _ _ _ => pe_callTy call_list_of (by rfl) T.b_list PyProof.Rows.boot_list (pa_cons (pe_ix ix_list (pv 13) pe_int fun _ _ => rfl) pa_nil))) pa_nil) (pe_lst pa_nil)) pa_nil)))
    (pss_one (ps_if (pt_val (pv 9)) (pss_cons (ps_set (i := 11) sc_gone.nd rfl (Or.inl rfl) (pe_fn (E := E) (ok_madeL T) (hr.mono (by decide)) T.g__law_made pass0 (pa_cons (pv 1) (pa_cons (pv 10) (pa_cons (pv 8) pa_nil)))))
    (pss_cons (ps_if (pt_cmpR op_isN (pv 11) pe_non (nomark _)) (pss_one (ps_ret (pe_tup (pa_cons pe_str (pa_cons (pv 7) pa_nil))))) pss_nil)
    (pss_cons (ps_set (i := 12) sc_gone.nd rfl (Or.inl rfl) (pe_tup (pa_cons (pe_op op_mul (px (pe_ix ix_list (pv 1) pe_int fun _ _ => rfl)) (pe_op op_sub pe_int (pe_op op_mul pe_int (pe_fn (E := E) (ok__law_about T) (hr.mono (by decide)) T.g__law_about pass0 (pa_cons (pv 10) pa_nil))))) (pa_cons (px (pe_ix ix_list (pv 1) pe_int fun _ _ => rfl)) pa_nil))))
    (pss_cons (ps_expr (pe_bm PySem.F.plainAttrs_list PySem.F.slot_list_append PySem.F.type_list_append mt_append (pv 4) (pa_cons (pe_tup (pa_cons (pv 11) (pa_cons (pe_ix ix_list (pv 1) pe_int fun _ _ => rfl) (pa_cons (pv 12) (pa_cons (pe_op op_catA (pe_callTy call_tuple_of (by rfl) T.b_tuple PyProof.Rows.boot_tuple (pa_cons (pv 3) pa_nil)) (pe_tup (pa_cons (pe_tup (pa_cons (pv 7) (pa_cons pe_int pa_nil))) pa_nil))) pa_nil))))) pa_nil)))
    (pss_one (ps_asg (px (pv 11)) (pg_sub (pv 1) pe_int set_list))))))) (pss_one (ps_if (pt_cmpR op_eq (px (pv 8)) pe_str (nomark _)) (pss_cons (ps_if (pt_cmpR op_eq (pe_callB call_len_seq (by rfl) T.b_len PySem.boot_len (pa_cons (pv 3) pa_nil)) pe_int (nomark _)) (pss_one (ps_ret (pe_tup (pa_cons pe_str (pa_cons (pv 7) pa_nil))))) pss_nil)
    (pss_cons (ps_expr (pe_bm PySem.F.plainAttrs_list PySem.F.slot_list_append PySem.F.type_list_append mt_append (pv 3) (pa_cons (pe_tup (pa_cons (pv 7) (pa_cons pe_int pa_nil))) pa_nil)))
    (pss_one (ps_expr (pe_bm PySem.F.plainAttrs_list PySem.F.slot_list_append PySem.F.type_list_append mt_append (pv 2) (pa_cons (pe_fn (E := E) (ok_span T) (hr.mono (by decide)) T.g__law_span pass0 (pa_cons (pv 0) (pa_cons (px (pv 8)) pa_nil))) pa_nil)))))) (pss_one (ps_if (pt_cmpR op_notN (pe_fn (E := E) (ok_keep T) (hr.mono (by decide)) T.g__law_keep pass0 (pa_cons (pv 1) (pa_cons (pv 2) (pa_cons (pv 8) (pa_cons (pe_callB call_len_seq (by rfl) T.b_len PySem.boot_len (pa_cons (pv 10) pa_nil)) pa_nil))))) pe_non (nomark _)) (pss_one (ps_ret (pe_tup (pa_cons pe_str (pa_cons (pv 7) pa_nil))))) pss_nil))))))))))))))))))))), ?_⟩
  -- what is kept
  refine q_asgN (K := K) (n_lst (ds_cons (d_tup2 (ds_cons (d_tup2 (ds_cons d_int (ds_cons d_int ds_nil))) (ds_cons (d_tup2 (ds_cons d_int (ds_cons d_int ds_nil))) ds_nil))) (ds_cons d_str (ds_cons d_int (ds_cons (d_tup2 (ds_cons d_int (ds_cons d_int ds_nil))) ds_nil)))) (by show 4 ≤ 100000; decide)) fun kp xk H1 nkp e1 hkp dkp => ?_
  obtain ⟨pv0, sv0, rfl, hpv0, hsv0⟩ := dt_kept dkp
  have K1 : KeptAt K H1 kp ms0 := ⟨pv0, sv0, hkp, hpv0, hsv0⟩
  have hW1 := e1 _ _ hW
  -- levels, calls, entries
  refine q_par3 ?_
  refine l_ref (K := K) (ds := [.int 0, .int (rs.length : Int), frsD []]) (n_lst (ds_cons d_int (ds_cons (EvD.is (d_lenK (ds := rs.map rowD) (ev_var rfl) (sq_of hW1) hd.len) (by rw [List.length_map])) (ds_cons (d_tup ds_nil (by show 0 ≤ 100000; decide)) ds_nil))) (by show 3 ≤ 100000; decide)) fun a0 xa H2 na0 e2 ha0 da0 lv nlv => ?_
  obtain ⟨u0, u1, fv0, rfl, x0, x1, x2⟩ := da0.three
  rw [x0.int_eq, x1.int_eq] at ha0
  have e3 : Ex H2 (upd H2 lv (.lst [.ref a0])) := Ex.new nlv
  refine ⟨Nat.zero_le _, fun cl ncl => ?_⟩
  have e4 : Ex (upd H2 lv (.lst [.ref a0])) (upd (upd H2 lv (.lst [.ref a0])) cl (.lst [])) := Ex.new ncl
  refine ⟨Nat.zero_le _, fun en nen => ?_⟩
  have e5 : Ex (upd (upd H2 lv (.lst [.ref a0])) cl (.lst [])) (upd (upd (upd H2 lv (.lst [.ref a0])) cl (.lst [])) en (.lst [])) := Ex.new nen
  have hlv3 : upd H2 lv (.lst [.ref a0]) lv = some (.lst [.ref a0]) := upd_same
  have hcl4 : upd (upd H2 lv (.lst [.ref a0])) cl (.lst []) cl = some (.lst []) := upd_same
  have hen5 : upd (upd (upd H2 lv (.lst [.ref a0])) cl (.lst [])) en (.lst []) en = some (.lst []) := upd_same
  generalize upd (upd (upd H2 lv (.lst [.ref a0])) cl (.lst [])) en (.lst []) = G5 at e5 hen5
  generalize upd (upd H2 lv (.lst [.ref a0])) cl (.lst []) = G4 at e4 e5 hcl4 nen
  generalize upd H2 lv (.lst [.ref a0]) = G3 at e3 e4 hlv3 ncl
  refine ⟨_, _, _, rfl, ?_⟩
  have ex5 : Ex H G5 := (((e1.trans e2).trans e3).trans e4).trans e5
  have gn0 : GnAt K H G5 rs rw kp lv cl en ms0 a0 [] ⟨0, 0, []⟩ [] := by
    have f1 : ∀ {x : Addr} {o : HO}, H x = some o → x ≠ kp ∧ x ≠ a0 ∧ x ≠ lv ∧ x ≠ cl ∧ x ≠ en := fun h => ⟨ne_of_none h nkp, ne_of_none (e1 _ _ h) na0, ne_of_none ((e1.trans e2) _ _ h) nlv, ne_of_none (((e1.trans e2).trans e3) _ _ h) ncl, ne_of_none ((((e1.trans e2).trans e3).trans e4) _ _ h) nen⟩
    obtain ⟨w1, w2, w3, w4, w5⟩ := f1 hW
    have kp_a0 : kp ≠ a0 := ne_of_none hkp na0
    have kp_lv : kp ≠ lv := ne_of_none (e2 _ _ hkp) nlv
    have kp_cl : kp ≠ cl := ne_of_none ((e2.trans e3) _ _ hkp) ncl
    have kp_en : kp ≠ en := ne_of_none (((e2.trans e3).trans e4) _ _ hkp) nen
    have a0_lv : a0 ≠ lv := ne_of_none ha0 nlv
    have a0_cl : a0 ≠ cl := ne_of_none (e3 _ _ ha0) ncl
    have a0_en : a0 ≠ en := ne_of_none ((e3.trans e4) _ _ ha0) nen
    have lv_cl : lv ≠ cl := ne_of_none hlv3 ncl
    have lv_en : lv ≠ en := ne_of_none (e4 _ _ hlv3) nen
    have cl_en : cl ≠ en := ne_of_none hcl4 nen
    refine ⟨⟨⟨rvs, ex5 _ _ hW, hd.ex ex5⟩, (e4.trans e5) _ _ hlv3, ⟨fv0, ((e3.trans e4).trans e5) _ _ ha0, x2.ex ((e3.trans e4).trans e5)⟩, trivial, ⟨[], e5 _ _ hcl4, .nil⟩, ?_⟩, K1.ex (((e2.trans e3).trans e4).trans e5), ⟨[], hen5, .nil⟩, ex5, fun x hx => ?_, ?_⟩
    · simp only [List.nodup_cons, List.mem_cons, List.not_mem_nil, or_false, not_or, List.nodup_nil, not_false_eq_true, and_true]
      exact ⟨⟨w3, w4, w2⟩, ⟨lv_cl, Ne.symm a0_lv⟩, Ne.symm a0_cl⟩
    · simp only [List.mem_cons, List.not_mem_nil, or_false] at hx
      rcases hx with rfl | rfl | rfl | rfl | rfl
      · exact nkp
      · exact fresh_back (e1.trans e2) nlv
      · exact fresh_back ((e1.trans e2).trans e3) ncl
      · exact fresh_back (((e1.trans e2).trans e3).trans e4) nen
      · exact fresh_back e1 na0
    · simp only [List.nodup_cons, List.mem_cons, List.not_mem_nil, or_false, not_or, List.nodup_nil, not_false_eq_true, and_true]
      exact ⟨⟨kp_en, Ne.symm w1, kp_lv, kp_cl, kp_a0⟩, ⟨Ne.symm w5, Ne.symm lv_en, Ne.symm cl_en, Ne.symm a0_en⟩, ⟨w3, w4, w2⟩, ⟨lv_cl, Ne.symm a0_lv⟩, Ne.symm a0_cl⟩
  clear hcl4 hen5 hlv3 e3 e4 e5 ncl nen nlv x0 x1 x2 ha0 na0 e2 K1 hkp hpv0 hsv0 nkp hW1 e1 ex5
  refine q_asg (v := .int 0) ev_c fun H6 e6 => ?_
  replace gn0 := gn0.to e6
  -- the rows, one by one
  refine s_while (fun k σ' H' => ∃ s a0 as l rest o6 o7 o8 o9 o10 o11 o12, σ' = [some (.ref rw), some (.ref kp), some (.ref lv), some (.ref cl), some (.ref en), some (.int (s.many : Int)), o6, o7, o8, o9, o10, o11, o12, none] ∧ s.stk = l :: rest ∧ GnAt K H H' rs rw kp lv cl en s a0 as l rest ∧ Pre rs k s o) m ⟨ms0, a0, [], ⟨0, 0, []⟩, [], none, none, none, none, none, none, none, rfl, rfl, gn0, hPre⟩ ?_
  clear gn0 e6 hPre
  rintro k σ' H' ⟨s, a0, as, l, rest, o6, o7, o8, o9, o10, o11, o12, rfl, hstk, G, hPre⟩
  refine ⟨true, t_B (K := K) d_bl, fun _ H1 e1 => ⟨fun σ2 H2 => ∃ k', k' < k ∧ ∃ s a0 as l rest o6 o7 o8 o9 o10 o11 o12, σ2 = [some (.ref rw), some (.ref kp), some (.ref lv), some (.ref cl), some (.ref en), some (.int (s.many : Int)), o6, o7, o8, o9, o10, o11, o12, none] ∧ s.stk = l :: rest ∧ GnAt K H H2 rs rw kp lv cl en s a0 as l rest ∧ Pre rs k' s o, fun σ2 H2 h => h, ?_⟩, fun hb => Bool.noConfusion hb⟩
  obtain ⟨l', rest', n0, st0, hs0, hC, hl0, hlen, hS, R, hp0⟩ := hPre
  rw [hstk] at hs0
  cases hs0
  rw [hstk] at hS hlen
  replace G := G.to e1
  refine q_asg (v := .bl true) ev_c fun H2 e2 => ?_
  replace G := G.to e2
  refine q_while (fun j σ3 H3 => ∃ b a0 as l rest, σ3 = [some (.ref rw), some (.ref kp), some (.ref lv), some (.ref cl), some (.ref en), some (.int (s.many : Int)), some (.bl b), o7, o8, o9, o10, o11, o12, none] ∧ GnAt K H H3 rs rw kp lv cl en s a0 as l rest ∧ Chain rs l rest ∧ l.turn = 0 ∧ (l :: rest).length ≤ 9 ∧ ((b = true ∧ ∃ n, Sett rs n (l :: rest) st0 ∧ j = n + 1) ∨ (b = false ∧ l :: rest = st0))) (n0 + 1) ⟨true, a0, as, l, rest, rfl, G, hC, hl0, hlen, .inl ⟨rfl, n0, hS, rfl⟩⟩ ?_
  clear G e1 e2 hC hl0 hlen hS hstk
  rintro j σ3 H3 ⟨b, a0, as, l, rest, rfl, G, hC, hl0, hlen, hb⟩
  refine ⟨b, t_B (K := K) (d_vbool rfl), fun hbt H4 e4 => ?_, fun hbf H4 e4 => ?_⟩
  · rcases hb with ⟨_, n, hS, rfl⟩ | ⟨hb, _⟩
    · refine ⟨fun σ4 H5 => ∃ j', j' < n + 1 ∧ ∃ b a0 as l rest, σ4 = [some (.ref rw), some (.ref kp), some (.ref lv), some (.ref cl), some (.ref en), some (.int (s.many : Int)), some (.bl b), o7, o8, o9, o10, o11, o12, none] ∧ GnAt K H H5 rs rw kp lv cl en s a0 as l rest ∧ Chain rs l rest ∧ l.turn = 0 ∧ (l :: rest).length ≤ 9 ∧ ((b = true ∧ ∃ n, Sett rs n (l :: rest) st0 ∧ j' = n + 1) ∨ (b = false ∧ l :: rest = st0)), fun σ4 H5 h => h, ?_⟩
      refine s_nextG (E := E) rfl rfl rfl (G.to e4) W hok hz hC (by simp at hlen; omega) (fun l' rest' a0' as' H5 hp G5 => ?_) fun hp H5 G5 => ?_
      · obtain ⟨l2, rest2, e2, c2, t2, le2⟩ := pass_chain W hC hp
        cases e2
        cases hS with
        | done h => rw [h] at hp; cases hp
        | step h t =>
          rw [h] at hp
          cases hp
          exact ⟨_, Nat.lt_succ_self _, true, a0', as', _, _, rfl, G5, c2, t2, Nat.le_trans le2 hlen, .inl ⟨rfl, _, t, rfl⟩⟩
      · cases hS with
        | done h => exact ⟨0, by omega, false, a0, as, l, rest, rfl, G5, hC, hl0, hlen, .inr ⟨rfl, rfl⟩⟩
        | step h t => rw [h] at hp; cases hp
    · rw [hbt] at hb; cases hb
  · rcases hb with ⟨hb, _⟩ | ⟨_, hst0⟩
    · rw [hbf] at hb; cases hb
    · subst hst0
      replace G := G.to e4
      clear hbf e4
      obtain ⟨fv, hA, hfv⟩ := G.P.top
      -- where it stands
      refine q_asgD (K := K) (d := .int (l.row : Int)) (d_ixL (ev_ixL (ev_var rfl) G.P.lst (d_m1 (K := K)) (atI_last _ _)) (sq_of hA) d_int (v := .int _) rfl (.int _)) fun v H5 e5 hv => ?_
      rw [hv.int_eq]
      replace G := G.to e5
      have hA5 := e5 _ _ hA
      have tst := t_test (K := K) (d_eqI (K := K) (σ := [some (.ref rw), some (.ref kp), some (.ref lv), some (.ref cl), some (.ref en), some (.int (s.many : Int)), some (.bl b), some (.int (l.row : Int)), o8, o9, o10, o11, o12, none]) (H := H5) (ta := tVar 7) (tb := tOp (rIxL K) (tOp (rIxL K) (tVar 2) (tUn (rU fun i => .int (-i)) (tC (.int 1)))) (tC (.int 1))) (d_vint rfl) (d_ixL (ev_ixL (ev_var rfl) G.P.lst (d_m1 (K := K)) (atI_last _ _)) (sq_of hA5) d_int (v := .int _) rfl (.int (EndL rs rest : Int))))
      rcases run_next R with ⟨l1, hs1, hl1, ho⟩ | ⟨l1, rest1, r, S, hgo⟩
      · -- the end
        cases hs1
        refine q_when (b := true) (et_is tst (decide_eq_true (by show (l.row : Int) = (rs.length : Int); rw [hl1]))) (fun _ H6 e6 => ?_) fun hb => absurd hb (by decide)
        replace G := G.to e6
        obtain ⟨evs, hev, dev⟩ := G.ent
        refine s_told (ev_var rfl) fun p H7 hp e7 hpt => hT s.made ho p en evs H7 (G.ex.trans e7) hpt (e7 _ _ hev) (dev.ex e7)
      · have hse : l :: rest = l1 :: rest1 := S.e
        cases hse
        have hr' : rs[l.row]? = some r := S.hr
        have hpl := S.hp
        have hlt : l.row < EndL rs rest := by
          rcases next_cases W S.ch with ⟨r', h1, h2, h3⟩ | ⟨_, nm, h1⟩ | ⟨_, h1⟩ | ⟨c, rest', nm, n, _, _, _, h1, _⟩
          · exact h3
          · rw [hr'] at h1; cases h1; cases hpl
          · have := (List.getElem?_eq_some_iff.mp hr').1; omega
          · rw [hr'] at h1; cases h1; cases hpl
        refine q_when (b := false) (et_is tst (decide_eq_false (by omega))) (fun hb => absurd hb (by decide)) fun _ H6 e6 => ?_
        replace G := G.to e6
        clear tst hA5 hA hfv hv
        obtain ⟨rvs', hW', hd'⟩ := G.P.rows
        -- the row
        refine q_asgD (K := K) (d := rowD r) (d_at (ev_var rfl) hW' hd' (d_vint rfl) (atI_nat' (by rw [List.getElem?_map, hr']; rfl))) fun v8 H7 e7 hv8 => ?_
        replace G := G.to e7
        -- whether it makes a step
        refine q_asgD (K := K) (d := .bool (isStep r)) (EvD.is (d_inL (ws := ["hop", "cut", "run", "left", "right"]) (d_word (d_var hv8 rfl)) (n_lst (ds_cons d_str (ds_cons d_str (ds_cons d_str (ds_cons d_str (ds_cons d_str ds_nil))))) (by show 5 ≤ 100000; decide))) (by rw [step_in])) fun v9 H8 e8 hv9 => ?_
        rw [hv9.bool_eq]
        replace G := G.to e8
        replace hv8 := hv8.ex e8
        clear hv9
        -- refused, done
        have errK : ∀ b, doRow rs { s with stk := l :: rest } l rest r = .error b → ∀ v H', Ex H H' → Dt K H' v (.tuple [.str (kindB b), .int (numB b)]) → Q v H' := fun b hb v H' ex hv => by
          rcases hgo with ⟨b', ho, hd⟩ | ⟨s1, n, st, k', hd, _⟩
          · rw [hd] at hb; cases hb; exact hE b ho v H' ex hv
          · rw [hd] at hb; cases hb
        have okK : ∀ s2, doRow rs { s with stk := l :: rest } l rest r = .ok (onM r s2) → deedM rs { s with stk := l :: rest } l rest r = .ok s2 → ∀ l2 rest2 a02 as2 H2 o6 o7 o8 o9 o10 o11 o12, (onM r s2).stk = l2 :: rest2 → GnAt K H H2 rs rw kp lv cl en (onM r s2) a02 as2 l2 rest2 → ∃ k', k' < k ∧ ∃ s a0 as l rest p6 p7 p8 p9 p10 p11 p12, ([some (.ref rw), some (.ref kp), some (.ref lv), some (.ref cl), some (.ref en), some (.int ((onM r s2).many : Int)), o6, o7, o8, o9, o10, o11, o12, none] : L2.St) = [some (.ref rw), some (.ref kp), some (.ref lv), some (.ref cl), some (.ref en), some (.int (s.many : Int)), p6, p7, p8, p9, p10, p11, p12, none] ∧ s.stk = l :: rest ∧ GnAt K H H2 rs rw kp lv cl en s a0 as l rest ∧ Pre rs k' s o := fun s2 hok2 hdd l2 rest2 a02 as2 H2 o6 o7 o8 o9 o10 o11 o12 hs2 G2 => by
          rcases hgo with ⟨b', ho, hd⟩ | ⟨s1, n, st, k', hd, hS, hp1, R1, hk1⟩
          · rw [hd] at hok2; cases hok2
          · rw [hd] at hok2
            cases hok2
            obtain ⟨l3, rest3, h3, c3, t3, le3⟩ := do_chain W (s := { s with stk := l :: rest }) rfl S.ch S.ht hr' hpl hdd
            rw [hs2] at h3
            cases h3
            refine ⟨k', hk1, onM r s2, a02, as2, l2, rest2, o6, o7, o8, o9, o10, o11, o12, rfl, hs2, G2, l2, rest2, n, st, hs2, c3, t3, ?_, hS, R1, hp1⟩
            have := S.hz
            rcases le3 with h | h
            · exact Nat.le_trans h this
            · exact h
        have made100 : s.made.length ≤ 100 := S.hm
        obtain ⟨evs, hev, dev⟩ := G.ent
        -- too many
        refine q_when (et_or (t_test (K := K) (d_eqI (d_vint rfl) d_int)) fun _ => et_and (t_B (K := K) (d_vbool rfl)) fun _ => t_test (K := K) (d_eqI (d_lenK (ev_var rfl) (sq_of hev) dev.len) d_int)) (fun hb H9 e9 => ?_) fun hb H9 e9 => ?_
        · have hdo : doRow rs { s with stk := l :: rest } l rest r = .error (.many (if s.many = 2000 then 2000 else 100)) := by
            unfold doRow
            dsimp only
            by_cases h : s.many = 2000
            · rw [if_pos h, if_pos h]
            · rw [if_neg h, if_neg h]
              have hm : decide ((s.many : Int) = 2000) = false := decide_eq_false (by omega)
              rw [hm, Bool.false_or] at hb
              obtain ⟨h1, h2⟩ := Bool.and_eq_true_iff.mp hb
              have h3 := of_decide_eq_true h2
              rw [if_pos ⟨h1, by omega⟩]
          refine s_retD (K := K) (d := .tuple [.str "many", .int ((if s.many = 2000 then 2000 else 100 : Nat) : Int)]) (d_tup2 (ds_cons d_str (ds_cons (d_ixN (ds := [.int 100, .int 2000]) (n_lst (ds_cons d_int (ds_cons d_int ds_nil)) (by show 2 ≤ 100000; decide)) (d_int01 (d_eqI (d_vint rfl) d_int)) ?_) ds_nil))) fun v H10 e10 hv => errK _ hdo v H10 ((G.to e9).ex.trans e10) hv
          by_cases h : s.many = 2000
          · rw [if_pos h, if_pos (decide_eq_true (by omega))]; rfl
          · rw [if_neg h, if_neg (by simp; omega)]; rfl
        · obtain ⟨hb1, hb2⟩ := Bool.or_eq_false_iff.mp hb
          have nm : ¬ s.many = 2000 := fun h => by
            have := of_decide_eq_false hb1
            omega
          have nst : ¬ (isStep r = true ∧ s.made.length = 100) := fun ⟨h1, h2⟩ => by
            rw [h1, Bool.true_and] at hb2
            have := of_decide_eq_false hb2
            omega
          have doE : ∀ b, deedM rs { s with stk := l :: rest } l rest r = .error b → doRow rs { s with stk := l :: rest } l rest r = .error b := fun b h => by
            unfold doRow
            rw [if_neg nm, if_neg nst, h]
          have doO : ∀ s2, deedM rs { s with stk := l :: rest } l rest r = .ok s2 → doRow rs { s with stk := l :: rest } l rest r = .ok (onM r s2) := fun s2 h => by
            unfold doRow
            rw [if_neg nm, if_neg nst, h]
          replace G := G.to e9
          replace hv8 := hv8.ex e9
          clear hb hb1 hb2 hev dev evs
          -- one more done
          refine q_asgD (K := K) (d := .int ((s.many + 1 : Nat) : Int)) (EvD.is (d_ii (f := fun i j => i + j) (d_vint rfl) d_int) (by simp)) fun v H10 e10 hv => ?_
          rw [hv.int_eq]
          replace G := G.to e10
          replace hv8 := hv8.ex e10
          refine q_bump rfl G (EvD.is (d_ii (K := K) (f := fun i j => i + j) (d_vint rfl) d_int) (by simp)) fun H11 M tk11 => ?_
          replace hv8 := hv8.tk tk11
          have hfit := S.hf
          have ht8 : (allF (l :: rest)).length ≤ 8 := hfit.2.1
          refine q_asgD (K := K) (d := frsD (allF (l :: rest))) (d_framesG rfl rfl M hlen ht8) fun v10 H12 e12 hv10 => ?_
          replace M := M.to e12
          replace hv8 := hv8.ex e12
          have M' : GnMid K H H12 rs rw kp lv cl en { s with stk := l :: rest } a0 as l rest := ⟨M.rows, M.lst, M.lvs, M.cal, M.kept, M.ent, M.ex, M.new, M.nd⟩
          have refuse : ∀ {x : Str} {b : Bad} {σ : L2.St} {H' : Hp} {D : Ends}, D.rt = Q → doRow rs { s with stk := l :: rest } l rest r = .error b → x = kindB b → numB b = (l.row : Int) → σ[7]? = some (some (.int (l.row : Int))) → Ex H12 H' → tRet (tTup (tCons (tC (.str x)) (tCons (tVar 7) tNil))) D σ H' := fun {x b σ H' D} hD hb hx hn h7 ex => s_retD (K := K) (d := .tuple [.str x, .int (l.row : Int)]) (d_tup2 (ds_cons d_str (ds_cons (d_vint h7) ds_nil))) fun v H'' e'' hv => by
            rw [hD]
            refine errK b hb v H'' ((M.ex.trans ex).trans e'') ?_
            rw [← hx, hn]
            exact hv
          have hlr : rest.length ≤ 8 := by simp at hlen; omega
          refine s_ifG (b := isStep r) (t_B (K := K) (d_vbool rfl)) (fun hst H13 e13 => ?_) fun hst H13 e13 => ?_
          · -- a step
            replace M' := M'.to e13
            replace hv8 := hv8.ex e13
            replace hv10 := hv10.ex e13
            refine q_asgD (K := K) (d := madeD { s with stk := l :: rest } (allF (l :: rest)) r) (d_madeG (s := { s with stk := l :: rest }) (ev_var rfl) (d_var hv10 rfl) (d_var hv8 rfl) M'.kept hst hfit) fun v11 H14 e14 hv11 => ?_
            replace M' := M'.to e14
            replace hv10 := hv10.ex e14
            have e1214 := e13.trans e14
            cases hso : stepOf { s with stk := l :: rest } (allF (l :: rest)) r with
            | none =>
              have hmd : madeD { s with stk := l :: rest } (allF (l :: rest)) r = .none := by unfold madeD; rw [hso]
              rw [hmd] at hv11
              refine q_when (b := true) (t_test (K := K) (d_isN (d := .none) (d_var hv11 rfl) d_non)) (fun _ H15 e15 => ?_) fun hb => absurd hb (by decide)
              exact refuse rfl (doE _ (deed_none hst hso)) rfl rfl rfl (e1214.trans e15)
            | some dt =>
              obtain ⟨d, t⟩ := dt
              have hmd : madeD { s with stk := l :: rest } (allF (l :: rest)) r = d := by unfold madeD; rw [hso]
              rw [hmd] at hv11
              obtain ⟨ds, hds, hat⟩ := step_at2 hso
              refine q_when (b := false) (et_is (t_test (K := K) (d_isN (d_var hv11 rfl) d_non)) (by rw [hds]; rfl)) (fun hb => absurd hb (by decide)) fun _ H15 e15 => ?_
              replace M' := M'.to e15
              replace hv11 := hv11.ex e15
              replace hv10 := hv10.ex e15
              -- the side
              refine q_asgD (K := K) (d := nD (sideM { s with stk := l :: rest } (allF (l :: rest)))) ?_ fun v12 H16 e16 hv12 => ?_
              · refine EvD.is (d_tup2 (ds_cons (d_iC (f := fun i j => i * j) (d_ix (kept_side M'.kept rfl) d_int rfl) (d_ii (f := fun i j => i - j) d_int (d_iC (f := fun i j => i * j) d_int (d_call (ds_cons (d_var hv10 rfl) ds_nil) ⟨allF (l :: rest), rfl, by omega, rfl⟩) (.inl ⟨by decide, by decide⟩))) (.inr ?_)) (ds_cons (d_ix (kept_side M'.kept rfl) d_int rfl) ds_nil))) ?_
                · split <;> exact ⟨by decide, by decide⟩
                · unfold sideM
                  split
                  · show PyData.tuple [.int (s.side.1 * (1 - 2 * 1)), .int s.side.2] = .tuple [.int (0 - s.side.1), .int s.side.2]
                    rw [show s.side.1 * (1 - 2 * 1) = 0 - s.side.1 by omega]
                  · show PyData.tuple [.int (s.side.1 * (1 - 2 * 0)), .int s.side.2] = .tuple [.int s.side.1, .int s.side.2]
                    rw [show s.side.1 * (1 - 2 * 0) = s.side.1 by omega]
              replace M' := M'.to e16
              replace hv11 := hv11.ex e16
              obtain ⟨cvs, hC', hcd⟩ := M'.cal
              refine s_stepG (t := t) (ed := entD { s with stk := l :: rest } d) rfl rfl rfl M' hv11 hds hat (d_tup (ds_cons (d_var hv11 rfl) (ds_cons (kept_pace M'.kept rfl) (ds_cons (d_var hv12 rfl) (ds_cons (EvD.is (d_catT (d_tupK (ev_var rfl) hC' hcd) (d_tup (ds_cons (d_tup2 (ds_cons (d_vint rfl) (ds_cons d_int ds_nil))) ds_nil) (by show 1 ≤ 100000; decide)) ?_) ?_) ds_nil)))) (by show 4 ≤ 100000; decide)) made100 fun H17 GA => ?_
              · unfold trailD
                rw [List.length_map, List.length_reverse]
                show rest.length + 1 ≤ 100000
                omega
              · rw [trailD_cons, hl0]
                rfl
              · have hdd := deed_some (rs := rs) (s := { s with stk := l :: rest }) (l := l) (rest := rest) hst hso
                have hon := on_not (r := r) (s := { s with stk := l :: rest, place := t, made := s.made ++ [entD { s with stk := l :: rest } d] }) (l := l) (rest := rest) (by cases r <;> first | rfl | cases hst) rfl
                have q := okK _ (doO _ hdd) hdd ⟨l.row + 1, 0, l.frs⟩ rest a0 as H17 (some (.bl b)) (some (.int (l.row : Int))) (some v8) (some (.bl (isStep r))) (some v10) (some v11) (some v12) (by rw [hon]) (by rw [hon]; exact ⟨GA.P, GA.kept, GA.ent, GA.ex, GA.new, GA.nd⟩)
                rw [hon] at q
                rw [hst] at q ⊢
                exact q
          · replace M' := M'.to e13
            replace hv8 := hv8.ex e13
            replace hv10 := hv10.ex e13
            refine s_ifG (b := isCall r) (et_is (t_test (K := K) (d_eqS (d_word (d_var hv8 rfl)) d_str)) call_word) (fun hca H14 e14 => ?_) fun hca H14 e14 => ?_
            · -- a call
              replace M' := M'.to e14
              replace hv8 := hv8.ex e14
              cases r with
              | call nm n =>
                obtain ⟨cvs, hC', hcd⟩ := M'.cal
                have lct : (trailD rest).length = rest.length := by unfold trailD; rw [List.length_map, List.length_reverse]
                refine q_when (b := decide ((rest.length : Int) = 8)) (et_is (t_test (K := K) (d_eqI (d_lenK (ev_var rfl) (sq_of hC') hcd.len) d_int)) (by rw [lct])) (fun hb H15 e15 => ?_) fun hb H15 e15 => ?_
                · have h8 := of_decide_eq_true hb
                  exact refuse rfl (doE (.deep l.row) (by simp only [deedM]; rw [if_pos (by simp; omega)])) rfl rfl rfl ((e13.trans e14).trans e15)
                · have h8 := of_decide_eq_false hb
                  replace M' := M'.to e15
                  replace hv8 := hv8.ex e15
                  refine s_callG rfl rfl rfl rfl M' W hok hz hr' hl0 hlr hv8 (d_tup2 (ds_cons (d_vint rfl) (ds_cons d_int ds_nil))) fun p H16 GA => ?_
                  have hdd : deedM rs { s with stk := l :: rest } l rest (.call nm n) = .ok { s with stk := ⟨begOf rs nm, 0, []⟩ :: l :: rest } := by simp only [deedM]; rw [if_neg (by simp; omega)]
                  have q := okK _ (doO _ hdd) hdd ⟨begOf rs nm, 0, []⟩ (l :: rest) p (a0 :: as) H16 (some (.bl b)) (some (.int (l.row : Int))) (some v8) (some (.bl (isStep (.call nm n)))) (some v10) o11 o12 rfl ⟨GA.P, GA.kept, GA.ent, GA.ex, GA.new, GA.nd⟩
                  exact q
              | _ => cases hca
            · -- what makes no step
              replace M' := M'.to e14
              replace hv8 := hv8.ex e14
              replace hv10 := hv10.ex e14
              have lfr : l.frs.length ≤ 8 := by
                rw [allF_lv, List.length_append] at ht8
                omega
              have hdk := deed_keep (rs := rs) (s := { s with stk := l :: rest }) (l := l) (rest := rest) rfl hst hca hpl
              refine s_keepG (c := (allF (l :: rest)).length) rfl rfl rfl M' hv8 (EvD.is (d_lenT (d_var hv10 rfl)) (by rw [List.length_map])) lfr hst hca hpl (fun he H15 e15 => ?_) fun he H15 GA => ?_
              · exact refuse rfl (doE (.frame l.row) (by rw [hdk, if_pos he])) rfl rfl rfl ((e13.trans e14).trans e15)
              · have hdd : deedM rs { s with stk := l :: rest } l rest r = .ok { keepS { s with stk := l :: rest } r with stk := ⟨l.row, l.turn, keepF l.frs r⟩ :: rest } := by rw [hdk, if_neg (by rw [he]; decide)]
                have hon := on_not (r := r) (s := { keepS { s with stk := l :: rest } r with stk := ⟨l.row, l.turn, keepF l.frs r⟩ :: rest }) (l := ⟨l.row, l.turn, keepF l.frs r⟩) (rest := rest) hca rfl
                have q := okK _ (doO _ hdd) hdd ⟨l.row + 1, 0, keepF l.frs r⟩ rest a0 as H15 (some (.bl b)) (some (.int (l.row : Int))) (some v8) (some (.bl (isStep r))) (some v10) o11 o12 (by rw [hon]) (by rw [hon]; exact ⟨GA.P, GA.kept, GA.ent, GA.ex, GA.new, GA.nd⟩)
                have em : (keepS { s with stk := l :: rest } r).many = s.many := by cases r <;> rfl
                rw [hon] at q
                dsimp only at q
                rw [em] at q
                exact q
end
end Kx

set_option Elab.async false
set_option linter.all false
set_option maxRecDepth 100000
set_option maxHeartbeats 4000000
namespace Kx
open PySem PySem.Spec PyProof.Rows L2 Evl HT TL
/-! ### the bag of a cell -/
def spBag (K : PySem.W.Frag) : Sp := fun vs H Q _ => ∃ a ns, ∃ j : Nat, vs = [.ref a, .int j] ∧ SqL K H a (ns.map V.int) ∧ ns.length ≤ 63 ∧ j ≤ 4 ∧ (ns = [] → j ≤ 1) ∧ ∀ p H', H p = none → Ex H H' → BagAt H' p 0 → Q (.ref p) H'
theorem ev_min2 {σ : L2.St} {H : Hp} {ta tb : TE} {i j : Int} (ha : Ev ta σ H (.int i)) (hb : Ev tb σ H (.int j)) : Ev (tCB (fun xs H Q => ∃ i j, xs = [V.int i, .int j] ∧ Q (.int (if j < i then j else i)) H) (tCons ta (tCons tb tNil))) σ H (.int (if j < i then j else i)) := fun H1 e Q q =>
  ha H1 e _ fun H2 e2 => hb H2 (e.trans e2) _ fun H3 e3 => ⟨i, j, rfl, q H3 (e2.trans e3)⟩
section
variable {w : World} {K : PySem.W.Frag} {mg : Str → Option Value} {base : Heap}
theorem sc_bag : FnScope ["_law_script", "_law_at", "_law_cell", "_law_great", "_law_mix", "_law_k"] ["_law_script", "_law_at"] (defScope Kd.s__law_bag) := ⟨rfl, rfl, rfl, by decide +kernel, rfl, by decide +kernel, by decide +kernel⟩
theorem ok_bag (T : Tx w K mg) : Ok Pg w K mg base CX0 1 (He.ga K "_law_bag") ["_law_script", "_law_at"] (spBag K) := by
  refine ok_of T.f__law_bag sc_bag (fun vs H Q E h => by obtain ⟨_, _, _, rfl, _⟩ := h; rfl) (fun _ _ _ _ _ _ us hl => match us, hl with | [_, _], _ => rfl) fun cdv A outer s0 H vs Q E hr h => ?_
  obtain ⟨a, ns, j, rfl, hS, hn, hj, hj1, hk⟩ := h
  refine ⟨_, PSs.nox (pss_cons (ps_set (i := 2) sc_bag.nd rfl (Or.inl rfl) pe_int)
    (pss_cons (ps_if (pt_cmpR op_lt (pv 1) (pe_callB call_len_seq (by rfl) T.b_len PySem.boot_len (pa_cons (pv 0) pa_nil)) (nomark _)) (pss_one (ps_set (i := 2) sc_bag.nd rfl (Or.inl rfl) (pe_ix ix_list (pv 0) (pv 1) fun _ _ => rfl))) pss_nil)
    (pss_cons (ps_set (i := 3) sc_bag.nd rfl (Or.inl rfl) (pe_callB call_abs (by rfl) T.b_abs (by decide +kernel) (pa_cons (pv 2) pa_nil)))
    (pss_cons (ps_if (pt_cmpR op_lt (pv 3) (pe_op op_pow pe_int pe_int) (nomark _)) (pss_one (ps_set (i := 3) sc_bag.nd rfl (Or.inl rfl) pe_int)) pss_nil)
    (pss_cons (ps_set (i := 4) sc_bag.nd rfl (Or.inl rfl) (pe_op op_mod (pe_op op_pow (pe_op op_add (pe_op op_add (pe_op op_mod (pv 2) pe_int) (pe_op op_mul pe_int (pv 1))) pe_int) pe_int) pe_int))
    (pss_cons (ps_for PassesOwn.never rfl (pi_range1 rfl T.b_range (pa_cons (pe_callB (call_min2 rfl) (by rfl) T.b_min (by decide +kernel) (pa_cons (pe_callB call_len_seq (by rfl) T.b_len PySem.boot_len (pa_cons (pv 0) pa_nil)) (pa_cons pe_int pa_nil))) pa_nil)) (pg_name (i := 5) sc_bag.nd rfl (Or.inl rfl)) (pss_one (ps_set (i := 4) sc_bag.nd rfl (Or.inl rfl) (pe_op op_mod (pe_op op_add (pe_op op_add (pe_op op_mul (pv 4) pe_int) (pe_op op_mul (pe_op op_mod (pe_ix ix_list (pv 0) (pv 5) fun _ _ => rfl) pe_int) (pe_op op_add (pv 5) pe_int))) (pv 5)) pe_int))))
    (pss_one (ps_ret (pe_lst (pa_cons (pv 3) (pa_cons (pv 4) (pa_cons pe_int pa_nil)))))))))))), ?_⟩
  have len : ∀ {σ : L2.St} {H1 : Hp}, σ[0]? = some (some (.ref a)) → Ex H H1 → EvD K (tCB (rLenS K) (tCons (tVar 0) tNil)) σ H1 (.int (ns.length : Int)) := fun h e => EvD.is (d_of (ev_len (ev_var h) (ex_l e hS)) (.int _)) (by rw [List.length_map])
  have item : ∀ {σ : L2.St} {H1 : Hp} {te : TE} {i : Nat} {c : Int}, σ[0]? = some (some (.ref a)) → Ex H H1 → EvD K te σ H1 (.int (i : Nat)) → ns[i]? = some c → EvD K (tOp (rIxL K) (tVar 0) te) σ H1 (.int c) := fun h e ht hc => d_ixL (ev_var h) (ex_l e hS) ht (v := .int _) (atI_nat' (by rw [List.getElem?_map, hc]; rfl)) (.int _)
  -- the cell
  refine q_asg (v := .int 0) ev_c fun H1 e1 => ?_
  refine q_ifM (b := decide ((j : Int) < (ns.length : Int))) (M := fun σ' H' => ∃ c : Int, σ' = [some (.ref a), some (.int (j : Nat)), some (.int c), none, none, none] ∧ Ex H H' ∧ (j < ns.length ∨ c = 0)) (t_test (K := K) (d_ib (f := fun i j => decide (i < j)) (d_vint rfl) (len rfl e1))) ?_ (fun hb H2 e2 hm => ?_) fun hb H2 e2 => ⟨0, rfl, e1.trans e2, .inr rfl⟩
  rotate_left
  · have hlt : j < ns.length := by have := of_decide_eq_true hb; omega
    refine s_asgD (K := K) (d := .int ns[j]) (item rfl (e1.trans e2) (d_vint rfl) (List.getElem?_eq_getElem hlt)) fun v H3 e3 hv => ?_
    rw [hv.int_eq]
    exact hm _ _ ⟨ns[j], rfl, (e1.trans e2).trans e3, .inl hlt⟩
  rintro σ' H2 ⟨c, rfl, ex2, hc⟩
  -- what is great
  refine q_asgD (K := K) (d := .int (c.natAbs : Int)) (d_abs (d_vint rfl)) fun v H3 e3 hv => ?_
  rw [hv.int_eq]
  refine q_ifM (b := decide ((c.natAbs : Int) < (10 : Int) ^ (18 : Int).toNat)) (M := fun σ' H' => ∃ g : Int, σ' = [some (.ref a), some (.int (j : Nat)), some (.int c), some (.int g), none, none] ∧ Ex H H' ∧ 0 ≤ g) (t_test (K := K) (d_ib (f := fun i j => decide (i < j)) (d_vint rfl) (d_iC (f := fun i j => i ^ j.toNat) d_int d_int ⟨by decide, by decide, by decide⟩))) ?_ (fun hb H4 e4 hm => ?_) fun hb H4 e4 => ⟨c.natAbs, rfl, (ex2.trans e3).trans e4, by omega⟩
  rotate_left
  · exact s_asg (v := .int 0) ev_c fun H5 e5 => hm _ _ ⟨0, rfl, ((ex2.trans e3).trans e4).trans e5, Int.le_refl _⟩
  rintro σ' H4 ⟨g, rfl, ex4, hg⟩
  -- the mix
  have c1 := Int.emod_nonneg c (show (2147483629 : Int) ≠ 0 by decide)
  have c2 := Int.emod_lt_of_pos c (show (0 : Int) < 2147483629 by decide)
  refine q_asgD (K := K) (d := .int ((c % 2147483629 + 104729 * (j : Int) + 17) ^ (5 : Int).toNat % 2147483647)) (d_iC (f := fun i j => i % j) (d_iC (f := fun i j => i ^ j.toNat) (d_ii (f := fun i j => i + j) (d_ii (f := fun i j => i + j) (d_iC (f := fun i j => i % j) (d_vint rfl) d_int (by decide)) (d_iC (f := fun i j => i * j) d_int (d_vint rfl) (.inl ⟨by decide, by decide⟩))) d_int) d_int ⟨by decide, by decide, by omega⟩) d_int (by decide)) fun v H5 e5 hv => ?_
  rw [hv.int_eq]
  have m0 : ns = [] → (c % 2147483629 + 104729 * (j : Int) + 17) ^ (5 : Int).toNat % 2147483647 < 2147483629 := fun e => by
    have hc0 : c = 0 := by
      rcases hc with h | h
      · rw [e] at h; simp at h
      · exact h
    have : j = 0 ∨ j = 1 := by have := hj1 e; omega
    rw [hc0]
    rcases this with rfl | rfl <;> decide +kernel
  have m1 := Int.emod_nonneg ((c % 2147483629 + 104729 * (j : Int) + 17) ^ (5 : Int).toNat) (show (2147483647 : Int) ≠ 0 by decide)
  have m2 := Int.emod_lt_of_pos ((c % 2147483629 + 104729 * (j : Int) + 17) ^ (5 : Int).toNat) (show (0 : Int) < 2147483647 by decide)
  generalize (c % 2147483629 + 104729 * (j : Int) + 17) ^ (5 : Int).toNat % 2147483647 = mix at m0 m1 m2
  have ex5 := ex4.trans e5
  clear hv c1 c2 hc hj1
  -- all cells mixed in
  have hmin : EvA (tCons (tCB (fun xs H Q => ∃ i j, xs = [V.int i, .int j] ∧ Q (.int (if j < i then j else i)) H) (tCons (tCB (rLenS K) (tCons (tVar 0) tNil)) (tCons (tC (.int 60)) tNil))) tNil) [some (.ref a), some (.int (j : Nat)), some (.int c), some (.int g), some (.int mix), none] H5 [.int (if (60 : Int) < (ns.length : Int) then 60 else (ns.length : Int))] := ea_cons (ev_min2 (len rfl ex5).int ev_c) ea_nil
  refine Evl.q_forR1 hmin (by split <;> omega) (fun i σ' H' => ∃ m o, σ' = [some (.ref a), some (.int (j : Nat)), some (.int c), some (.int g), some (.int m), o] ∧ Ex H H' ∧ 0 ≤ m ∧ m < 2147483647 ∧ (i = 0 → m = mix) ∧ (0 < i → m < 2147483629)) (fun H6 e6 => ⟨mix, none, rfl, ex5.trans e6, m1, m2, fun _ => rfl, fun h => absurd h (by decide)⟩) ?_ ?_
  · rintro i σ' H6 hi ⟨m, o, rfl, ex6, q1, q2, q3, q4⟩
    have hil : i < ns.length ∧ i < 60 := by
      split at hi <;> omega
    have hi' : ns[i]? = some ns[i] := List.getElem?_eq_getElem hil.1
    generalize ns[i] = x at hi'
    have x1 := Int.emod_nonneg x (show (2147483587 : Int) ≠ 0 by decide)
    have x2 := Int.emod_lt_of_pos x (show (0 : Int) < 2147483587 by decide)
    refine s_asgD (K := K) (d := .int ((m * 48271 + x % 2147483587 * ((i : Int) + 3) + (i : Int)) % 2147483629)) (d_iC (f := fun i j => i % j) (d_ii (f := fun i j => i + j) (d_ii (f := fun i j => i + j) (d_iC (f := fun i j => i * j) (d_vint rfl) d_int (.inr ⟨by decide, by decide⟩)) (d_iC (f := fun i j => i * j) (d_iC (f := fun i j => i % j) (item rfl ex6 (d_vint rfl) hi') d_int (by decide)) (d_ii (f := fun i j => i + j) (d_vint rfl) d_int) (.inr ⟨by omega, by omega⟩))) (d_vint rfl)) d_int (by decide)) fun v H7 e7 hv => ?_
    rw [hv.int_eq]
    have z1 := Int.emod_nonneg (m * 48271 + x % 2147483587 * ((i : Int) + 3) + (i : Int)) (show (2147483629 : Int) ≠ 0 by decide)
    have z2 := Int.emod_lt_of_pos (m * 48271 + x % 2147483587 * ((i : Int) + 3) + (i : Int)) (show (0 : Int) < 2147483629 by decide)
    exact ⟨_, _, rfl, ex6.trans e7, z1, by omega, fun h => absurd h (by omega), fun _ => z2⟩
  · rintro σ' H6 ⟨m, o, rfl, ex6, q1, q2, q3, q4⟩
    have hm : m < 2147483629 := by
      by_cases h0 : 0 < (if (60 : Int) < (ns.length : Int) then 60 else (ns.length : Int)).toNat
      · exact q4 h0
      · have hl : ns.length = 0 := by
          split at h0 <;> omega
        rw [q3 (by omega)]
        exact m0 (List.length_eq_zero_iff.mp hl)
    refine s_retN (K := K) (n_lst (ds := [.int g, .int m, .int 0]) (ds_cons (d_vint rfl) (ds_cons (d_vint rfl) (ds_cons d_int ds_nil))) (by show 3 ≤ 100000; decide)) fun p xs H7 hp e7 hx hd => ?_
    obtain ⟨v0, v1, v2, rfl, y0, y1, y2⟩ := hd.three
    rw [y0.int_eq, y1.int_eq, y2.int_eq] at hx
    exact hk p H7 (fresh_back ex6 hp) (ex6.trans e7) ⟨g, m, 0, hx, hg, ⟨q1, hm⟩, Int.le_refl _, by omega⟩
end
end Kx

set_option Elab.async false
set_option linter.all false
set_option maxRecDepth 100000
set_option maxHeartbeats 4000000
namespace Kx
open PySem PySem.Spec PyProof.Rows L2 Evl HT TL
/-! ### rules for the caught error -/
/-- list.count, flat items -/
def rCntF (K : PySem.W.Frag) : V → List V → Hp → VK → Prop := fun x xs H Q => ∃ (p : Addr) (ys : List V) (y : V), x = .ref p ∧ xs = [y] ∧ SqL K H p ys ∧ flatV y = true ∧ ys.all flatV = true ∧ Q (.int (ys.countP (fun z => eqV z y) : Nat)) H
theorem count_eqU {x : V} : ∀ {xs : List V} {us : List Value}, Vals xs us → xs.all flatV = true → us.countP (eqU x) = xs.countP fun y => eqV y x
  | _, _, .nil, _ => rfl
  | y :: xs, u :: us, .cons r t, f => by
    rw [List.all_cons, Bool.and_eq_true] at f
    rw [List.countP_cons, List.countP_cons, eqU_of r f.1, count_eqU t f.2]
theorem mt_cntF {X : Cx} : MtR X "list.count" (rCntF X.K) := by
  intro pins s σ H x xs v us Q I rx rxs h
  obtain ⟨p, ys, y, rfl, rfl, hs, fy, fys, q⟩ := h
  cases rx
  cases rxs with
  | cons ry rt =>
    rename_i uy ut
    cases rt
    obtain ⟨its, rv, ⟨⟨cls, dd, data, sl⟩, n, ho, hc, hdn, hd⟩, hlen⟩ := I.list hs
    simp only at hc hd
    subst hc hd
    refine call_meets PySem.F.slot_list_count ⟨_, ho, rfl⟩ PySem.F.entry_list_count (PySem.F.args_list_count_2 _ _)
      (SeqAt.list_countAt p its.toArray n dd sl uy (eqU y)) ⟨ho, fun u' hu' => mem_eqAt ry fy rv fys u' (by simpa using hu'), ?_⟩
    refine ⟨.int (ys.countP (fun z => eqV z y) : Nat), H, I.tok _, ⟨s.toks, ?_⟩, q⟩
    show Value.int ((its.toArray.toList.countP (eqU y) : Nat) : Int) s.toks = _
    have ec : its.toArray.toList.countP (eqU y) = ys.countP fun z => eqV z y := count_eqU rv fys
    rw [ec]
/-- isinstance of the error that the suite holds, whatever its class -/
def rIsE (K : PySem.W.Frag) (a : Addr) (cls : Value) (d : Option Addr) : List V → Hp → VK → Prop := fun xs H Q => ∃ D dd, cls = .ref D ∧ d = some dd ∧ ExcC K D ∧ rIsD K D a dd xs H Q
theorem call_isEE {X : Cx} {a : Addr} {cls : Value} {d : Option Addr} {oe : Obj} {pn : List (Addr × Obj)} (hz : Zc cls d oe) (hf : ∃ vs, oe.data = .fields vs) : CallR (X.suite a ((a, oe) :: pn)) (.builtin "isinstance") (rIsE X.K a cls d) := by
  intro pins s σ H xs us Q I r h
  obtain ⟨D, dd, rfl, rfl, C, q⟩ := h
  exact call_isD C hz hf pins s σ H xs us Q I r q
/-- a field of the error -/
def tXfE (K : PySem.W.Frag) (a : Addr) (cls : Value) (d : Option Addr) (f : Str) (te : TE) : TE := fun σ H Q => te σ H fun x H1 => x = .ref a ∧ ∃ C, cls = .ref C ∧ XfC K C ∧ PySem.W.findIn K (.ref C) f = some none ∧ ∃ (dd : Addr) (fs : List (Str × V)) (v : V), d = some dd ∧ H1 dd = some (.xd fs) ∧ fs.lookup f = some v ∧ Q v H1
theorem pe_xfE {X : Cx} {a : Addr} {oe : Obj} {cls : Value} {d : Option Addr} {pn : List (Addr × Obj)} {e : Expr} {te : TE} {pos : Pos} {n : Str}
    (hz : Zc cls d oe) (hf : ∃ vs, oe.data = .fields vs) (he : PE (X.suite a ((a, oe) :: pn)) e te) (hb : attributeBase e n X.env (eval e X.env) = eval e X.env := by rfl) :
    PE (X.suite a ((a, oe) :: pn)) (.Attribute e n pos) (tXfE X.K a cls d n te) := by
  refine ⟨fun pins s σ H Q I h => ?_⟩
  refine attr_of hb (thn (he.run pins s σ H _ I h) fun u s1 hh => ?_)
  obtain ⟨x, H1, I1, rx, ex, C, ec, T, hno, dd, fs, v, ed, ea, l, q⟩ := hh
  subst ex
  obtain rfl : u = Value.ref a := rx
  subst ec
  subst ed
  obtain ⟨ha, _⟩ := I1.pin (a, oe) (List.mem_append_left _ List.mem_cons_self)
  obtain ⟨vs, hd⟩ := hf
  have hx : ObjOk X.prog X.w H1 s1.heap dd (.xd fs) := I1.hok dd _ ea
  obtain ⟨mA, hns, hr⟩ := hx
  obtain ⟨od, ho, hl⟩ := lookIn_ns hns
  obtain ⟨u, hu, ru⟩ := RelO.some_of (v := v) (o := mA n) (by rw [← l]; exact hr n)
  have J : PySem.W.InstAt s1.heap a oe C (some od) := ⟨ha, hz.1, by unfold PySem.W.notCls; rw [hd] <;> rfl, by rw [hz.2]; exact ho⟩
  exact HandSPX.exc_get I1.kIn J T.ga T.gg T.exC (PySem.W.findObj_own T.hdC hno rfl (by rw [hl, hu])) (handed_of ru) ⟨v, H1, I1.tok _, ru, q⟩
/-- what is told of the errors' classes -/
def clsL : List Str := ["Uneven", "NoFrame", "TooDeep", "TooMany"]
theorem Tx.isa {w : World} {K : PySem.W.Frag} {mg : Str → Option Value} (T : Tx w K mg) {x : Str} (hx : x ∈ clsL) : (∀ y ∈ clsL, PySem.W.kitOne K (.ref (He.ga K x)) (.ref (He.ga K y)) = some (decide (x = y))) ∧
    PySem.W.kitOne K (.ref (He.ga K x)) (.type "ValueError") = some true ∧ PySem.W.kitOne K (.ref (He.ga K x)) (.type "LookupError") = some false ∧ PySem.W.kitOne K (.ref (He.ga K x)) (.ref (He.ga K "NoText")) = some false ∧ PySem.W.kitOne K (.ref (He.ga K x)) (.ref (He.ga K "NoState")) = some false := by
  have z := T.more
  unfold Kd.ex at z
  simp only [Bool.and_eq_true] at z
  have q : Kd.isaAll K = true := by simp only [z]
  unfold Kd.isaAll at q
  rw [List.all_eq_true] at q
  have qx := q x hx
  simp only [Bool.and_eq_true] at qx
  obtain ⟨q1, q2, q3, q4, q5⟩ := qx
  rw [List.all_eq_true] at q1
  exact ⟨fun y hy => of_decide_eq_true (q1 y hy), of_decide_eq_true q2, of_decide_eq_true q3, of_decide_eq_true q4, of_decide_eq_true q5⟩
theorem Tx.xcs {w : World} {K : PySem.W.Frag} {mg : Str → Option Value} (T : Tx w K mg) (b : Bad) : clsB b ∈ clsL ∧ XC K (clsB b) (fldB b) ∧ PySem.W.exmOne K (.ref (He.ga K (clsB b))) (.ref (He.ga K "MillError")) = some true := by
  obtain ⟨x1, x2, x3, x4⟩ := T.exs
  cases b with
  | uneven k => exact ⟨by simp [clsB, clsL], x1, T.e_Uneven_MillError⟩
  | frame k => exact ⟨by simp [clsB, clsL], x2, T.e_NoFrame_MillError⟩
  | deep k => exact ⟨by simp [clsB, clsL], x3, T.e_TooDeep_MillError⟩
  | many k => exact ⟨by simp [clsB, clsL], x4, T.e_TooMany_MillError⟩
end Kx

set_option Elab.async false
set_option linter.all false
set_option maxRecDepth 100000
set_option maxHeartbeats 4000000
namespace Kx
open PySem PySem.Spec PyProof.Rows L2 Evl HT TL
/-! ### what a program is refused with -/
def refD : Except Bad (List PyData) → PyData
  | .ok _ => .tuple [.str "none", .int 0]
  | .error b => .tuple [.str (kindB b), .int (numB b)]
def spRef (K : PySem.W.Frag) : Sp := fun vs H Q _ => ∃ rs m o, vs = [.str (progT rs)] ∧ (∀ r ∈ rs, OkRow r) ∧ WfR rs ∧ rs.length ≤ 60 ∧ Pre rs m ms0 o ∧ ∀ v H', Ex H H' → Dt K H' v (refD o) → Q v H'
def idxB : Bad → Nat
  | .uneven _ => 0 | .frame _ => 1 | .deep _ => 2 | .many _ => 3
def bsI (i : Nat) : List Bool := [decide (i = 0), decide (i = 1), decide (i = 2), decide (i = 3)]
theorem idx_lt (b : Bad) : idxB b < 4 := by cases b <;> simp [idxB]
theorem cls_idx (b : Bad) : decide (clsB b = "Uneven") = decide (idxB b = 0) ∧ decide (clsB b = "NoFrame") = decide (idxB b = 1) ∧ decide (clsB b = "TooDeep") = decide (idxB b = 2) ∧ decide (clsB b = "TooMany") = decide (idxB b = 3) := by
  have key : ∀ x ∈ clsL, ∀ y ∈ clsL, decide (x = y) = decide (x = y) := fun _ _ _ _ => rfl
  cases b <;> exact ⟨rfl, rfl, rfl, rfl⟩
theorem bs_count {i : Nat} (h : i < 4) : ((bsI i).map V.bl).countP (fun z => eqV z (.bl true)) = 1 := by
  have key : ∀ i : Fin 4, ((bsI i.val).map V.bl).countP (fun z => eqV z (.bl true)) = 1 := by decide +kernel
  exact key ⟨i, h⟩
theorem bs_at {i : Nat} (h : i < 4) : ((bsI i).map V.bl)[i]? = some (.bl true) ∧ ∀ m, m < i → ∀ z, ((bsI i).map V.bl)[m]? = some z → eqV z (.bl true) = false := by
  have key : ∀ i : Fin 4, (bsI i.val)[i.val]? = some true ∧ ∀ m : Fin 4, m.val < i.val → (bsI i.val)[m.val]? = some false := by decide +kernel
  obtain ⟨k1, k2⟩ := key ⟨i, h⟩
  refine ⟨by rw [List.getElem?_map, k1]; rfl, fun m hm z hz => ?_⟩
  rw [List.getElem?_map, k2 ⟨m, by omega⟩ hm] at hz
  cases hz
  rfl
theorem fld_idx (b : Bad) : (idxB b = 3 → fldB b = "most") ∧ (idxB b ≠ 3 → fldB b = "row") := by
  cases b with
  | many k => exact ⟨fun _ => rfl, fun h => absurd rfl h⟩
  | _ => exact ⟨fun h => absurd h (by simp [idxB]), fun _ => rfl⟩
theorem kind_idx (b : Bad) : atI [PyData.str "uneven", .str "frame", .str "deep", .str "many"] (idxB b : Int) = some (.str (kindB b)) := by cases b <;> rfl
abbrev tIsa (K : PySem.W.Frag) (a : Addr) (cls : Value) (d : Option Addr) (c : TE) : TE := tCB (rIsE K a cls d) (tCons (tVar 1) (tCons c tNil))
abbrev tCls (K : PySem.W.Frag) (x : Str) : TE := tC (.ref (He.ga K x))
def tSuite (K : PySem.W.Frag) (a : Addr) (cls : Value) (d : Option Addr) : TS :=
  tSeq (tAsg (tLst (tCons (tIsa K a cls d (tCls K "Uneven")) (tCons (tIsa K a cls d (tCls K "NoFrame")) (tCons (tIsa K a cls d (tCls K "TooDeep")) (tCons (tIsa K a cls d (tCls K "TooMany")) tNil))))) (gName 2))
  (tSeq (tIfS (tOr (tTest (tOp rNe (tBM K "list" (rCntF K) (tVar 2) (tCons (tC (.bl true)) tNil)) (tC (.int 1)))) (tOr (tNot (tB (tIsa K a cls d (tC (.ty "ValueError"))))) (tB (tIsa K a cls d (tTup (tCons (tC (.ty "LookupError")) (tCons (tCls K "NoText") (tCons (tCls K "NoState") tNil)))))))) (tRet (tTup (tCons (tC (.str "another")) (tCons (tC (.int 0)) tNil)))) tNext)
  (tSeq (tAsg (tBM K "list" (rIndex K) (tVar 2) (tCons (tC (.bl true)) tNil)) (gName 3))
  (tRet (tTup (tCons (tOp (rIxL K) (tLst (tCons (tC (.str "uneven")) (tCons (tC (.str "frame")) (tCons (tC (.str "deep")) (tCons (tC (.str "many")) tNil))))) (tVar 3)) (tCons (tIf (tTest (tOp rEq (tVar 3) (tC (.int 3)))) (tXfE K a cls d "most" (tVar 1)) (tXfE K a cls d "row" (tVar 1))) tNil))))))
section
variable {w : World} {K : PySem.W.Frag} {mg : Str → Option Value} {base : Heap}
theorem sc_ref : FnScope ["_law_text_here", "e", "_law_kinds", "_law_which"] ["_law_text_here"] (defScope Kd.s__law_refused) := ⟨rfl, rfl, rfl, by decide +kernel, rfl, by decide +kernel, by decide +kernel⟩
theorem ok_ref (T : Tx w K mg) : Ok Pg w K mg base CX0 48 (He.ga K "_law_refused") ["_law_text_here"] (spRef K) := by
  refine ok_of T.f__law_refused sc_ref (fun vs H Q E h => by obtain ⟨_, _, _, rfl, _⟩ := h; rfl) (fun _ _ _ _ _ _ us hl => match us, hl with | [_], _ => rfl) fun cdv A outer s0 H vs Q E hr h => ?_
  obtain ⟨rs, m, o, rfl, hok, W, hz, hP, hk⟩ := h
  obtain ⟨⟨fdR, FR, bR⟩, kR⟩ := ok_road_of (base := base) T
  refine ⟨_, PSs.nox (pss_cons (ps_try_as (ts := fun a cls d => tSuite K a cls d) (i := 1) rfl rfl sc_ref.nd rfl rfl ⟨rfl, by decide, .inl T.g_MillError⟩ takes0 (fun W pn xe tk _ => pss_one (ps_expr (pe_callS FR (hr.mono (by decide)) rfl T.g_road_of kR bR (fun σ => passAt tk σ) (pa_cons (pv 0) pa_nil)))) (fun a oe cls d pn hz hf => (pss_cons (ps_set (i := 2) sc_ref.nd rfl (Or.inl rfl) (pe_lst (pa_cons (pe_callB (call_isEE hz hf) (by rfl) T.b_isinstance PyProof.Rows.boot_isinstance (pa_cons (pv 1) (pa_cons (pgl T.g_Uneven) pa_nil))) (pa_cons (pe_callB (call_isEE hz hf) (by rfl) T.b_isinstance PyProof.Rows.boot_isinstance (pa_cons (pv 1) (pa_cons (pgl T.g_NoFrame) pa_nil))) (pa_cons (pe_callB (call_isEE hz hf) (by rfl) T.b_isinstance PyProof.Rows.boot_isinstance (pa_cons (pv 1) (pa_cons (pgl T.g_TooDeep) pa_nil))) (pa_cons (pe_callB (call_isEE hz hf) (by rfl) T.b_isinstance PyProof.Rows.boot_isinstance (pa_cons (pv 1) (pa_cons (pgl T.g_TooMany) pa_nil))) pa_nil))))))
    (pss_cons (ps_if (PW.pt (pw_or (pt_cmpR op_ne (pe_bm PySem.F.plainAttrs_list PySem.F.slot_list_count PySem.F.type_list_count mt_cntF (pv 2) (pa_cons pe_bl pa_nil)) pe_int (nomark _)) (pw_or (pt_not (pt_val (pe_callB (call_isEE hz hf) (by rfl) T.b_isinstance PyProof.Rows.boot_isinstance (pa_cons (pv 1) (pa_cons (pe_bltn (v := .ty "ValueError") (by rfl) T.b_ValueError (by decide +kernel) rfl) pa_nil))))) (pw_or1 (pt_val (pe_callB (call_isEE hz hf) (by rfl) T.b_isinstance PyProof.Rows.boot_isinstance (pa_cons (pv 1) (pa_cons (pe_tup (pa_cons (pe_bltn (v := .ty "LookupError") (by rfl) T.b_LookupError (by decide +kernel) rfl) (pa_cons (pgl T.g_NoText) (pa_cons (pgl T.g_NoState) pa_nil)))) pa_nil)))))))) (pss_one (ps_ret (pe_tup (pa_cons pe_str (pa_cons pe_int pa_nil))))) pss_nil)
    (pss_cons (ps_set (i := 3) sc_ref.nd rfl (Or.inl rfl) (pe_bm PySem.F.plainAttrs_list PySem.F.slot_list_index PySem.F.type_list_index mt_index (pv 2) (pa_cons pe_bl pa_nil)))
    (pss_one (ps_ret (pe_tup (pa_cons (pe_ix ix_list (pe_lst (pa_cons pe_str (pa_cons pe_str (pa_cons pe_str (pa_cons pe_str pa_nil))))) (pv 3) fun _ _ => rfl) (pa_cons (pe_ifExp (pt_cmpR op_eq (pv 3) pe_int (nomark _)) (pe_xfE hz hf (pv 1)) (pe_xfE hz hf (pv 1))) pa_nil))))))))))
    (pss_one (ps_ret (pe_tup (pa_cons pe_str (pa_cons pe_int pa_nil)))))), ?_⟩
  refine ⟨_, rfl, rs, m, o, rfl, hok, W, hz, hP, fun ds x H' ho hR ex => ?_, fun b ho dd H' g1 g2 g3 => ?_⟩
  · subst ho
    exact s_retD (K := K) (σ := [some (.str (progT rs)), none, none, none]) (d := .tuple [.str "none", .int 0]) (d_tup2 (ds_cons d_str (ds_cons d_int ds_nil))) fun v H2 e2 hv => hk v H2 (ex.trans e2) hv
  · subst ho
    obtain ⟨hmem, hxc, hexm⟩ := T.xcs b
    obtain ⟨isa1, isaV, isaL, isaT, isaS⟩ := T.isa hmem
    refine ⟨true, hexm, fun _ a ha => ?_, fun hb => Bool.noConfusion hb⟩
    have cls1 : ∀ {σ : L2.St} {H1 : Hp} {y : Str}, σ[1]? = some (some (.ref a)) → Ex H' H1 → y ∈ clsL → EvD K (tIsa K a (.ref (He.ga K (clsB b))) (some dd) (tCls K y)) σ H1 (.bool (decide (clsB b = y))) := fun {σ H1 y} h1 e1 hy H2 e2 Q' q' =>
      ⟨_, h1, ⟨_, dd, rfl, rfl, hxc.exc, ⟨_, (e1.trans e2) _ _ g3⟩, .ref (He.ga K y), _, rfl, .inl ⟨.ref (He.ga K y), fun u r => by cases r; rfl, isa1 y hy⟩, q' _ H2 (Ex.refl _) (.bl _)⟩⟩
    have fld : ∀ {σ : L2.St} {H1 : Hp} {f : Str}, σ[1]? = some (some (.ref a)) → Ex H' H1 → fldB b = f → EvD K (tXfE K a (.ref (He.ga K (clsB b))) (some dd) f (tVar 1)) σ H1 (.int (numB b)) := fun {σ H1 f} h1 e1 hf H2 e2 Q' q' => by
      subst hf
      exact ⟨_, h1, rfl, _, rfl, hxc.xf, hxc.no, dd, _, .int (numB b), rfl, (e1.trans e2) _ _ g3, by simp, q' _ H2 (Ex.refl _) (.int _)⟩
    unfold tSuite
    obtain ⟨c0, c1, c2, c3⟩ := cls_idx b
    -- the kinds
    refine q_asgN (K := K) (ds := (bsI (idxB b)).map .bool) (EvN.is (n_lst (ds_cons (cls1 (y := "Uneven") rfl (Ex.refl H') (by simp [clsL])) (ds_cons (cls1 (y := "NoFrame") rfl (Ex.refl H') (by simp [clsL])) (ds_cons (cls1 (y := "TooDeep") rfl (Ex.refl H') (by simp [clsL])) (ds_cons (cls1 (y := "TooMany") rfl (Ex.refl H') (by simp [clsL])) ds_nil)))) (by show 4 ≤ 100000; decide)) (by rw [c0, c1, c2, c3]; rfl)) fun p xs H2 hp e2 hx hd => ?_
    rw [dtl_bools hd] at hx
    have li := idx_lt b
    have flat : ((bsI (idxB b)).map V.bl).all flatV = true := by
      rw [List.all_eq_true]
      intro v hv
      obtain ⟨x, _, rfl⟩ := List.mem_map.mp hv
      rfl
    have cnt : EvD K (tBM K "list" (rCntF K) (tVar 2) (tCons (tC (.bl true)) tNil)) [some (.str (progT rs)), some (.ref a), some (.ref p), none] H2 (.int 1) := fun H3 e3 Q' q' =>
      ⟨_, rfl, .inl ⟨rfl, _, sq_of (e3 _ _ hx)⟩, p, _, .bl true, rfl, rfl, sq_of (e3 _ _ hx), rfl, flat, by rw [bs_count li]; exact q' _ H3 (Ex.refl _) (.int 1)⟩
    have isVal : EvD K (tIsa K a (.ref (He.ga K (clsB b))) (some dd) (tC (.ty "ValueError"))) [some (.str (progT rs)), some (.ref a), some (.ref p), none] H2 (.bool true) := fun H3 e3 Q' q' =>
      ⟨_, rfl, ⟨_, dd, rfl, rfl, hxc.exc, ⟨_, (e2.trans e3) _ _ g3⟩, .ty "ValueError", true, rfl, .inl ⟨.type "ValueError", fun u r => r, isaV⟩, q' _ H3 (Ex.refl _) (.bl _)⟩⟩
    have isTup : EvD K (tIsa K a (.ref (He.ga K (clsB b))) (some dd) (tTup (tCons (tC (.ty "LookupError")) (tCons (tCls K "NoText") (tCons (tCls K "NoState") tNil))))) [some (.str (progT rs)), some (.ref a), some (.ref p), none] H2 (.bool false) := fun H3 e3 Q' q' =>
      ⟨_, rfl, ⟨by show 3 ≤ sizeLine; decide, fun t ht => ⟨_, dd, rfl, rfl, hxc.exc, ⟨_, (Ex.new ht) _ _ ((e2.trans e3) _ _ g3)⟩, .ref t, false, rfl, .inr ⟨t, _, [.type "LookupError", .ref (He.ga K "NoText"), .ref (He.ga K "NoState")], rfl, SqT.of upd_same, fun us r => by
        cases r with
        | cons r1 r =>
          cases r with
          | cons r2 r =>
            cases r with
            | cons r3 r =>
              cases r
              cases r2
              cases r3
              cases r1
              rfl, kitAny_cons isaL (fun _ => kitAny_cons isaT (fun _ => kitAny_cons isaS (fun _ => kitAny_nil) (fun h => Bool.noConfusion h)) (fun h => Bool.noConfusion h)) (fun h => Bool.noConfusion h)⟩, q' _ _ (Ex.new ht) (.bl _)⟩⟩⟩
    refine q_when (b := false) (et_is (et_or (t_test (K := K) (d_neI cnt d_int)) fun _ => et_or (et_not (t_B isVal)) fun _ => t_B isTup) (by decide +kernel)) (fun hb => absurd hb (by decide)) fun _ H3 e3 => ?_
    have e23 := e2.trans e3
    have hx3 := e3 _ _ hx
    -- which
    obtain ⟨at1, at2⟩ := bs_at li
    have idx : EvD K (tBM K "list" (rIndex K) (tVar 2) (tCons (tC (.bl true)) tNil)) [some (.str (progT rs)), some (.ref a), some (.ref p), none] H3 (.int (idxB b : Nat)) := fun H4 e4 Q' q' =>
      ⟨_, rfl, .inl ⟨rfl, _, sq_of (e4 _ _ hx3)⟩, p, _, .bl true, idxB b, .bl true, rfl, rfl, sq_of (e4 _ _ hx3), rfl, flat, at1, rfl, fun m z hm hz => at2 m hm z hz, q' _ H4 (Ex.refl _) (.int _)⟩
    refine q_asgD (K := K) (d := .int (idxB b : Nat)) idx fun v H4 e4 hv => ?_
    rw [hv.int_eq]
    have e24 := e23.trans e4
    refine s_retD (K := K) (d := refD (.error b)) (d_tup2 (ds_cons (d_ixN (ds := [.str "uneven", .str "frame", .str "deep", .str "many"]) (n_lst (ds_cons d_str (ds_cons d_str (ds_cons d_str (ds_cons d_str ds_nil)))) (by show 4 ≤ 100000; decide)) (d_vint rfl) (kind_idx b)) (ds_cons (d_if (b := decide ((idxB b : Int) = 3)) (t_test (K := K) (d_eqI (d_vint rfl) d_int)) (fun hb => fld rfl e24 ((fld_idx b).1 ?_)) fun hb => fld rfl e24 ((fld_idx b).2 ?_)) ds_nil))) fun v H5 e5 hv => hk v H5 ((g2.trans e24).trans e5) hv
    · have := of_decide_eq_true hb
      omega
    · have := of_decide_eq_false hb
      omega
end
end Kx

set_option Elab.async false
set_option linter.all false
set_option maxRecDepth 100000
set_option maxHeartbeats 4000000
namespace Kx
open PySem PySem.Spec PyProof.Rows L2
/-- the law's promise: called with a list of at most 63 ints it hands back True -/
def spLaw (K : PySem.W.Frag) : Sp := fun vs H Q _ => ∃ (a : Addr) (ns : List Int), vs = [.ref a] ∧ SqL K H a (ns.map V.int) ∧ ns.length ≤ 63 ∧ ∀ H', Q (.bl true) H'
abbrev lawRow : PySem.W.OpenLaw := PySem.Challenge.rw_toolroad_k29_whole_roads_by_their_rows
/-- what is to be shown of the law's def -/
def LawKept (k : Nat) : Prop := ∀ (w : World) (K : PySem.W.Frag) (mg : Str → Option Value), Tx w K mg → ∃ fd : FuncData, (∀ (s : Shared) (u : Value), BindsTo s fd ⟨[u], []⟩ [("_law_script", u)]) ∧
  ∀ base : Heap, FnOk lawRow.prog w K mg base CX0 k (He.ga K "law") fd ["_law_script"] (spLaw K)
end Kx

set_option Elab.async false
set_option linter.all false
set_option maxRecDepth 100000
set_option maxHeartbeats 4000000
namespace Kx
open PySem PySem.Spec PyProof.Rows L2 Evl HT TL
/-! ### the entries may be compared -/
theorem step_shp {s : Ms} {fs : List Fr} {r : Row} {d : PyData} {t : Pl} (h : stepOf s fs r = some (d, t)) : Shp 3 d := by
  have sw : ∀ x ∈ (["hop", "line", "arc"] : List Str), Shp 2 (.str x) := fun x hx => by
    have all : ∀ x ∈ (["hop", "line", "arc"] : List Str), PyData.strOk x = true := by decide +kernel
    exact (shp_str (all x hx)).mono (by decide)
  have three : ∀ {x : Str} {p q : Pl}, x ∈ (["hop", "line", "arc"] : List Str) → Shp 3 (.tuple [.str x, pD p, pD q]) := fun hx => shp_tup (n := 2) fun d hd => by
    simp only [List.mem_cons, List.not_mem_nil, or_false] at hd
    rcases hd with rfl | rfl | rfl
    · exact sw _ hx
    · exact shp_pD _
    · exact shp_pD _
  cases r with
  | hop x y => cases h; exact three (by simp)
  | cut x y =>
    simp only [stepOf] at h
    split at h
    · cases h; exact three (by simp)
    · cases h
  | run p q l => cases h; exact three (by simp)
  | arc lf x y p q =>
    simp only [stepOf] at h
    split at h
    · cases h
      refine shp_tup (n := 2) fun d hd => ?_
      simp only [List.mem_cons, List.not_mem_nil, or_false] at hd
      rcases hd with rfl | rfl | rfl | rfl | rfl
      · exact sw _ (by simp)
      · exact shp_pD _
      · exact shp_pD _
      · exact shp_pD _
      · exact (shp_int _).mono (by decide)
    · cases h
  | _ => cases h
theorem ent_shp {s : Ms} {d : PyData} (h : Shp 3 d) : Shp 4 (entD s d) := shp_tup (n := 3) fun x hx => by
  simp only [List.mem_cons, List.not_mem_nil, or_false] at hx
  rcases hx with rfl | rfl | rfl | rfl
  · exact h
  · exact (shp_int _).mono (by decide)
  · exact (shp_nD _).mono (by decide)
  · refine (shp_tup (n := 1) fun y hy => ?_).mono (by decide)
    obtain ⟨l, _, rfl⟩ := List.mem_map.mp hy
    refine shp_tup (n := 0) fun z hz => ?_
    simp only [List.mem_cons, List.not_mem_nil, or_false] at hz
    rcases hz with rfl | rfl <;> exact shp_int _
theorem deed_made {rs : List Row} {s s2 : Ms} {l : Lv} {rest : List Lv} {r : Row} (h : deedM rs s l rest r = .ok s2) : s2.made = s.made ∨ ∃ d t, stepOf s (allF s.stk) r = some (d, t) ∧ s2.made = s.made ++ [entD s d] := by
  cases r with
  | mode b => cases h; exact .inl rfl
  | pace b => cases h; exact .inl rfl
  | side b => cases h; exact .inl rfl
  | frame f =>
    simp only [deedM] at h
    split at h
    · cases h
    · cases h; exact .inl rfl
  | back =>
    simp only [deedM] at h
    split at h
    · cases h
    · cases h; exact .inl rfl
  | call x y =>
    simp only [deedM] at h
    split at h
    · cases h
    · cases h; exact .inl rfl
  | _ =>
    simp only [deedM] at h
    split at h
    · rename_i d t hs
      cases h
      exact .inr ⟨d, t, hs, rfl⟩
    · cases h
theorem on_made (r : Row) (s : Ms) : (onM r s).made = s.made := by
  unfold onM
  split
  · rfl
  · split <;> rfl
theorem made_shp {rs : List Row} {m : Nat} {s : Ms} {o : Except Bad (List PyData)} (R : RunF rs m s o) : (∀ d ∈ s.made, Shp 4 d) → ∀ ds, o = .ok ds → ∀ d ∈ ds, Shp 4 d := by
  induction R with
  | fin h e hm ch ht => intro h0 ds hd; cases hd; exact h0
  | bad S hd => intro h0 ds h; cases h
  | go S hd ht hp t ih =>
    intro h0
    refine ih fun d hm => ?_
    unfold doRow at hd
    split at hd
    · cases hd
    · split at hd
      · cases hd
      · split at hd
        · cases hd
        · rename_i s2 hdd
          cases hd
          have hm' : d ∈ s2.made := by rw [← on_made]; exact hm
          rcases deed_made hdd with e | ⟨d', t', hs, e⟩
          · rw [e] at hm'; exact h0 d hm'
          · rw [e] at hm'
            rcases List.mem_append.mp hm' with hm' | hm'
            · exact h0 d hm'
            · rw [List.mem_singleton] at hm'
              subst hm'
              exact ent_shp (step_shp hs)
theorem pre_shp {rs : List Row} {m : Nat} {ds : List PyData} (h : Pre rs m ms0 (.ok ds)) : Shp 5 (.list ds) := by
  obtain ⟨_, _, _, st, _, _, _, _, _, R, _⟩ := h
  exact shp_lst (n := 4) (made_shp R (fun d hd => by cases hd) ds rfl)
section
variable {K : PySem.W.Frag} {σ : L2.St} {H : Hp} {ta tb te : TE} {D : Ends} {tz : TS} {E : XK}
theorem ev_max2' {i j : Int} (ha : Ev ta σ H (.int i)) (hb : Ev tb σ H (.int j)) : Ev (tCB (fun xs H Q => ∃ i j, xs = [V.int i, .int j] ∧ Q (.int (if j > i then j else i)) H) (tCons ta (tCons tb tNil))) σ H (.int (if j > i then j else i)) := fun H1 e Q q =>
  ha H1 e _ fun H2 e2 => hb H2 (e.trans e2) _ fun H3 e3 => ⟨i, j, rfl, q H3 (e2.trans e3)⟩
/-- x = f(a), x = f(a, b) -/
theorem q_call1 {sp : Sp} {i : Nat} {v : V} (ha : Ev ta σ H v) (h : ∀ H1, Ex H H1 → sp [v] H1 (fun x H2 => tz D (σ.set i (some x)) H2) E) : tSeq (tAsg (tCall sp [] E (tCons ta tNil)) (gName i)) tz D σ H := ha H (Ex.refl H) (fun x H1 => sp [x] H1 (fun y H2 => tz D (σ.set i (some y)) H2) E) h
theorem q_call2 {sp : Sp} {i : Nat} {v u : V} (ha : Ev ta σ H v) (hb : Ev tb σ H u) (h : ∀ H1, Ex H H1 → sp [v, u] H1 (fun x H2 => tz D (σ.set i (some x)) H2) E) : tSeq (tAsg (tCall sp [] E (tCons ta (tCons tb tNil))) (gName i)) tz D σ H :=
  (ea_cons ha (ea_cons hb ea_nil)) H (Ex.refl H) (fun vs H1 => sp (vs ++ []) H1 (fun y H2 => tz D (σ.set i (some y)) H2) E) h
end
/-- what the law's own going through the rows told -/
def DueAt (K : PySem.W.Frag) (H : Hp) (v : V) : Except Bad (List PyData) → Prop
  | .ok ds => ∃ p en evs, v = .ref p ∧ H p = some (.tup [.str "told", .ref en]) ∧ H en = some (.lst evs) ∧ DtL K H evs ds
  | .error b => Dt K H v (.tuple [.str (kindB b), .int (numB b)])
section
variable {K : PySem.W.Frag} {σ : L2.St} {H : Hp} {ta tb te : TE} {D : Ends} {tz : TS} {E : XK}
theorem q_gone {rw : Addr} {rvs : List V} {rs : List Row} {m : Nat} {o : Except Bad (List PyData)} (ha : Ev ta σ H (.ref rw)) (hW : H rw = some (.lst rvs)) (hd : DtL K H rvs (rs.map rowD)) (W : WfR rs) (hok : ∀ r ∈ rs, OkRow r) (hz : rs.length ≤ 60) (hP : Pre rs m ms0 o)
    (k : ∀ v H', Ex H H' → DueAt K H' v o → tz D (σ.set 4 (some v)) H') : tSeq (tAsg (tCall (spGone K) [] E (tCons ta tNil)) (gName 4)) tz D σ H :=
  q_call1 ha fun H1 e1 => ⟨rw, rvs, rs, m, o, rfl, e1 _ _ hW, hd.ex e1, W, hok, hz, hP, fun ds ho p en evs H' ex hp hen hev => k _ H' (e1.trans ex) (by subst ho; exact ⟨p, en, evs, rfl, hp, hen, hev⟩), fun b ho v H' ex hv => k v H' (e1.trans ex) (by subst ho; exact hv)⟩
theorem d_ref {rs : List Row} {m : Nat} {o : Except Bad (List PyData)} (ha : EvD K ta σ H (.str (progT rs))) (hok : ∀ r ∈ rs, OkRow r) (W : WfR rs) (hz : rs.length ≤ 60) (hP : Pre rs m ms0 o) : EvD K (tCall (spRef K) [] E (tCons ta tNil)) σ H (refD o) := fun H1 e1 Q q =>
  (ea_cons ha.str ea_nil) H1 e1 (fun vs H2 => spRef K (vs ++ []) H2 Q E) fun H2 e2 => ⟨rs, m, o, rfl, hok, W, hz, hP, fun v H3 e3 hv => q v H3 (e2.trans e3) hv⟩
theorem n_road {rs : List Row} {m : Nat} {ds : List PyData} {E' : XK} (ha : EvD K ta σ H (.str (progT rs))) (hok : ∀ r ∈ rs, OkRow r) (W : WfR rs) (hz : rs.length ≤ 60) (hP : Pre rs m ms0 (.ok ds)) : EvN K (tMeth (He.ga K "Road") "entries" (spEnt K) [] E (tCall (spRoad K) [] E' (tCons ta tNil)) tNil) σ H ds := fun H1 e1 Q q =>
  (ea_cons ha.str ea_nil) H1 e1 (fun vs H2 => spRoad K (vs ++ []) H2 (fun x H3 => ∃ a dx fs, x = .ref a ∧ H3 a = some (.ins (He.ga K "Road") dx fs) ∧ fs.lookup ("entries" : Str) = none ∧ spEnt K (x :: ([] ++ [])) H3 Q E) E') fun H2 e2 =>
    ⟨rs, m, .ok ds, rfl, hok, W, hz, hP, fun ds' x H3 ho hR e3 => by
      cases ho
      obtain ⟨dx, p, xs, h1, h2, h3⟩ := id hR
      exact ⟨x, dx, _, rfl, h1, by rw [List.lookup_cons, show (("entries" : Str) == "held") = false by decide +kernel]; rfl, x, ds, rfl, hR, fun p' xs' H4 hp' e4 h4 d4 => q p' xs' H4 (fresh_back (e2.trans e3) hp') ((e2.trans e3).trans e4) h4 d4⟩, fun b ho => by cases ho⟩
theorem d_neL {en : Addr} {evs : List V} {ds : List PyData} (ha : EvN K ta σ H ds) (hb : ∀ H1, Ex H H1 → Ev tb σ H1 (.ref en)) (hen : H en = some (.lst evs)) (hd : DtL K H evs ds) (hs : Shp 5 (.list ds)) : EvD K (tOp (rNeD K) ta tb) σ H (.bool false) := fun H1 e1 Q q =>
  ha H1 e1 _ fun p xs H2 _ e2 h2 d2 => hb H2 (e1.trans e2) H2 (Ex.refl _) _ fun H3 e3 => by
    have e13 := (e1.trans e2).trans e3
    refine ⟨.list ds, .list ds, .lst (sq_of (e3 _ _ h2)) (d2.ex e3).dp, .lst (sq_of (e13 _ _ hen)) (hd.ex e13).dp, hs.shaped (by decide), hs.shaped (by decide), ?_⟩
    rw [SeqAt.eqv_refl _ hs.1]
    exact q _ H3 (e2.trans e3) (.bl false)
end
section
variable {w : World} {K : PySem.W.Frag} {mg : Str → Option Value}
theorem sc_law : FnScope ["_law_script", "_law_at", "_law_bag_here", "_law_rows", "_law_due", "_law_text_here", "_law_turn", "_law_found"] ["_law_script"] (defScope Kd.s_law) := ⟨rfl, rfl, rfl, by decide +kernel, rfl, by decide +kernel, by decide +kernel⟩
theorem law_kept : LawKept 49 := fun w K mg T => by
  obtain ⟨fd, F⟩ := T.f_law
  refine ⟨fd, fun s u => F.bindsA (ps := ["_law_script"]) (fun _ _ _ _ _ _ us hl => match us, hl with | [_], _ => rfl) s [u] rfl, fun base => F.ok sc_law (fun vs H Q E h => by obtain ⟨_, _, rfl, _⟩ := h; rfl) fun cdv A outer s0 H vs Q E hr h => ?_⟩
  obtain ⟨a, ns, rfl, hS, hn, hk⟩ := h
  refine ⟨_, PSs.nox (pss_cons (ps_for PassesOwn.never rfl (pi_range1 rfl T.b_range (pa_cons (pe_callB (call_max2 rfl) (by rfl) T.b_max (by decide +kernel) (pa_cons pe_int (pa_cons (pe_callB (call_min2 rfl) (by rfl) T.b_min (by decide +kernel) (pa_cons (pe_callB call_len_seq (by rfl) T.b_len PySem.boot_len (pa_cons (pv 0) pa_nil)) (pa_cons pe_int pa_nil))) pa_nil))) pa_nil)) (pg_name (i := 1) sc_law.nd rfl (Or.inl rfl)) (pss_cons (ps_set (i := 2) sc_law.nd rfl (Or.inl rfl) (pe_fn (E := E) (ok_bag T) (hr.mono (by decide)) T.g__law_bag pass0 (pa_cons (pv 0) (pa_cons (pv 1) pa_nil))))
    (pss_cons (ps_set (i := 3) sc_law.nd rfl (Or.inl rfl) (pe_fn (E := E) (ok_prog T) (hr.mono (by decide)) T.g__law_program pass0 (pa_cons (pv 2) pa_nil)))
    (pss_cons (ps_set (i := 4) sc_law.nd rfl (Or.inl rfl) (pe_fn (E := E) (ok_gone T) (hr.mono (by decide)) T.g__law_gone pass0 (pa_cons (pv 3) pa_nil)))
    (pss_cons (ps_set (i := 5) sc_law.nd rfl (Or.inl rfl) (pe_fn (E := E) (ok_text T) (hr.mono (by decide)) T.g__law_text pass0 (pa_cons (pv 3) pa_nil)))
    (pss_one (ps_for PassesOwn.never rfl (pi_range1 rfl T.b_range (pa_cons pe_int pa_nil)) (pg_name (i := 6) sc_law.nd rfl (Or.inl rfl)) (pss_cons (ps_set (i := 7) sc_law.nd rfl (Or.inl rfl) (pe_fn (E := E) (ok_ref T) (hr.mono (by decide)) T.g__law_refused pass0 (pa_cons (pv 5) pa_nil)))
    (pss_cons (ps_if (PW.pt (pw_or (PW.pt (pw_and (pt_cmpR op_ne (px (pv 4)) pe_str (nomark _)) (pw_and1 (pt_cmpR (op_neD hr.units) (pv 7) (pv 4) (nomark _))))) (pw_or1 (PW.pt (pw_and (pt_cmpR op_eq (px (pv 4)) pe_str (nomark _)) (pw_and1 (pt_cmpR (op_neD hr.units) (pv 7) (pe_tup (pa_cons pe_str (pa_cons pe_int pa_nil))) (nomark _)))))))) (pss_one (ps_ret pe_bl)) pss_nil)
    (pss_one (ps_if (PW.pt (pw_and (pt_cmpR op_eq (px (pv 4)) pe_str (nomark _)) (pw_and1 (pt_cmpR (op_neD hr.units) (pe_m0 (E := fun _ _ _ => False) (ok_entries T) (hr.mono (by decide)) T.c_Road T.m_Road_entries pass0 (pe_fn (E := fun _ _ _ => False) (ok_road_of T) (hr.mono (by decide)) T.g_road_of (passes_call takes0 fun _ _ _ _ h => h) (pa_cons (pv 5) pa_nil))) (px (pv 4)) (nomark _))))) (pss_one (ps_ret pe_bl)) pss_nil)))))))))))
    (pss_one (ps_ret pe_bl))), ?_⟩
  have len : ∀ {σ : L2.St} {H1 : Hp}, σ[0]? = some (some (.ref a)) → Ex H H1 → EvD K (tCB (rLenS K) (tCons (tVar 0) tNil)) σ H1 (.int (ns.length : Int)) := fun h e => EvD.is (d_of (ev_len (ev_var h) (ex_l e hS)) (.int _)) (by rw [List.length_map])
  refine Evl.q_forR1 (n := if (if (5 : Int) < (ns.length : Int) then 5 else (ns.length : Int)) > 2 then (if (5 : Int) < (ns.length : Int) then 5 else (ns.length : Int)) else 2) (ea_cons (ev_max2' ev_c (ev_min2 (len rfl (Ex.refl H)).int ev_c)) ea_nil) (by split <;> split <;> omega) (fun i σ' H' => ∃ o1 o2 o3 o4 o5 o6 o7, σ' = [some (.ref a), o1, o2, o3, o4, o5, o6, o7] ∧ Ex H H') (fun H1 e1 => ⟨none, none, none, none, none, none, none, rfl, e1⟩) ?_ ?_
  · rintro i σ' H1 hi ⟨o1, o2, o3, o4, o5, o6, o7, rfl, ex1⟩
    have hi4 : i ≤ 4 := by split at hi <;> split at hi <;> omega
    have hi1 : ns = [] → i ≤ 1 := fun e => by
      subst e
      have e1 : (if (if (5 : Int) < ((([] : List Int).length : Nat) : Int) then 5 else ((([] : List Int).length : Nat) : Int)) > 2 then (if (5 : Int) < ((([] : List Int).length : Nat) : Int) then 5 else ((([] : List Int).length : Nat) : Int)) else 2) = 2 := by decide
      rw [e1] at hi
      omega
    -- the bag
    refine q_call2 (ev_var rfl) (ev_var rfl) fun H2 e2 => ⟨a, ns, i, rfl, ex_l (ex1.trans e2) hS, hn, hi4, hi1, fun B H3 nB e3 hB => ?_⟩
    have ex3 := (ex1.trans e2).trans e3
    have B0 : H B = none := fresh_back (ex1.trans e2) nB
    -- the program
    refine q_call1 (ev_var rfl) fun H4 e4 => ⟨B, 0, rfl, hB.ex e4, by decide, fun p ys rs H5 np npB hp hd W hg hz k5 => ?_⟩
    have ex5 : Ex H H5 := ex_new (ex3.trans e4) (fun x hx => by rw [List.mem_singleton] at hx; rw [hx]; exact B0) k5
    have hok : ∀ r ∈ rs, OkRow r := fun r hr => gen_ok (hg r hr)
    obtain ⟨m, o, hP⟩ := pre_total W hg
    -- what is due
    refine q_gone (ev_var rfl) hp hd W hok hz hP fun v H6 e6 hdue => ?_
    have ex6 := ex5.trans e6
    -- the text
    refine q_call1 (ev_var rfl) fun H7 e7 => ⟨p, ys, rs, rfl, (e6.trans e7) _ _ hp, hd.ex (e6.trans e7), hok, hz, fun H8 e8 => ?_⟩
    have e68 := e7.trans e8
    have ex8 := ex6.trans e68
    -- twice
    refine Evl.s_forR1 (n := 2) (ea_cons ev_c ea_nil) (by decide) (fun j σ' H' => ∃ o6 o7, σ' = [some (.ref a), some (.int (i : Nat)), some (.ref B), some (.ref p), some v, some (.str (progT rs)), o6, o7] ∧ Ex H6 H') (fun H9 e9 => ⟨o6, o7, rfl, e68.trans e9⟩) ?_ (fun σ' H9 ⟨o6, o7, e, ex9⟩ => ⟨_, _, _, _, _, _, _, e, ex6.trans ex9⟩)
    rintro j σ' H9 hj ⟨o6, o7, rfl, ex9⟩
    refine q_asgD (K := K) (d := refD o) (d_ref (d_vstr rfl) hok W hz hP) fun vf H10 e10 hvf => ?_
    have ex10 := ex9.trans e10
    cases o with
    | error b =>
      have hv10 : Dt K H10 v (.tuple [.str (kindB b), .int (numB b)]) := hdue.ex ex10
      have nt : decide (kindB b = "told") = false := by
        have key : ∀ x ∈ (["uneven", "frame", "deep", "many"] : List Str), decide (x = "told") = false := by decide +kernel
        apply key
        cases b <;> simp [kindB]
      have shk : Shp 1 (.tuple [.str (kindB b), .int (numB b)]) := shp_tup (n := 0) fun d hd => by
        have all : ∀ x ∈ (["uneven", "frame", "deep", "many"] : List Str), PyData.strOk x = true := by decide +kernel
        simp only [List.mem_cons, List.not_mem_nil, or_false] at hd
        rcases hd with rfl | rfl
        · refine shp_str (all _ ?_)
          cases b <;> simp [kindB]
        · exact shp_int _
      have d0 : ∀ {H' : Hp} {σ : L2.St}, σ[4]? = some (some v) → Ex H10 H' → EvD K (tOp (rIxT K) (tVar 4) (tC (.int 0))) σ H' (.str (kindB b)) := fun h e => d_ix (d_var (hv10.ex e) h) d_int rfl
      have ne1 := ne_ev (K := K) (σ := [some (.ref a), some (.int (i : Nat)), some (.ref B), some (.ref p), some v, some (.str (progT rs)), some (.int (j : Nat)), some vf]) (H := H10) (ta := tVar 7) (tb := tVar 4) (d := refD (.error b)) (e := .tuple [.str (kindB b), .int (numB b)]) (d_var hvf rfl) (d_var hv10 rfl) (shk.shaped (by decide)) (shk.shaped (by decide))
      have er : PyData.eqv (refD (.error b)) (.tuple [.str (kindB b), .int (numB b)]) = true := SeqAt.eqv_refl _ shk.1
      rw [er] at ne1
      refine q_when (b := false) (et_is (et_or (et_and (t_test (K := K) (d_neS (d0 rfl (Ex.refl _)) d_str)) fun _ => t_test (K := K) ne1) fun _ => et_and (b := false) (t_test (K := K) (d_eqS (d0 rfl (Ex.refl _)) d_str)) fun z => absurd (z.symm.trans nt) (by decide)) (by rw [nt]; rfl)) (fun hb => absurd hb (by decide)) fun _ H11 e11 => ?_
      refine s_when (b := false) (et_is (et_and (b := false) (t_test (K := K) (d_eqS (d0 rfl e11) d_str)) fun z => absurd (z.symm.trans nt) (by decide)) (by rw [nt]; rfl)) (fun hb => absurd hb (by decide)) fun _ H12 e12 => ?_
      exact ⟨_, _, rfl, (ex10.trans e11).trans e12⟩
    | ok ds =>
      obtain ⟨p', en, evs, rfl, hp', hen, hev⟩ := hdue
      have yt : decide (("told" : Str) = "told") = true := decide_eq_true rfl
      have d0 : ∀ {H' : Hp} {σ : L2.St}, σ[4]? = some (some (.ref p')) → Ex H10 H' → EvD K (tOp (rIxT K) (tVar 4) (tC (.int 0))) σ H' (.str "told") := fun h e => d_of (ev_op (ev_var h) ev_c (rv_ixT (st_of ((ex10.trans e) _ _ hp')) rfl)) (.str _)
      have shn : Shp 1 (.tuple [.str "none", .int 0]) := shp_tup (n := 0) fun d hd => by
        simp only [List.mem_cons, List.not_mem_nil, or_false] at hd
        rcases hd with rfl | rfl
        · exact shp_str (by decide +kernel)
        · exact shp_int _
      have ne1 := ne_ev (K := K) (σ := [some (.ref a), some (.int (i : Nat)), some (.ref B), some (.ref p), some (.ref p'), some (.str (progT rs)), some (.int (j : Nat)), some vf]) (H := H10) (ta := tVar 7) (tb := tTup (tCons (tC (.str "none")) (tCons (tC (.int 0)) tNil))) (d := .tuple [.str "none", .int 0]) (e := .tuple [.str "none", .int 0]) (d_var hvf rfl) (d_tup2 (ds_cons d_str (ds_cons d_int ds_nil))) (shn.shaped (by decide)) (shn.shaped (by decide))
      rw [SeqAt.eqv_refl _ shn.1] at ne1
      refine q_when (b := false) (et_is (et_or (et_and (b := false) (t_test (K := K) (d_neS (d0 rfl (Ex.refl _)) d_str)) fun z => absurd z (by decide +kernel)) fun _ => et_and (t_test (K := K) (d_eqS (d0 rfl (Ex.refl _)) d_str)) fun _ => t_test (K := K) ne1) (by decide +kernel)) (fun hb => absurd hb (by decide)) fun _ H11 e11 => ?_
      have ex11 := ex10.trans e11
      have hp11 := ex11 _ _ hp'
      refine s_when (b := false) (et_is (et_and (t_test (K := K) (d_eqS (d0 rfl e11) d_str)) fun _ => t_test (K := K) (d_neL (n_road (d_vstr rfl) hok W hz hP) (fun H' e' => ev_op (ev_var rfl) ev_c (rv_ixT (st_of (e' _ _ hp11)) rfl)) (ex11 _ _ hen) (hev.ex ex11) (pre_shp hP))) (by decide +kernel)) (fun hb => absurd hb (by decide)) fun _ H12 e12 => ?_
      exact ⟨_, _, rfl, ex11.trans e12⟩
  · rintro σ' H1 ⟨o1, o2, o3, o4, o5, o6, o7, rfl, ex1⟩
    exact s_ret (v := .bl true) ev_c fun H2 _ => hk H2
end
end Kx

set_option Elab.async false
set_option linter.all false
set_option maxRecDepth 100000
set_option maxHeartbeats 0
namespace Kx
open PySem PySem.Spec PyProof.Rows L2
theorem walk_law {k : Nat} {loose : List Str} {XP : (Str → Option Value) → Heap → Prop} {d : DefRec} (hdn : d.name = "law") (hdf : d.params.defaults = []) (hr : Room k callerA) (F : LawKept k) :
    PySem.W.WalkO (PySem.W.view Kd.R.prog [119]) loose XP Kd.hk.says lawRow.row.toRowW d [] (fun f vs => PySem.call f vs) := by
  refine Att.attach_call (n := 63) rfl hdf fun w s0 s1 mg mb fa o pm cd doc a vs ns G Y ho hd hcd hmg hobj hints hlen hg => ?_
  obtain ⟨K, KX, c⟩ := Y
  have T : Tx w K mg := tx_of KX G.T.g (G.T.seer (by kernel_rfl)) c
  have e : fa = He.ga K "law" := by
    have q := hmg.symm.trans ((congrArg mg hdn).trans T.g_law)
    cases q
    rfl
  subst e
  obtain ⟨fd, bA, FO⟩ := F w K mg T
  exact law_call (CX := CX0) (k := k) (fd := fd) (x := "_law_script") (sp := spLaw K) KX G.T.g G.T.b G.T.builtins G.T.nolimit hg hobj hints (Nat.le_trans hlen (by decide)) hr (fun base _ _ => FO base) bA
    (fun H hO hS => ⟨a, ns, rfl, hS, hlen, fun _ => rfl⟩) fun H e s' z => z
theorem holds_of {k : Nat} (hr : Room k callerA) (F : LawKept k) : PySem.Challenge.rw_toolroad_k29_whole_roads_by_their_rows.Holds := by
  w_on; o_law
  refine HandSHeadRun.head_any (r := Kd.R) (q := PySem.W.view Kd.R.prog [119]) (H := Kd.hk) (ob := Kd.ob) (M := 6600) (loose := Kd.loose) (d := HandSHeadRun.topDef Kd.R.prog 119) (kwd := []) Kd.ob_eq
    (by kernel_rfl) (fun s => by kernel_rfl) Kd.run (by kernel_rfl) (by kernel_rfl) (by kernel_rfl) (by rfl) (by first | assumption | decide +kernel) (by decide +kernel) ⟨rfl, rfl, rfl, rfl, rfl, by decide +kernel⟩ ?hw ?hc
  case hw => w_witness2
  case hc => exact walk_law (by kernel_rfl) (by kernel_rfl) hr F
end Kx

set_option maxRecDepth 100000
set_option maxHeartbeats 0
theorem PySem.Challenge.cw_toolroad_k29_whole_roads_by_their_rows_holds : PySem.Challenge.rw_toolroad_k29_whole_roads_by_their_rows.Holds := by
  exact Kx.holds_of (k := 49) ⟨rfl, by decide, by decide⟩ Kx.law_kept

