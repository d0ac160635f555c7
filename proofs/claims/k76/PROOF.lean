import PyProof.Rows.All
import Wide.All
import OpenK.AllK
import Wide.FinOn
import HandS.Base
import HandS.Call
import HandS.Ends
import HandS.Words
import HandS.WordsExc
import HandS.Defaults
import HandS.Property
import HandS.HeadHook1
import HandS.HeadHook2
import KE.KStateDown
import Lean
import HandS.Head0
import HandS.Head1
import HandS.Head2
import HandS.HeadEnd
import HandS.ForMost
import HandS.DictComp
import HandS.More
import KE.DatumOrd
import KE.SortData
import HandS.DictSubView
import HandS.Set
import HandS.SetKeys
import HandS.SetFor
import HandS.FStr
import HandS.Style
import HandS.TryOnly
import HandS.TupAny
import HandS.TupLe
import HandS.Deep
import HandS.MakeKwOnly
import HandS.CallSlots
import HandS.IsInst
import HandS.RaiseMore
import PySem.Challenge.RW_metersure_k76_whole_least_corrections
set_option Elab.async false
set_option linter.all false
set_option maxRecDepth 100000
set_option maxHeartbeats 4000000
-- part Text
section
set_option Elab.async false
set_option linter.all false
set_option maxRecDepth 100000
set_option maxHeartbeats 4000000
namespace M
open PySem PySem.Spec PyProof.Rows L2
/-! ### the text by places -/
def top (i : Nat) : Stmt := PySem.Challenge.pw_metersure_k76_whole_least_corrections.main.body.getD i (.Pass ⟨0, 0, 0, 0⟩)
abbrev s_is_name : Stmt := top 17
abbrev s_are_names : Stmt := top 18
abbrev s_is_stream : Stmt := top 19
abbrev s_check_flows : Stmt := top 21
abbrev s_lacks : Stmt := top 22
abbrev s_is_balanced : Stmt := top 23
abbrev s_is_within : Stmt := top 24
abbrev s_is_lot : Stmt := top 25
abbrev s_leaving : Stmt := top 26
abbrev s_coming_into : Stmt := top 27
abbrev s_lines_of : Stmt := top 29
abbrev s_arcs_of : Stmt := top 30
abbrev s_way_between : Stmt := top 31
abbrev s_p_way_back : Stmt := top 32
abbrev s_p_push : Stmt := top 34
abbrev s_leading_to : Stmt := top 37
abbrev s_led_from : Stmt := top 38
abbrev s_come_to : Stmt := top 39
abbrev s_check_limits : Stmt := top 42
abbrev s_crossed : Stmt := top 43
abbrev s_lack_of : Stmt := top 44
abbrev s_missing_of : Stmt := top 45
abbrev s_least_missing : Stmt := top 46
abbrev s_check_readings : Stmt := top 48
abbrev s_limits_of : Stmt := top 49
abbrev s_flows_within : Stmt := top 55
abbrev s_paper_within : Stmt := top 56
abbrev s_shows_none : Stmt := top 57
abbrev s_flows_of : Stmt := top 58
abbrev s_overstep : Stmt := top 60
abbrev s_cost_of : Stmt := top 61
abbrev s_worst_of : Stmt := top 62
abbrev s_narrowed : Stmt := top 63
abbrev s_slopes_of : Stmt := top 66
abbrev s_moves_of : Stmt := top 67
abbrev s_far_from : Stmt := top 68
abbrev s_l_way_back : Stmt := top 69
abbrev s_l_push : Stmt := top 71
abbrev s_least_flows : Stmt := top 73
abbrev s_floors_of : Stmt := top 74
abbrev s_bound_of : Stmt := top 75
abbrev s_shows_cost : Stmt := top 76
abbrev s_format_plant : Stmt := top 79
abbrev s_format_readings : Stmt := top 80
abbrev s_least_cost : Stmt := top 99
abbrev s_found_answer : Stmt := top 100
abbrev s_copied : Stmt := top 101
abbrev s_deed_of : Stmt := top 105
abbrev s_flows_for : Stmt := top 109
abbrev s_least_worst : Stmt := top 110
abbrev s_shows_worst : Stmt := top 111
abbrev s_L_row : Stmt := top 113
abbrev s_L_numbers : Stmt := top 114
abbrev s_L_small : Stmt := top 115
abbrev s_L_metered : Stmt := top 116
abbrev s_L_all_flows : Stmt := top 117
abbrev s_L_shut_right : Stmt := top 118
abbrev s_L_limits : Stmt := top 119
abbrev s_L_answers : Stmt := top 120
abbrev s_L_told : Stmt := top 121
abbrev s_L_over : Stmt := top 122
abbrev s_L_refused : Stmt := top 123
abbrev s_L_law : Stmt := top 124
abbrev s_Plant_init : Stmt := inClass (top 20) 0
abbrev s_Plant_stream_names : Stmt := inClass (top 20) 3
abbrev s_Plant_check_knot : Stmt := inClass (top 20) 5
abbrev s_Missing_init : Stmt := inClass (top 41) 0
abbrev s_Least_init : Stmt := inClass (top 64) 0
abbrev s_Slope_init : Stmt := inClass (top 65) 0
abbrev s_Slope_turns : Stmt := inClass (top 65) 1
abbrev s_Slope_cost_at : Stmt := inClass (top 65) 2
abbrev s_Slope_first : Stmt := inClass (top 65) 3
abbrev s_Slope_rise : Stmt := inClass (top 65) 4
abbrev s_Slope_fall : Stmt := inClass (top 65) 5
abbrev s_Slope_charges : Stmt := inClass (top 65) 6
abbrev s_Desk_init : Stmt := inClass (top 102) 0
abbrev s_Desk_answer : Stmt := inClass (top 102) 11
abbrev s_Session_init : Stmt := inClass (top 106) 0
abbrev s_Session_obey : Stmt := inClass (top 106) 1
abbrev s_Session_obeyed : Stmt := inClass (top 106) 3
abbrev s_Session_told : Stmt := inClass (top 106) 4
abbrev s_Worst_init : Stmt := inClass (top 108) 0
abbrev s_Plant_knots : Stmt := inClass (top 20) 1
abbrev s_Plant_streams : Stmt := inClass (top 20) 2
abbrev FnP (K : PySem.W.Frag) (x qual : Str) (st : Stmt) (kws : List (Str × V)) (f : Addr) : Prop := ∃ fd, FunD K x qual (defArgs st) (defBody st) (defScope st) [] kws f fd
/-! ### data for the head -/
def d_is_name : He.DefD := ⟨("is_name", none), "is_name", "is_name", defArgs s_is_name, defBody s_is_name, defScope s_is_name, [], []⟩
def d_are_names : He.DefD := ⟨("are_names", none), "are_names", "are_names", defArgs s_are_names, defBody s_are_names, defScope s_are_names, [], []⟩
def d_is_stream : He.DefD := ⟨("is_stream", none), "is_stream", "is_stream", defArgs s_is_stream, defBody s_is_stream, defScope s_is_stream, [], []⟩
def d_check_flows : He.DefD := ⟨("check_flows", none), "check_flows", "check_flows", defArgs s_check_flows, defBody s_check_flows, defScope s_check_flows, [], []⟩
def d_lacks : He.DefD := ⟨("lacks", none), "lacks", "lacks", defArgs s_lacks, defBody s_lacks, defScope s_lacks, [], []⟩
def d_is_balanced : He.DefD := ⟨("is_balanced", none), "is_balanced", "is_balanced", defArgs s_is_balanced, defBody s_is_balanced, defScope s_is_balanced, [], []⟩
def d_is_within : He.DefD := ⟨("is_within", none), "is_within", "is_within", defArgs s_is_within, defBody s_is_within, defScope s_is_within, [], []⟩
def d_is_lot : He.DefD := ⟨("is_lot", none), "is_lot", "is_lot", defArgs s_is_lot, defBody s_is_lot, defScope s_is_lot, [], []⟩
def d_leaving : He.DefD := ⟨("leaving", none), "leaving", "leaving", defArgs s_leaving, defBody s_leaving, defScope s_leaving, [], []⟩
def d_coming_into : He.DefD := ⟨("coming_into", none), "coming_into", "coming_into", defArgs s_coming_into, defBody s_coming_into, defScope s_coming_into, [], []⟩
def d_lines_of : He.DefD := ⟨("lines_of", none), "lines_of", "lines_of", defArgs s_lines_of, defBody s_lines_of, defScope s_lines_of, [], []⟩
def d_arcs_of : He.DefD := ⟨("arcs_of", none), "arcs_of", "arcs_of", defArgs s_arcs_of, defBody s_arcs_of, defScope s_arcs_of, [], []⟩
def d_way_between : He.DefD := ⟨("way_between", none), "way_between", "way_between", defArgs s_way_between, defBody s_way_between, defScope s_way_between, [], []⟩
def d_p_way_back : He.DefD := ⟨("way_back_pushes", none), "way_back", "way_back", defArgs s_p_way_back, defBody s_p_way_back, defScope s_p_way_back, [], []⟩
def d_p_push : He.DefD := ⟨("push_pushes", none), "push", "push", defArgs s_p_push, defBody s_p_push, defScope s_p_push, [], []⟩
def d_leading_to : He.DefD := ⟨("leading_to", none), "leading_to", "leading_to", defArgs s_leading_to, defBody s_leading_to, defScope s_leading_to, [], []⟩
def d_led_from : He.DefD := ⟨("led_from", none), "led_from", "led_from", defArgs s_led_from, defBody s_led_from, defScope s_led_from, [], []⟩
def d_come_to : He.DefD := ⟨("come_to", none), "come_to", "come_to", defArgs s_come_to, defBody s_come_to, defScope s_come_to, [], []⟩
def d_check_limits : He.DefD := ⟨("check_limits", none), "check_limits", "check_limits", defArgs s_check_limits, defBody s_check_limits, defScope s_check_limits, [], []⟩
def d_crossed : He.DefD := ⟨("crossed", none), "crossed", "crossed", defArgs s_crossed, defBody s_crossed, defScope s_crossed, [], []⟩
def d_lack_of : He.DefD := ⟨("lack_of", none), "lack_of", "lack_of", defArgs s_lack_of, defBody s_lack_of, defScope s_lack_of, [], []⟩
def d_missing_of : He.DefD := ⟨("missing_of", none), "missing_of", "missing_of", defArgs s_missing_of, defBody s_missing_of, defScope s_missing_of, [], []⟩
def d_least_missing : He.DefD := ⟨("least_missing", none), "least_missing", "least_missing", defArgs s_least_missing, defBody s_least_missing, defScope s_least_missing, [], []⟩
def d_check_readings : He.DefD := ⟨("check_readings", none), "check_readings", "check_readings", defArgs s_check_readings, defBody s_check_readings, defScope s_check_readings, [], []⟩
def d_limits_of : He.DefD := ⟨("limits_of", none), "limits_of", "limits_of", defArgs s_limits_of, defBody s_limits_of, defScope s_limits_of, [], []⟩
def d_flows_within : He.DefD := ⟨("flows_within", none), "flows_within", "flows_within", defArgs s_flows_within, defBody s_flows_within, defScope s_flows_within, [], []⟩
def d_paper_within : He.DefD := ⟨("paper_within", none), "paper_within", "paper_within", defArgs s_paper_within, defBody s_paper_within, defScope s_paper_within, [], []⟩
def d_shows_none : He.DefD := ⟨("shows_none", none), "shows_none", "shows_none", defArgs s_shows_none, defBody s_shows_none, defScope s_shows_none, [], []⟩
def d_flows_of : He.DefD := ⟨("flows_of", none), "flows_of", "flows_of", defArgs s_flows_of, defBody s_flows_of, defScope s_flows_of, [], []⟩
def d_overstep : He.DefD := ⟨("overstep", none), "overstep", "overstep", defArgs s_overstep, defBody s_overstep, defScope s_overstep, [], []⟩
def d_cost_of : He.DefD := ⟨("cost_of", none), "cost_of", "cost_of", defArgs s_cost_of, defBody s_cost_of, defScope s_cost_of, [], []⟩
def d_worst_of : He.DefD := ⟨("worst_of", none), "worst_of", "worst_of", defArgs s_worst_of, defBody s_worst_of, defScope s_worst_of, [], []⟩
def d_narrowed : He.DefD := ⟨("narrowed", none), "narrowed", "narrowed", defArgs s_narrowed, defBody s_narrowed, defScope s_narrowed, [], [("worst", .non)]⟩
def d_slopes_of : He.DefD := ⟨("slopes_of", none), "slopes_of", "slopes_of", defArgs s_slopes_of, defBody s_slopes_of, defScope s_slopes_of, [], []⟩
def d_moves_of : He.DefD := ⟨("moves_of", none), "moves_of", "moves_of", defArgs s_moves_of, defBody s_moves_of, defScope s_moves_of, [], []⟩
def d_far_from : He.DefD := ⟨("far_from", none), "far_from", "far_from", defArgs s_far_from, defBody s_far_from, defScope s_far_from, [], []⟩
def d_l_way_back : He.DefD := ⟨("way_back_least", none), "way_back", "way_back", defArgs s_l_way_back, defBody s_l_way_back, defScope s_l_way_back, [], []⟩
def d_l_push : He.DefD := ⟨("push_least", none), "push", "push", defArgs s_l_push, defBody s_l_push, defScope s_l_push, [], []⟩
def d_least_flows : He.DefD := ⟨("least_flows", none), "least_flows", "least_flows", defArgs s_least_flows, defBody s_least_flows, defScope s_least_flows, [], [("worst", .non)]⟩
def d_floors_of : He.DefD := ⟨("floors_of", none), "floors_of", "floors_of", defArgs s_floors_of, defBody s_floors_of, defScope s_floors_of, [], []⟩
def d_bound_of : He.DefD := ⟨("bound_of", none), "bound_of", "bound_of", defArgs s_bound_of, defBody s_bound_of, defScope s_bound_of, [], [("worst", .non)]⟩
def d_shows_cost : He.DefD := ⟨("shows_cost", none), "shows_cost", "shows_cost", defArgs s_shows_cost, defBody s_shows_cost, defScope s_shows_cost, [], [("worst", .non)]⟩
def d_format_plant : He.DefD := ⟨("format_plant", none), "format_plant", "format_plant", defArgs s_format_plant, defBody s_format_plant, defScope s_format_plant, [], []⟩
def d_format_readings : He.DefD := ⟨("format_readings", none), "format_readings", "format_readings", defArgs s_format_readings, defBody s_format_readings, defScope s_format_readings, [], []⟩
def d_least_cost : He.DefD := ⟨("least_cost", none), "least_cost", "least_cost", defArgs s_least_cost, defBody s_least_cost, defScope s_least_cost, [], []⟩
def d_found_answer : He.DefD := ⟨("found_answer", none), "found_answer", "found_answer", defArgs s_found_answer, defBody s_found_answer, defScope s_found_answer, [], []⟩
def d_copied : He.DefD := ⟨("copied", none), "copied", "copied", defArgs s_copied, defBody s_copied, defScope s_copied, [], []⟩
def d_deed_of : He.DefD := ⟨("deed_of", none), "deed_of", "deed_of", defArgs s_deed_of, defBody s_deed_of, defScope s_deed_of, [], []⟩
def d_flows_for : He.DefD := ⟨("flows_for", none), "flows_for", "flows_for", defArgs s_flows_for, defBody s_flows_for, defScope s_flows_for, [], []⟩
def d_least_worst : He.DefD := ⟨("least_worst", none), "least_worst", "least_worst", defArgs s_least_worst, defBody s_least_worst, defScope s_least_worst, [], []⟩
def d_shows_worst : He.DefD := ⟨("shows_worst", none), "shows_worst", "shows_worst", defArgs s_shows_worst, defBody s_shows_worst, defScope s_shows_worst, [], []⟩
def d_L_row : He.DefD := ⟨("_law_row", none), "_law_row", "_law_row", defArgs s_L_row, defBody s_L_row, defScope s_L_row, [], []⟩
def d_L_numbers : He.DefD := ⟨("_law_numbers", none), "_law_numbers", "_law_numbers", defArgs s_L_numbers, defBody s_L_numbers, defScope s_L_numbers, [], []⟩
def d_L_small : He.DefD := ⟨("_law_small", none), "_law_small", "_law_small", defArgs s_L_small, defBody s_L_small, defScope s_L_small, [], []⟩
def d_L_metered : He.DefD := ⟨("_law_metered", none), "_law_metered", "_law_metered", defArgs s_L_metered, defBody s_L_metered, defScope s_L_metered, [], []⟩
def d_L_all_flows : He.DefD := ⟨("_law_all_flows", none), "_law_all_flows", "_law_all_flows", defArgs s_L_all_flows, defBody s_L_all_flows, defScope s_L_all_flows, [], []⟩
def d_L_shut_right : He.DefD := ⟨("_law_shut_right", none), "_law_shut_right", "_law_shut_right", defArgs s_L_shut_right, defBody s_L_shut_right, defScope s_L_shut_right, [], []⟩
def d_L_limits : He.DefD := ⟨("_law_limits", none), "_law_limits", "_law_limits", defArgs s_L_limits, defBody s_L_limits, defScope s_L_limits, [], []⟩
def d_L_answers : He.DefD := ⟨("_law_answers", none), "_law_answers", "_law_answers", defArgs s_L_answers, defBody s_L_answers, defScope s_L_answers, [], []⟩
def d_L_told : He.DefD := ⟨("_law_told", none), "_law_told", "_law_told", defArgs s_L_told, defBody s_L_told, defScope s_L_told, [], []⟩
def d_L_over : He.DefD := ⟨("_law_over", none), "_law_over", "_law_over", defArgs s_L_over, defBody s_L_over, defScope s_L_over, [], []⟩
def d_L_refused : He.DefD := ⟨("_law_refused", none), "_law_refused", "_law_refused", defArgs s_L_refused, defBody s_L_refused, defScope s_L_refused, [], []⟩
def d_L_law : He.DefD := ⟨("law", none), "law", "law", defArgs s_L_law, defBody s_L_law, defScope s_L_law, [], []⟩
def d_Plant_init : He.DefD := ⟨("Plant", some "__init__"), "__init__", "Plant.__init__", defArgs s_Plant_init, defBody s_Plant_init, defScope s_Plant_init, [], []⟩
def d_Plant_stream_names : He.DefD := ⟨("Plant", some "stream_names"), "stream_names", "Plant.stream_names", defArgs s_Plant_stream_names, defBody s_Plant_stream_names, defScope s_Plant_stream_names, [], []⟩
def d_Plant_check_knot : He.DefD := ⟨("Plant", some "check_knot"), "check_knot", "Plant.check_knot", defArgs s_Plant_check_knot, defBody s_Plant_check_knot, defScope s_Plant_check_knot, [], []⟩
def d_Missing_init : He.DefD := ⟨("Missing", some "__init__"), "__init__", "Missing.__init__", defArgs s_Missing_init, defBody s_Missing_init, defScope s_Missing_init, [], []⟩
def d_Least_init : He.DefD := ⟨("Least", some "__init__"), "__init__", "Least.__init__", defArgs s_Least_init, defBody s_Least_init, defScope s_Least_init, [], []⟩
def d_Slope_init : He.DefD := ⟨("Slope", some "__init__"), "__init__", "Slope.__init__", defArgs s_Slope_init, defBody s_Slope_init, defScope s_Slope_init, [], []⟩
def d_Slope_turns : He.DefD := ⟨("Slope", some "turns"), "turns", "Slope.turns", defArgs s_Slope_turns, defBody s_Slope_turns, defScope s_Slope_turns, [], []⟩
def d_Slope_cost_at : He.DefD := ⟨("Slope", some "cost_at"), "cost_at", "Slope.cost_at", defArgs s_Slope_cost_at, defBody s_Slope_cost_at, defScope s_Slope_cost_at, [], []⟩
def d_Slope_first : He.DefD := ⟨("Slope", some "first"), "first", "Slope.first", defArgs s_Slope_first, defBody s_Slope_first, defScope s_Slope_first, [], []⟩
def d_Slope_rise : He.DefD := ⟨("Slope", some "rise"), "rise", "Slope.rise", defArgs s_Slope_rise, defBody s_Slope_rise, defScope s_Slope_rise, [], []⟩
def d_Slope_fall : He.DefD := ⟨("Slope", some "fall"), "fall", "Slope.fall", defArgs s_Slope_fall, defBody s_Slope_fall, defScope s_Slope_fall, [], []⟩
def d_Slope_charges : He.DefD := ⟨("Slope", some "charges"), "charges", "Slope.charges", defArgs s_Slope_charges, defBody s_Slope_charges, defScope s_Slope_charges, [], []⟩
def d_Desk_init : He.DefD := ⟨("Desk", some "__init__"), "__init__", "Desk.__init__", defArgs s_Desk_init, defBody s_Desk_init, defScope s_Desk_init, [], []⟩
def d_Desk_answer : He.DefD := ⟨("Desk", some "answer"), "answer", "Desk.answer", defArgs s_Desk_answer, defBody s_Desk_answer, defScope s_Desk_answer, [], []⟩
def d_Session_init : He.DefD := ⟨("Session", some "__init__"), "__init__", "Session.__init__", defArgs s_Session_init, defBody s_Session_init, defScope s_Session_init, [], []⟩
def d_Session_obey : He.DefD := ⟨("Session", some "obey"), "obey", "Session.obey", defArgs s_Session_obey, defBody s_Session_obey, defScope s_Session_obey, [], []⟩
def d_Session_obeyed : He.DefD := ⟨("Session", some "obeyed"), "obeyed", "Session.obeyed", defArgs s_Session_obeyed, defBody s_Session_obeyed, defScope s_Session_obeyed, [], []⟩
def d_Session_told : He.DefD := ⟨("Session", some "told"), "told", "Session.told", defArgs s_Session_told, defBody s_Session_told, defScope s_Session_told, [], []⟩
def d_Worst_init : He.DefD := ⟨("Worst", some "__init__"), "__init__", "Worst.__init__", defArgs s_Worst_init, defBody s_Worst_init, defScope s_Worst_init, [], []⟩
def fn0 : List He.DefD := [d_is_name, d_are_names, d_is_stream, d_check_flows, d_lacks, d_is_balanced, d_is_within, d_is_lot, d_leaving, d_coming_into]
def fn1 : List He.DefD := [d_lines_of, d_arcs_of, d_way_between, d_p_way_back, d_p_push, d_leading_to, d_led_from, d_come_to, d_check_limits, d_crossed]
def fn2 : List He.DefD := [d_lack_of, d_missing_of, d_least_missing, d_check_readings, d_limits_of, d_flows_within, d_paper_within, d_shows_none, d_flows_of, d_overstep]
def fn3 : List He.DefD := [d_cost_of, d_worst_of, d_narrowed, d_slopes_of, d_moves_of, d_far_from, d_l_way_back, d_l_push, d_least_flows, d_floors_of]
def fn4 : List He.DefD := [d_bound_of, d_shows_cost, d_format_plant, d_format_readings, d_least_cost, d_found_answer, d_copied, d_deed_of, d_flows_for, d_least_worst]
def fn5 : List He.DefD := [d_shows_worst, d_L_row, d_L_numbers, d_L_small, d_L_metered, d_L_all_flows, d_L_shut_right, d_L_limits, d_L_answers, d_L_told]
def fn6 : List He.DefD := [d_L_over, d_L_refused, d_L_law, d_Plant_init, d_Plant_stream_names, d_Plant_check_knot, d_Missing_init, d_Least_init, d_Slope_init, d_Slope_turns]
def fn7 : List He.DefD := [d_Slope_cost_at, d_Slope_first, d_Slope_rise, d_Slope_fall, d_Slope_charges, d_Desk_init, d_Desk_answer, d_Session_init, d_Session_obey, d_Session_obeyed]
def fn8 : List He.DefD := [d_Session_told, d_Worst_init]
def fn : List He.DefD := fn0 ++ (fn1 ++ (fn2 ++ (fn3 ++ (fn4 ++ (fn5 ++ (fn6 ++ (fn7 ++ (fn8))))))))
def fa0 : List He.Fa := [.glo "is_name", .glo "are_names", .glo "is_stream", .glo "check_flows", .glo "lacks", .glo "is_balanced", .glo "is_within", .glo "is_lot", .glo "leaving", .glo "coming_into"]
def fa1 : List He.Fa := [.glo "lines_of", .glo "arcs_of", .glo "way_between", .glo "way_back_pushes", .glo "push_pushes", .glo "leading_to", .glo "led_from", .glo "come_to", .glo "check_limits", .glo "crossed"]
def fa2 : List He.Fa := [.glo "lack_of", .glo "missing_of", .glo "least_missing", .glo "check_readings", .glo "limits_of", .glo "flows_within", .glo "paper_within", .glo "shows_none", .glo "flows_of", .glo "overstep"]
def fa3 : List He.Fa := [.glo "cost_of", .glo "worst_of", .glo "narrowed", .glo "slopes_of", .glo "moves_of", .glo "far_from", .glo "way_back_least", .glo "push_least", .glo "least_flows", .glo "floors_of"]
def fa4 : List He.Fa := [.glo "bound_of", .glo "shows_cost", .glo "format_plant", .glo "format_readings", .glo "least_cost", .glo "found_answer", .glo "copied", .glo "deed_of", .glo "flows_for", .glo "least_worst"]
def fa5 : List He.Fa := [.glo "shows_worst", .glo "_law_row", .glo "_law_numbers", .glo "_law_small", .glo "_law_metered", .glo "_law_all_flows", .glo "_law_shut_right", .glo "_law_limits", .glo "_law_answers", .glo "_law_told"]
def fa6 : List He.Fa := [.glo "_law_over", .glo "_law_refused", .glo "law", .glo "Plant", .glo "Missing", .glo "Least", .glo "Slope", .glo "Desk", .glo "Session", .glo "Worst"]
def fa7 : List He.Fa := [.glo "NoFlows", .glo "MeterError", .free "len", .free "all", .free "set", .free "sorted", .free "list", .free "dict", .free "max", .free "min"]
def fa8 : List He.Fa := [.free "sum", .free "abs", .free "any", .free "range", .free "isinstance", .free "str", .free "int", .int "MOST_FLOW" 1000000, .int "MOST_KNOTS" 24, .int "MOST_STREAMS" 60]
def fa9 : List He.Fa := [.str "LETTERS" "abcdefghijklmnopqrstuvwxyz0123456789", .str "LOT" "lot", .str "STREAM" "stream", .cls "Plant", .mkr "Plant", .noat "Plant" "_knots", .noat "Plant" "_streams", .cls "Missing", .mkr "Missing", .noat "Missing" "number"]
def fa10 : List He.Fa := [.noat "Missing" "flows", .noat "Missing" "least", .noat "Missing" "greatest", .cls "Least", .mkr "Least", .noat "Least" "flows", .noat "Least" "cost", .noat "Least" "heights", .cls "Slope", .mkr "Slope"]
def fa11 : List He.Fa := [.noat "Slope" "low", .noat "Slope" "high", .noat "Slope" "reading", .noat "Slope" "price", .cls "Desk", .mkr "Desk", .noat "Desk" "state", .noat "Desk" "past", .noat "Desk" "future", .noat "Desk" "known"]
def fa12 : List He.Fa := [.cls "Session", .mkr "Session", .noat "Session" "desk", .cls "Worst", .mkr "Worst", .noat "Worst" "number", .noat "Worst" "flows", .noat "Worst" "paper", .meth "Plant" "stream_names", .meth "Plant" "check_knot"]
def fa13 : List He.Fa := [.meth "Slope" "turns", .meth "Slope" "cost_at", .meth "Slope" "first", .meth "Slope" "rise", .meth "Slope" "fall", .meth "Slope" "charges", .meth "Desk" "answer", .meth "Session" "obey", .meth "Session" "obeyed", .meth "Session" "told"]
def fa14 : List He.Fa := [.exc "NoFlows", .exm "NoFlows" "NoFlows" true]
def fa : List He.Fa := fa0 ++ (fa1 ++ (fa2 ++ (fa3 ++ (fa4 ++ (fa5 ++ (fa6 ++ (fa7 ++ (fa8 ++ (fa9 ++ (fa10 ++ (fa11 ++ (fa12 ++ (fa13 ++ (fa14))))))))))))))
/-! ### properties -/
def pA (K : PySem.W.Frag) (C f : Str) : Addr := He.ma K (He.ga K C) f
def gA (K : PySem.W.Frag) (C f : Str) : Addr := match PySem.W.recIn K (pA K C f) "property" with
  | some (.ref g :: _) => g
  | _ => 0
structure GetD where
  C : Str
  f : Str
  qual : Str
  params : Arguments
  body : List Stmt
  scope : Scope
def GetD.ok (K : PySem.W.Frag) (d : GetD) : Bool := He.eqO (PySem.W.findIn K (.ref (He.ga K d.C)) d.f) (some (some (.ref (pA K d.C d.f)))) && (He.eqO (PySem.W.specialIn K (.ref (pA K d.C d.f)) "__get__") (some (some (.builtin "property.__get__"))) &&
  (decide (PySem.W.takesIn K (.ref (pA K d.C d.f)) = some true) && ((match PySem.W.recIn K (pA K d.C d.f) "property" with
    | some (.ref g :: _) => decide (g = gA K d.C d.f)
    | _ => false) && (PySem.W.keepIn K (.ref (gA K d.C d.f)) && (match K.lookup (gA K d.C d.f) with
    | some ⟨_, _, .func fd, _⟩ => PySem.W.codeIn K fd.code d.qual && He.dflB K fd.defaults []
    | _ => false)))))
def fnG (K : PySem.W.Frag) (d : GetD) : He.FnW := match K.lookup (gA K d.C d.f) with
  | some ⟨_, _, .func fd, _⟩ => some (fd.name, fd.qualname, fd.params, fd.body, fd.scope, fd.globals, fd.closure, fd.builtins)
  | _ => none
def GetD.val (d : GetD) : He.FnW := some (d.f, d.qual, d.params, .stmts d.body, d.scope, mainGlobals, [], builtinsNs)
theorem GetD.says {K : PySem.W.Frag} {d : GetD} (e : fnG K d = d.val) (c : d.ok K = true) : PropOf K (He.ga K d.C) d.f (pA K d.C d.f) (gA K d.C d.f) ∧ ∃ fd, FunD K d.f d.qual d.params d.body d.scope [] [] (gA K d.C d.f) fd := by
  obtain ⟨c1, c⟩ := He.ba c
  obtain ⟨c2, c⟩ := He.ba c
  obtain ⟨c3, c⟩ := He.ba c
  obtain ⟨c4, c⟩ := He.ba c
  obtain ⟨kp, c5⟩ := He.ba c
  have hrec : ∃ rest, PySem.W.recIn K (pA K d.C d.f) "property" = some (.ref (gA K d.C d.f) :: rest) := by
    cases q : PySem.W.recIn K (pA K d.C d.f) "property" with
    | none => rw [q] at c4; cases c4
    | some vs =>
      rw [q] at c4
      cases vs with
      | nil => cases c4
      | cons v r =>
        cases v with
        | ref g => exact ⟨r, by rw [of_decide_eq_true c4]⟩
        | _ => cases c4
  refine ⟨⟨He.eqO_ok c1, He.eqO_ok c2, of_decide_eq_true c3, hrec⟩, ?_⟩
  unfold fnG at e
  cases q : K.lookup (gA K d.C d.f) with
  | none => rw [q] at c5; cases c5
  | some o =>
    obtain ⟨oc, od, dt, osl⟩ := o
    rw [q] at c5 e
    cases dt with
    | func fd =>
      obtain ⟨n1, n2, n3, n4, n5, n6, n7, n8, n9, n10, n11, n12, n13, n14, n15⟩ := fd
      have e2 : (some (n1, n2, n3, n4, n5, n6, n7, n15) : He.FnW) = some (d.f, d.qual, d.params, .stmts d.body, d.scope, mainGlobals, [], builtinsNs) := e
      simp only [Option.some.injEq, Prod.mk.injEq] at e2
      obtain ⟨h1, h2, h3, h4, h5, h6, h7, h8⟩ := e2
      subst h1 h2 h3 h4 h5 h6 h7 h8
      obtain ⟨k1, k3⟩ := He.ba (show (PySem.W.codeIn K n13 d.qual && He.dflB K n8 []) = true from c5)
      exact ⟨_, ⟨oc, od, n8, n9, n10, n11, n12, n13, n14, osl, rfl, q, k1, He.dflB_ok k3, .inl rfl⟩, kp⟩
    | _ => cases c5
def q_Plant_knots : GetD := ⟨"Plant", "knots", "Plant.knots", defArgs s_Plant_knots, defBody s_Plant_knots, defScope s_Plant_knots⟩
def q_Plant_streams : GetD := ⟨"Plant", "streams", "Plant.streams", defArgs s_Plant_streams, defBody s_Plant_streams, defScope s_Plant_streams⟩
def gn : List GetD := [q_Plant_knots, q_Plant_streams]
/-! ### what the head says, by names -/
abbrev A_is_name (K : PySem.W.Frag) : Addr := He.fAd K ("is_name", none)
abbrev A_are_names (K : PySem.W.Frag) : Addr := He.fAd K ("are_names", none)
abbrev A_is_stream (K : PySem.W.Frag) : Addr := He.fAd K ("is_stream", none)
abbrev A_check_flows (K : PySem.W.Frag) : Addr := He.fAd K ("check_flows", none)
abbrev A_lacks (K : PySem.W.Frag) : Addr := He.fAd K ("lacks", none)
abbrev A_is_balanced (K : PySem.W.Frag) : Addr := He.fAd K ("is_balanced", none)
abbrev A_is_within (K : PySem.W.Frag) : Addr := He.fAd K ("is_within", none)
abbrev A_is_lot (K : PySem.W.Frag) : Addr := He.fAd K ("is_lot", none)
abbrev A_leaving (K : PySem.W.Frag) : Addr := He.fAd K ("leaving", none)
abbrev A_coming_into (K : PySem.W.Frag) : Addr := He.fAd K ("coming_into", none)
abbrev A_lines_of (K : PySem.W.Frag) : Addr := He.fAd K ("lines_of", none)
abbrev A_arcs_of (K : PySem.W.Frag) : Addr := He.fAd K ("arcs_of", none)
abbrev A_way_between (K : PySem.W.Frag) : Addr := He.fAd K ("way_between", none)
abbrev A_p_way_back (K : PySem.W.Frag) : Addr := He.fAd K ("way_back_pushes", none)
abbrev A_p_push (K : PySem.W.Frag) : Addr := He.fAd K ("push_pushes", none)
abbrev A_leading_to (K : PySem.W.Frag) : Addr := He.fAd K ("leading_to", none)
abbrev A_led_from (K : PySem.W.Frag) : Addr := He.fAd K ("led_from", none)
abbrev A_come_to (K : PySem.W.Frag) : Addr := He.fAd K ("come_to", none)
abbrev A_check_limits (K : PySem.W.Frag) : Addr := He.fAd K ("check_limits", none)
abbrev A_crossed (K : PySem.W.Frag) : Addr := He.fAd K ("crossed", none)
abbrev A_lack_of (K : PySem.W.Frag) : Addr := He.fAd K ("lack_of", none)
abbrev A_missing_of (K : PySem.W.Frag) : Addr := He.fAd K ("missing_of", none)
abbrev A_least_missing (K : PySem.W.Frag) : Addr := He.fAd K ("least_missing", none)
abbrev A_check_readings (K : PySem.W.Frag) : Addr := He.fAd K ("check_readings", none)
abbrev A_limits_of (K : PySem.W.Frag) : Addr := He.fAd K ("limits_of", none)
abbrev A_flows_within (K : PySem.W.Frag) : Addr := He.fAd K ("flows_within", none)
abbrev A_paper_within (K : PySem.W.Frag) : Addr := He.fAd K ("paper_within", none)
abbrev A_shows_none (K : PySem.W.Frag) : Addr := He.fAd K ("shows_none", none)
abbrev A_flows_of (K : PySem.W.Frag) : Addr := He.fAd K ("flows_of", none)
abbrev A_overstep (K : PySem.W.Frag) : Addr := He.fAd K ("overstep", none)
abbrev A_cost_of (K : PySem.W.Frag) : Addr := He.fAd K ("cost_of", none)
abbrev A_worst_of (K : PySem.W.Frag) : Addr := He.fAd K ("worst_of", none)
abbrev A_narrowed (K : PySem.W.Frag) : Addr := He.fAd K ("narrowed", none)
abbrev A_slopes_of (K : PySem.W.Frag) : Addr := He.fAd K ("slopes_of", none)
abbrev A_moves_of (K : PySem.W.Frag) : Addr := He.fAd K ("moves_of", none)
abbrev A_far_from (K : PySem.W.Frag) : Addr := He.fAd K ("far_from", none)
abbrev A_l_way_back (K : PySem.W.Frag) : Addr := He.fAd K ("way_back_least", none)
abbrev A_l_push (K : PySem.W.Frag) : Addr := He.fAd K ("push_least", none)
abbrev A_least_flows (K : PySem.W.Frag) : Addr := He.fAd K ("least_flows", none)
abbrev A_floors_of (K : PySem.W.Frag) : Addr := He.fAd K ("floors_of", none)
abbrev A_bound_of (K : PySem.W.Frag) : Addr := He.fAd K ("bound_of", none)
abbrev A_shows_cost (K : PySem.W.Frag) : Addr := He.fAd K ("shows_cost", none)
abbrev A_format_plant (K : PySem.W.Frag) : Addr := He.fAd K ("format_plant", none)
abbrev A_format_readings (K : PySem.W.Frag) : Addr := He.fAd K ("format_readings", none)
abbrev A_least_cost (K : PySem.W.Frag) : Addr := He.fAd K ("least_cost", none)
abbrev A_found_answer (K : PySem.W.Frag) : Addr := He.fAd K ("found_answer", none)
abbrev A_copied (K : PySem.W.Frag) : Addr := He.fAd K ("copied", none)
abbrev A_deed_of (K : PySem.W.Frag) : Addr := He.fAd K ("deed_of", none)
abbrev A_flows_for (K : PySem.W.Frag) : Addr := He.fAd K ("flows_for", none)
abbrev A_least_worst (K : PySem.W.Frag) : Addr := He.fAd K ("least_worst", none)
abbrev A_shows_worst (K : PySem.W.Frag) : Addr := He.fAd K ("shows_worst", none)
abbrev A_L_row (K : PySem.W.Frag) : Addr := He.fAd K ("_law_row", none)
abbrev A_L_numbers (K : PySem.W.Frag) : Addr := He.fAd K ("_law_numbers", none)
abbrev A_L_small (K : PySem.W.Frag) : Addr := He.fAd K ("_law_small", none)
abbrev A_L_metered (K : PySem.W.Frag) : Addr := He.fAd K ("_law_metered", none)
abbrev A_L_all_flows (K : PySem.W.Frag) : Addr := He.fAd K ("_law_all_flows", none)
abbrev A_L_shut_right (K : PySem.W.Frag) : Addr := He.fAd K ("_law_shut_right", none)
abbrev A_L_limits (K : PySem.W.Frag) : Addr := He.fAd K ("_law_limits", none)
abbrev A_L_answers (K : PySem.W.Frag) : Addr := He.fAd K ("_law_answers", none)
abbrev A_L_told (K : PySem.W.Frag) : Addr := He.fAd K ("_law_told", none)
abbrev A_L_over (K : PySem.W.Frag) : Addr := He.fAd K ("_law_over", none)
abbrev A_L_refused (K : PySem.W.Frag) : Addr := He.fAd K ("_law_refused", none)
abbrev A_L_law (K : PySem.W.Frag) : Addr := He.fAd K ("law", none)
abbrev A_Plant_init (K : PySem.W.Frag) : Addr := He.fAd K ("Plant", some "__init__")
abbrev A_Plant_stream_names (K : PySem.W.Frag) : Addr := He.fAd K ("Plant", some "stream_names")
abbrev A_Plant_check_knot (K : PySem.W.Frag) : Addr := He.fAd K ("Plant", some "check_knot")
abbrev A_Missing_init (K : PySem.W.Frag) : Addr := He.fAd K ("Missing", some "__init__")
abbrev A_Least_init (K : PySem.W.Frag) : Addr := He.fAd K ("Least", some "__init__")
abbrev A_Slope_init (K : PySem.W.Frag) : Addr := He.fAd K ("Slope", some "__init__")
abbrev A_Slope_turns (K : PySem.W.Frag) : Addr := He.fAd K ("Slope", some "turns")
abbrev A_Slope_cost_at (K : PySem.W.Frag) : Addr := He.fAd K ("Slope", some "cost_at")
abbrev A_Slope_first (K : PySem.W.Frag) : Addr := He.fAd K ("Slope", some "first")
abbrev A_Slope_rise (K : PySem.W.Frag) : Addr := He.fAd K ("Slope", some "rise")
abbrev A_Slope_fall (K : PySem.W.Frag) : Addr := He.fAd K ("Slope", some "fall")
abbrev A_Slope_charges (K : PySem.W.Frag) : Addr := He.fAd K ("Slope", some "charges")
abbrev A_Desk_init (K : PySem.W.Frag) : Addr := He.fAd K ("Desk", some "__init__")
abbrev A_Desk_answer (K : PySem.W.Frag) : Addr := He.fAd K ("Desk", some "answer")
abbrev A_Session_init (K : PySem.W.Frag) : Addr := He.fAd K ("Session", some "__init__")
abbrev A_Session_obey (K : PySem.W.Frag) : Addr := He.fAd K ("Session", some "obey")
abbrev A_Session_obeyed (K : PySem.W.Frag) : Addr := He.fAd K ("Session", some "obeyed")
abbrev A_Session_told (K : PySem.W.Frag) : Addr := He.fAd K ("Session", some "told")
abbrev A_Worst_init (K : PySem.W.Frag) : Addr := He.fAd K ("Worst", some "__init__")
abbrev A_Plant_knots (K : PySem.W.Frag) : Addr := gA K "Plant" "knots"
abbrev A_Plant_streams (K : PySem.W.Frag) : Addr := gA K "Plant" "streams"
abbrev C_Plant (K : PySem.W.Frag) : Addr := He.ga K "Plant"
abbrev C_Missing (K : PySem.W.Frag) : Addr := He.ga K "Missing"
abbrev C_Least (K : PySem.W.Frag) : Addr := He.ga K "Least"
abbrev C_Slope (K : PySem.W.Frag) : Addr := He.ga K "Slope"
abbrev C_Desk (K : PySem.W.Frag) : Addr := He.ga K "Desk"
abbrev C_Session (K : PySem.W.Frag) : Addr := He.ga K "Session"
abbrev C_Worst (K : PySem.W.Frag) : Addr := He.ga K "Worst"
abbrev C_NoFlows (K : PySem.W.Frag) : Addr := He.ga K "NoFlows"
abbrev C_MeterError (K : PySem.W.Frag) : Addr := He.ga K "MeterError"
structure Tx (K : PySem.W.Frag) (mg : Str → Option Value) : Prop where
  g_is_name : mg "is_name" = some (.ref (A_is_name K))
  g_are_names : mg "are_names" = some (.ref (A_are_names K))
  g_is_stream : mg "is_stream" = some (.ref (A_is_stream K))
  g_check_flows : mg "check_flows" = some (.ref (A_check_flows K))
  g_lacks : mg "lacks" = some (.ref (A_lacks K))
  g_is_balanced : mg "is_balanced" = some (.ref (A_is_balanced K))
  g_is_within : mg "is_within" = some (.ref (A_is_within K))
  g_is_lot : mg "is_lot" = some (.ref (A_is_lot K))
  g_leaving : mg "leaving" = some (.ref (A_leaving K))
  g_coming_into : mg "coming_into" = some (.ref (A_coming_into K))
  g_lines_of : mg "lines_of" = some (.ref (A_lines_of K))
  g_arcs_of : mg "arcs_of" = some (.ref (A_arcs_of K))
  g_way_between : mg "way_between" = some (.ref (A_way_between K))
  g_p_way_back : mg "way_back_pushes" = some (.ref (A_p_way_back K))
  g_p_push : mg "push_pushes" = some (.ref (A_p_push K))
  g_leading_to : mg "leading_to" = some (.ref (A_leading_to K))
  g_led_from : mg "led_from" = some (.ref (A_led_from K))
  g_come_to : mg "come_to" = some (.ref (A_come_to K))
  g_check_limits : mg "check_limits" = some (.ref (A_check_limits K))
  g_crossed : mg "crossed" = some (.ref (A_crossed K))
  g_lack_of : mg "lack_of" = some (.ref (A_lack_of K))
  g_missing_of : mg "missing_of" = some (.ref (A_missing_of K))
  g_least_missing : mg "least_missing" = some (.ref (A_least_missing K))
  g_check_readings : mg "check_readings" = some (.ref (A_check_readings K))
  g_limits_of : mg "limits_of" = some (.ref (A_limits_of K))
  g_flows_within : mg "flows_within" = some (.ref (A_flows_within K))
  g_paper_within : mg "paper_within" = some (.ref (A_paper_within K))
  g_shows_none : mg "shows_none" = some (.ref (A_shows_none K))
  g_flows_of : mg "flows_of" = some (.ref (A_flows_of K))
  g_overstep : mg "overstep" = some (.ref (A_overstep K))
  g_cost_of : mg "cost_of" = some (.ref (A_cost_of K))
  g_worst_of : mg "worst_of" = some (.ref (A_worst_of K))
  g_narrowed : mg "narrowed" = some (.ref (A_narrowed K))
  g_slopes_of : mg "slopes_of" = some (.ref (A_slopes_of K))
  g_moves_of : mg "moves_of" = some (.ref (A_moves_of K))
  g_far_from : mg "far_from" = some (.ref (A_far_from K))
  g_l_way_back : mg "way_back_least" = some (.ref (A_l_way_back K))
  g_l_push : mg "push_least" = some (.ref (A_l_push K))
  g_least_flows : mg "least_flows" = some (.ref (A_least_flows K))
  g_floors_of : mg "floors_of" = some (.ref (A_floors_of K))
  g_bound_of : mg "bound_of" = some (.ref (A_bound_of K))
  g_shows_cost : mg "shows_cost" = some (.ref (A_shows_cost K))
  g_format_plant : mg "format_plant" = some (.ref (A_format_plant K))
  g_format_readings : mg "format_readings" = some (.ref (A_format_readings K))
  g_least_cost : mg "least_cost" = some (.ref (A_least_cost K))
  g_found_answer : mg "found_answer" = some (.ref (A_found_answer K))
  g_copied : mg "copied" = some (.ref (A_copied K))
  g_deed_of : mg "deed_of" = some (.ref (A_deed_of K))
  g_flows_for : mg "flows_for" = some (.ref (A_flows_for K))
  g_least_worst : mg "least_worst" = some (.ref (A_least_worst K))
  g_shows_worst : mg "shows_worst" = some (.ref (A_shows_worst K))
  g_L_row : mg "_law_row" = some (.ref (A_L_row K))
  g_L_numbers : mg "_law_numbers" = some (.ref (A_L_numbers K))
  g_L_small : mg "_law_small" = some (.ref (A_L_small K))
  g_L_metered : mg "_law_metered" = some (.ref (A_L_metered K))
  g_L_all_flows : mg "_law_all_flows" = some (.ref (A_L_all_flows K))
  g_L_shut_right : mg "_law_shut_right" = some (.ref (A_L_shut_right K))
  g_L_limits : mg "_law_limits" = some (.ref (A_L_limits K))
  g_L_answers : mg "_law_answers" = some (.ref (A_L_answers K))
  g_L_told : mg "_law_told" = some (.ref (A_L_told K))
  g_L_over : mg "_law_over" = some (.ref (A_L_over K))
  g_L_refused : mg "_law_refused" = some (.ref (A_L_refused K))
  g_L_law : mg "law" = some (.ref (A_L_law K))
  g_Plant : mg "Plant" = some (.ref (C_Plant K))
  g_Missing : mg "Missing" = some (.ref (C_Missing K))
  g_Least : mg "Least" = some (.ref (C_Least K))
  g_Slope : mg "Slope" = some (.ref (C_Slope K))
  g_Desk : mg "Desk" = some (.ref (C_Desk K))
  g_Session : mg "Session" = some (.ref (C_Session K))
  g_Worst : mg "Worst" = some (.ref (C_Worst K))
  g_NoFlows : mg "NoFlows" = some (.ref (C_NoFlows K))
  g_MeterError : mg "MeterError" = some (.ref (C_MeterError K))
  b_len : mg "len" = none
  b_all : mg "all" = none
  b_set : mg "set" = none
  b_sorted : mg "sorted" = none
  b_list : mg "list" = none
  b_dict : mg "dict" = none
  b_max : mg "max" = none
  b_min : mg "min" = none
  b_sum : mg "sum" = none
  b_abs : mg "abs" = none
  b_any : mg "any" = none
  b_range : mg "range" = none
  b_isinstance : mg "isinstance" = none
  b_str : mg "str" = none
  b_int : mg "int" = none
  i_MOST_FLOW : ∃ t, mg "MOST_FLOW" = some (.int 1000000 t)
  i_MOST_KNOTS : ∃ t, mg "MOST_KNOTS" = some (.int 24 t)
  i_MOST_STREAMS : ∃ t, mg "MOST_STREAMS" = some (.int 60 t)
  i_LETTERS : ∃ t, mg "LETTERS" = some (.str "abcdefghijklmnopqrstuvwxyz0123456789" t)
  i_LOT : ∃ t, mg "LOT" = some (.str "lot" t)
  i_STREAM : ∃ t, mg "STREAM" = some (.str "stream" t)
  c_Plant : Cls K (C_Plant K)
  k_Plant : Mk K (C_Plant K) (A_Plant_init K)
  n_Plant__knots : NoAttr K (C_Plant K) "_knots"
  n_Plant__streams : NoAttr K (C_Plant K) "_streams"
  c_Missing : Cls K (C_Missing K)
  k_Missing : Mk K (C_Missing K) (A_Missing_init K)
  n_Missing_number : NoAttr K (C_Missing K) "number"
  n_Missing_flows : NoAttr K (C_Missing K) "flows"
  n_Missing_least : NoAttr K (C_Missing K) "least"
  n_Missing_greatest : NoAttr K (C_Missing K) "greatest"
  c_Least : Cls K (C_Least K)
  k_Least : Mk K (C_Least K) (A_Least_init K)
  n_Least_flows : NoAttr K (C_Least K) "flows"
  n_Least_cost : NoAttr K (C_Least K) "cost"
  n_Least_heights : NoAttr K (C_Least K) "heights"
  c_Slope : Cls K (C_Slope K)
  k_Slope : Mk K (C_Slope K) (A_Slope_init K)
  n_Slope_low : NoAttr K (C_Slope K) "low"
  n_Slope_high : NoAttr K (C_Slope K) "high"
  n_Slope_reading : NoAttr K (C_Slope K) "reading"
  n_Slope_price : NoAttr K (C_Slope K) "price"
  c_Desk : Cls K (C_Desk K)
  k_Desk : Mk K (C_Desk K) (A_Desk_init K)
  n_Desk_state : NoAttr K (C_Desk K) "state"
  n_Desk_past : NoAttr K (C_Desk K) "past"
  n_Desk_future : NoAttr K (C_Desk K) "future"
  n_Desk_known : NoAttr K (C_Desk K) "known"
  c_Session : Cls K (C_Session K)
  k_Session : Mk K (C_Session K) (A_Session_init K)
  n_Session_desk : NoAttr K (C_Session K) "desk"
  c_Worst : Cls K (C_Worst K)
  k_Worst : Mk K (C_Worst K) (A_Worst_init K)
  n_Worst_number : NoAttr K (C_Worst K) "number"
  n_Worst_flows : NoAttr K (C_Worst K) "flows"
  n_Worst_paper : NoAttr K (C_Worst K) "paper"
  m_Plant_stream_names : Meth K (C_Plant K) "stream_names" (A_Plant_stream_names K)
  m_Plant_check_knot : Meth K (C_Plant K) "check_knot" (A_Plant_check_knot K)
  m_Slope_turns : Meth K (C_Slope K) "turns" (A_Slope_turns K)
  m_Slope_cost_at : Meth K (C_Slope K) "cost_at" (A_Slope_cost_at K)
  m_Slope_first : Meth K (C_Slope K) "first" (A_Slope_first K)
  m_Slope_rise : Meth K (C_Slope K) "rise" (A_Slope_rise K)
  m_Slope_fall : Meth K (C_Slope K) "fall" (A_Slope_fall K)
  m_Slope_charges : Meth K (C_Slope K) "charges" (A_Slope_charges K)
  m_Desk_answer : Meth K (C_Desk K) "answer" (A_Desk_answer K)
  m_Session_obey : Meth K (C_Session K) "obey" (A_Session_obey K)
  m_Session_obeyed : Meth K (C_Session K) "obeyed" (A_Session_obeyed K)
  m_Session_told : Meth K (C_Session K) "told" (A_Session_told K)
  x_NoFlows : PySem.W.excIn K (C_NoFlows K) He.veBase "ValueError.__new__" = true ∧ PySem.W.keepIn K (.ref (C_NoFlows K)) = true ∧ PySem.W.subIn K (.ref (C_NoFlows K)) (.type "BaseException") = some true ∧ PySem.W.typeIn K (.ref (C_NoFlows K)) = some (.type "type")
  e_NoFlows : PySem.W.exmOne K (.ref (C_NoFlows K)) (.ref (C_NoFlows K)) = some true
  F_is_name : FnP K "is_name" "is_name" s_is_name [] (A_is_name K)
  F_are_names : FnP K "are_names" "are_names" s_are_names [] (A_are_names K)
  F_is_stream : FnP K "is_stream" "is_stream" s_is_stream [] (A_is_stream K)
  F_check_flows : FnP K "check_flows" "check_flows" s_check_flows [] (A_check_flows K)
  F_lacks : FnP K "lacks" "lacks" s_lacks [] (A_lacks K)
  F_is_balanced : FnP K "is_balanced" "is_balanced" s_is_balanced [] (A_is_balanced K)
  F_is_within : FnP K "is_within" "is_within" s_is_within [] (A_is_within K)
  F_is_lot : FnP K "is_lot" "is_lot" s_is_lot [] (A_is_lot K)
  F_leaving : FnP K "leaving" "leaving" s_leaving [] (A_leaving K)
  F_coming_into : FnP K "coming_into" "coming_into" s_coming_into [] (A_coming_into K)
  F_lines_of : FnP K "lines_of" "lines_of" s_lines_of [] (A_lines_of K)
  F_arcs_of : FnP K "arcs_of" "arcs_of" s_arcs_of [] (A_arcs_of K)
  F_way_between : FnP K "way_between" "way_between" s_way_between [] (A_way_between K)
  F_p_way_back : FnP K "way_back" "way_back" s_p_way_back [] (A_p_way_back K)
  F_p_push : FnP K "push" "push" s_p_push [] (A_p_push K)
  F_leading_to : FnP K "leading_to" "leading_to" s_leading_to [] (A_leading_to K)
  F_led_from : FnP K "led_from" "led_from" s_led_from [] (A_led_from K)
  F_come_to : FnP K "come_to" "come_to" s_come_to [] (A_come_to K)
  F_check_limits : FnP K "check_limits" "check_limits" s_check_limits [] (A_check_limits K)
  F_crossed : FnP K "crossed" "crossed" s_crossed [] (A_crossed K)
  F_lack_of : FnP K "lack_of" "lack_of" s_lack_of [] (A_lack_of K)
  F_missing_of : FnP K "missing_of" "missing_of" s_missing_of [] (A_missing_of K)
  F_least_missing : FnP K "least_missing" "least_missing" s_least_missing [] (A_least_missing K)
  F_check_readings : FnP K "check_readings" "check_readings" s_check_readings [] (A_check_readings K)
  F_limits_of : FnP K "limits_of" "limits_of" s_limits_of [] (A_limits_of K)
  F_flows_within : FnP K "flows_within" "flows_within" s_flows_within [] (A_flows_within K)
  F_paper_within : FnP K "paper_within" "paper_within" s_paper_within [] (A_paper_within K)
  F_shows_none : FnP K "shows_none" "shows_none" s_shows_none [] (A_shows_none K)
  F_flows_of : FnP K "flows_of" "flows_of" s_flows_of [] (A_flows_of K)
  F_overstep : FnP K "overstep" "overstep" s_overstep [] (A_overstep K)
  F_cost_of : FnP K "cost_of" "cost_of" s_cost_of [] (A_cost_of K)
  F_worst_of : FnP K "worst_of" "worst_of" s_worst_of [] (A_worst_of K)
  F_narrowed : FnP K "narrowed" "narrowed" s_narrowed [("worst", .non)] (A_narrowed K)
  F_slopes_of : FnP K "slopes_of" "slopes_of" s_slopes_of [] (A_slopes_of K)
  F_moves_of : FnP K "moves_of" "moves_of" s_moves_of [] (A_moves_of K)
  F_far_from : FnP K "far_from" "far_from" s_far_from [] (A_far_from K)
  F_l_way_back : FnP K "way_back" "way_back" s_l_way_back [] (A_l_way_back K)
  F_l_push : FnP K "push" "push" s_l_push [] (A_l_push K)
  F_least_flows : FnP K "least_flows" "least_flows" s_least_flows [("worst", .non)] (A_least_flows K)
  F_floors_of : FnP K "floors_of" "floors_of" s_floors_of [] (A_floors_of K)
  F_bound_of : FnP K "bound_of" "bound_of" s_bound_of [("worst", .non)] (A_bound_of K)
  F_shows_cost : FnP K "shows_cost" "shows_cost" s_shows_cost [("worst", .non)] (A_shows_cost K)
  F_format_plant : FnP K "format_plant" "format_plant" s_format_plant [] (A_format_plant K)
  F_format_readings : FnP K "format_readings" "format_readings" s_format_readings [] (A_format_readings K)
  F_least_cost : FnP K "least_cost" "least_cost" s_least_cost [] (A_least_cost K)
  F_found_answer : FnP K "found_answer" "found_answer" s_found_answer [] (A_found_answer K)
  F_copied : FnP K "copied" "copied" s_copied [] (A_copied K)
  F_deed_of : FnP K "deed_of" "deed_of" s_deed_of [] (A_deed_of K)
  F_flows_for : FnP K "flows_for" "flows_for" s_flows_for [] (A_flows_for K)
  F_least_worst : FnP K "least_worst" "least_worst" s_least_worst [] (A_least_worst K)
  F_shows_worst : FnP K "shows_worst" "shows_worst" s_shows_worst [] (A_shows_worst K)
  F_L_row : FnP K "_law_row" "_law_row" s_L_row [] (A_L_row K)
  F_L_numbers : FnP K "_law_numbers" "_law_numbers" s_L_numbers [] (A_L_numbers K)
  F_L_small : FnP K "_law_small" "_law_small" s_L_small [] (A_L_small K)
  F_L_metered : FnP K "_law_metered" "_law_metered" s_L_metered [] (A_L_metered K)
  F_L_all_flows : FnP K "_law_all_flows" "_law_all_flows" s_L_all_flows [] (A_L_all_flows K)
  F_L_shut_right : FnP K "_law_shut_right" "_law_shut_right" s_L_shut_right [] (A_L_shut_right K)
  F_L_limits : FnP K "_law_limits" "_law_limits" s_L_limits [] (A_L_limits K)
  F_L_answers : FnP K "_law_answers" "_law_answers" s_L_answers [] (A_L_answers K)
  F_L_told : FnP K "_law_told" "_law_told" s_L_told [] (A_L_told K)
  F_L_over : FnP K "_law_over" "_law_over" s_L_over [] (A_L_over K)
  F_L_refused : FnP K "_law_refused" "_law_refused" s_L_refused [] (A_L_refused K)
  F_L_law : FnP K "law" "law" s_L_law [] (A_L_law K)
  F_Plant_init : FnP K "__init__" "Plant.__init__" s_Plant_init [] (A_Plant_init K)
  F_Plant_stream_names : FnP K "stream_names" "Plant.stream_names" s_Plant_stream_names [] (A_Plant_stream_names K)
  F_Plant_check_knot : FnP K "check_knot" "Plant.check_knot" s_Plant_check_knot [] (A_Plant_check_knot K)
  F_Missing_init : FnP K "__init__" "Missing.__init__" s_Missing_init [] (A_Missing_init K)
  F_Least_init : FnP K "__init__" "Least.__init__" s_Least_init [] (A_Least_init K)
  F_Slope_init : FnP K "__init__" "Slope.__init__" s_Slope_init [] (A_Slope_init K)
  F_Slope_turns : FnP K "turns" "Slope.turns" s_Slope_turns [] (A_Slope_turns K)
  F_Slope_cost_at : FnP K "cost_at" "Slope.cost_at" s_Slope_cost_at [] (A_Slope_cost_at K)
  F_Slope_first : FnP K "first" "Slope.first" s_Slope_first [] (A_Slope_first K)
  F_Slope_rise : FnP K "rise" "Slope.rise" s_Slope_rise [] (A_Slope_rise K)
  F_Slope_fall : FnP K "fall" "Slope.fall" s_Slope_fall [] (A_Slope_fall K)
  F_Slope_charges : FnP K "charges" "Slope.charges" s_Slope_charges [] (A_Slope_charges K)
  F_Desk_init : FnP K "__init__" "Desk.__init__" s_Desk_init [] (A_Desk_init K)
  F_Desk_answer : FnP K "answer" "Desk.answer" s_Desk_answer [] (A_Desk_answer K)
  F_Session_init : FnP K "__init__" "Session.__init__" s_Session_init [] (A_Session_init K)
  F_Session_obey : FnP K "obey" "Session.obey" s_Session_obey [] (A_Session_obey K)
  F_Session_obeyed : FnP K "obeyed" "Session.obeyed" s_Session_obeyed [] (A_Session_obeyed K)
  F_Session_told : FnP K "told" "Session.told" s_Session_told [] (A_Session_told K)
  F_Worst_init : FnP K "__init__" "Worst.__init__" s_Worst_init [] (A_Worst_init K)
  p_Plant_knots : PropOf K (C_Plant K) "knots" (pA K "Plant" "knots") (A_Plant_knots K)
  F_Plant_knots : FnP K "knots" "Plant.knots" s_Plant_knots [] (A_Plant_knots K)
  p_Plant_streams : PropOf K (C_Plant K) "streams" (pA K "Plant" "streams") (A_Plant_streams K)
  F_Plant_streams : FnP K "streams" "Plant.streams" s_Plant_streams [] (A_Plant_streams K)
end M
end
-- part Head
section
set_option Elab.async false
set_option linter.all false
set_option maxRecDepth 100000
set_option maxHeartbeats 4000000
namespace M
open PySem PySem.Spec PyProof.Rows L2
def names0 : List PySem.Str := ["_wall", "MeterError", "InvalidPlant", "InvalidReadings", "NoFlows", "NothingToUndo", "NothingToRedo", "UnknownKnot", "UnknownStream", "NameTaken", "KnotInUse", "LETTERS"]
def names1 : List PySem.Str := ["MOST_FLOW", "MOST_KNOTS", "MOST_STREAMS", "is_name", "are_names", "is_stream", "Plant", "check_flows", "lacks", "is_balanced", "is_within", "is_lot"]
def names2 : List PySem.Str := ["leaving", "coming_into", "lines_of", "arcs_of", "way_between", "way_back", "way_back_pushes", "push", "push_pushes", "push_all", "leading_to", "led_from"]
def names3 : List PySem.Str := ["come_to", "Missing", "check_limits", "crossed", "lack_of", "missing_of", "least_missing", "check_readings", "limits_of", "with_reading", "without_reading", "LOT"]
def names4 : List PySem.Str := ["STREAM", "flows_within", "paper_within", "shows_none", "flows_of", "overstep", "cost_of", "worst_of", "narrowed", "Least", "Slope", "slopes_of"]
def names5 : List PySem.Str := ["moves_of", "far_from", "way_back_least", "push_least", "least_flows", "floors_of", "bound_of", "shows_cost", "DIGITS", "format_plant", "format_readings", "read_number"]
def names6 : List PySem.Str := ["Range", "pushed_to", "range_within", "ranges_of", "check_names", "ends_of", "steps_from", "levels_from", "ring_through", "bridges", "unmetered", "told_streams"]
def names7 : List PySem.Str := ["Trial", "least_cost", "found_answer", "copied", "Desk", "reply_to", "deed_of", "Session", "Worst", "flows_for", "least_worst", "shows_worst"]
def names8 : List PySem.Str := ["_law_row", "_law_numbers", "_law_small", "_law_metered", "_law_all_flows", "_law_shut_right", "_law_limits", "_law_answers", "_law_told", "_law_over", "_law_refused"]
def names : List PySem.Str := names0 ++ (names1 ++ (names2 ++ (names3 ++ (names4 ++ (names5 ++ (names6 ++ (names7 ++ (names8))))))))
abbrev R : PySem.W.OpenRow := PySem.W.OpenLaw.row PySem.Challenge.rw_metersure_k76_whole_least_corrections
abbrev AlM : Type := He.AlD × (Bool × List He.FnW)
def obsM (K : PySem.W.Frag) : AlM := (He.obsD fa fn K, gn.all (fun d => d.ok K), gn.map fun d => fnG K d)
def valM : AlM := (He.valD fn, true, gn.map GetD.val)
def dictRefs (o : Obj) : List Addr := match o.data with
  | .dict es _ => es.toList.flatMap fun e => He.refV e.val
  | _ => []
def fnRefs (o : Obj) : List Addr := match o.data with
  | .func fd => He.refV fd.code ++ He.refV fd.kwdefaults
  | .cls cd => cd.ns :: cd.mro.flatMap He.refV
  | .fields vs => (match o.cls with
    | .type "property" => vs.toList.flatMap He.refV
    | _ => [])
  | _ => []
def goes (g : Addr → Option Obj) (p : Obj → List Addr) (as : List Addr) : List Addr := as.flatMap fun a => match g a with
  | some o => p o
  | none => []
/-- the addresses that the facts look at: the module's names, their parts, the classes' names, their parts, the getters' code -/
def asM (g : Addr → Option Obj) : List Addr := mainGlobals :: (goes g dictRefs [mainGlobals] ++ (goes g fnRefs (goes g dictRefs [mainGlobals]) ++ (goes g dictRefs (goes g fnRefs (goes g dictRefs [mainGlobals])) ++
  (goes g fnRefs (goes g dictRefs (goes g fnRefs (goes g dictRefs [mainGlobals]))) ++ goes g fnRefs (goes g fnRefs (goes g dictRefs (goes g fnRefs (goes g dictRefs [mainGlobals]))))))))
def obsMG (g : Addr → Option Obj) : AlM := obsM (He.frG g (asM g))
def hookM : PySem.W.Hook where
  α := AlM
  obs := fun s => obsMG s.heap.get?
  val := fun _ => valM
  says := fun _ h => ∃ K : PySem.W.Frag, K.In h ∧ obsM K = valM
  of := fun _ _ e => ⟨_, He.frG_in, e⟩
  keeps := fun _ _ _ ⟨K, hK, c⟩ k => ⟨K, PySem.W.Frag.In.keeps hK k, c⟩
abbrev hk : PySem.W.Hook := hookM
def ob (s : PySem.W.SharedT) : AlM := obsMG (HandSHeadRun.getT s)
theorem ob_eq (s : PySem.W.SharedT) : ob s = hk.obs s.abs := by
  have e : HandSHeadRun.getT s = s.abs.heap.get? := funext (HandSHeadRun.getT_eq s)
  show obsMG (HandSHeadRun.getT s) = obsMG s.abs.heap.get?
  rw [e]
theorem tx_of {K : PySem.W.Frag} {h : Heap} {mg : Str → Option Value} (X : K.In h) (G : h.Ns mainGlobals mg) (e : obsM K = valM) : Tx K mg := by
  have c : He.SaysD fa fn K := congrArg (fun z : AlM => z.1) e
  have o0 : gn.all (fun d => d.ok K) = true := congrArg (fun z : AlM => z.2.1) e
  have g0 : gn.map (fun d => fnG K d) = gn.map GetD.val := congrArg (fun z : AlM => z.2.2) e
  have o : ∀ (i : Nat) {d : GetD}, gn[i]? = some d → d.ok K = true := fun i d h => List.all_eq_true.mp o0 d (List.mem_of_getElem? h)
  have g : ∀ (i : Nat) {d : GetD}, gn[i]? = some d → fnG K d = d.val := fun i d h => by
    have e2 : (gn.map fun d => fnG K d)[i]? = (gn.map GetD.val)[i]? := by rw [g0]
    rw [List.getElem?_map, List.getElem?_map, h] at e2
    exact Option.some.inj e2
  exact {
    g_is_name := He.glo_ok X G (c.fact 0 (f := .glo "is_name") rfl)
    g_are_names := He.glo_ok X G (c.fact 1 (f := .glo "are_names") rfl)
    g_is_stream := He.glo_ok X G (c.fact 2 (f := .glo "is_stream") rfl)
    g_check_flows := He.glo_ok X G (c.fact 3 (f := .glo "check_flows") rfl)
    g_lacks := He.glo_ok X G (c.fact 4 (f := .glo "lacks") rfl)
    g_is_balanced := He.glo_ok X G (c.fact 5 (f := .glo "is_balanced") rfl)
    g_is_within := He.glo_ok X G (c.fact 6 (f := .glo "is_within") rfl)
    g_is_lot := He.glo_ok X G (c.fact 7 (f := .glo "is_lot") rfl)
    g_leaving := He.glo_ok X G (c.fact 8 (f := .glo "leaving") rfl)
    g_coming_into := He.glo_ok X G (c.fact 9 (f := .glo "coming_into") rfl)
    g_lines_of := He.glo_ok X G (c.fact 10 (f := .glo "lines_of") rfl)
    g_arcs_of := He.glo_ok X G (c.fact 11 (f := .glo "arcs_of") rfl)
    g_way_between := He.glo_ok X G (c.fact 12 (f := .glo "way_between") rfl)
    g_p_way_back := He.glo_ok X G (c.fact 13 (f := .glo "way_back_pushes") rfl)
    g_p_push := He.glo_ok X G (c.fact 14 (f := .glo "push_pushes") rfl)
    g_leading_to := He.glo_ok X G (c.fact 15 (f := .glo "leading_to") rfl)
    g_led_from := He.glo_ok X G (c.fact 16 (f := .glo "led_from") rfl)
    g_come_to := He.glo_ok X G (c.fact 17 (f := .glo "come_to") rfl)
    g_check_limits := He.glo_ok X G (c.fact 18 (f := .glo "check_limits") rfl)
    g_crossed := He.glo_ok X G (c.fact 19 (f := .glo "crossed") rfl)
    g_lack_of := He.glo_ok X G (c.fact 20 (f := .glo "lack_of") rfl)
    g_missing_of := He.glo_ok X G (c.fact 21 (f := .glo "missing_of") rfl)
    g_least_missing := He.glo_ok X G (c.fact 22 (f := .glo "least_missing") rfl)
    g_check_readings := He.glo_ok X G (c.fact 23 (f := .glo "check_readings") rfl)
    g_limits_of := He.glo_ok X G (c.fact 24 (f := .glo "limits_of") rfl)
    g_flows_within := He.glo_ok X G (c.fact 25 (f := .glo "flows_within") rfl)
    g_paper_within := He.glo_ok X G (c.fact 26 (f := .glo "paper_within") rfl)
    g_shows_none := He.glo_ok X G (c.fact 27 (f := .glo "shows_none") rfl)
    g_flows_of := He.glo_ok X G (c.fact 28 (f := .glo "flows_of") rfl)
    g_overstep := He.glo_ok X G (c.fact 29 (f := .glo "overstep") rfl)
    g_cost_of := He.glo_ok X G (c.fact 30 (f := .glo "cost_of") rfl)
    g_worst_of := He.glo_ok X G (c.fact 31 (f := .glo "worst_of") rfl)
    g_narrowed := He.glo_ok X G (c.fact 32 (f := .glo "narrowed") rfl)
    g_slopes_of := He.glo_ok X G (c.fact 33 (f := .glo "slopes_of") rfl)
    g_moves_of := He.glo_ok X G (c.fact 34 (f := .glo "moves_of") rfl)
    g_far_from := He.glo_ok X G (c.fact 35 (f := .glo "far_from") rfl)
    g_l_way_back := He.glo_ok X G (c.fact 36 (f := .glo "way_back_least") rfl)
    g_l_push := He.glo_ok X G (c.fact 37 (f := .glo "push_least") rfl)
    g_least_flows := He.glo_ok X G (c.fact 38 (f := .glo "least_flows") rfl)
    g_floors_of := He.glo_ok X G (c.fact 39 (f := .glo "floors_of") rfl)
    g_bound_of := He.glo_ok X G (c.fact 40 (f := .glo "bound_of") rfl)
    g_shows_cost := He.glo_ok X G (c.fact 41 (f := .glo "shows_cost") rfl)
    g_format_plant := He.glo_ok X G (c.fact 42 (f := .glo "format_plant") rfl)
    g_format_readings := He.glo_ok X G (c.fact 43 (f := .glo "format_readings") rfl)
    g_least_cost := He.glo_ok X G (c.fact 44 (f := .glo "least_cost") rfl)
    g_found_answer := He.glo_ok X G (c.fact 45 (f := .glo "found_answer") rfl)
    g_copied := He.glo_ok X G (c.fact 46 (f := .glo "copied") rfl)
    g_deed_of := He.glo_ok X G (c.fact 47 (f := .glo "deed_of") rfl)
    g_flows_for := He.glo_ok X G (c.fact 48 (f := .glo "flows_for") rfl)
    g_least_worst := He.glo_ok X G (c.fact 49 (f := .glo "least_worst") rfl)
    g_shows_worst := He.glo_ok X G (c.fact 50 (f := .glo "shows_worst") rfl)
    g_L_row := He.glo_ok X G (c.fact 51 (f := .glo "_law_row") rfl)
    g_L_numbers := He.glo_ok X G (c.fact 52 (f := .glo "_law_numbers") rfl)
    g_L_small := He.glo_ok X G (c.fact 53 (f := .glo "_law_small") rfl)
    g_L_metered := He.glo_ok X G (c.fact 54 (f := .glo "_law_metered") rfl)
    g_L_all_flows := He.glo_ok X G (c.fact 55 (f := .glo "_law_all_flows") rfl)
    g_L_shut_right := He.glo_ok X G (c.fact 56 (f := .glo "_law_shut_right") rfl)
    g_L_limits := He.glo_ok X G (c.fact 57 (f := .glo "_law_limits") rfl)
    g_L_answers := He.glo_ok X G (c.fact 58 (f := .glo "_law_answers") rfl)
    g_L_told := He.glo_ok X G (c.fact 59 (f := .glo "_law_told") rfl)
    g_L_over := He.glo_ok X G (c.fact 60 (f := .glo "_law_over") rfl)
    g_L_refused := He.glo_ok X G (c.fact 61 (f := .glo "_law_refused") rfl)
    g_L_law := He.glo_ok X G (c.fact 62 (f := .glo "law") rfl)
    g_Plant := He.glo_ok X G (c.fact 63 (f := .glo "Plant") rfl)
    g_Missing := He.glo_ok X G (c.fact 64 (f := .glo "Missing") rfl)
    g_Least := He.glo_ok X G (c.fact 65 (f := .glo "Least") rfl)
    g_Slope := He.glo_ok X G (c.fact 66 (f := .glo "Slope") rfl)
    g_Desk := He.glo_ok X G (c.fact 67 (f := .glo "Desk") rfl)
    g_Session := He.glo_ok X G (c.fact 68 (f := .glo "Session") rfl)
    g_Worst := He.glo_ok X G (c.fact 69 (f := .glo "Worst") rfl)
    g_NoFlows := He.glo_ok X G (c.fact 70 (f := .glo "NoFlows") rfl)
    g_MeterError := He.glo_ok X G (c.fact 71 (f := .glo "MeterError") rfl)
    b_len := He.free_ok X G (c.fact 72 (f := .free "len") rfl)
    b_all := He.free_ok X G (c.fact 73 (f := .free "all") rfl)
    b_set := He.free_ok X G (c.fact 74 (f := .free "set") rfl)
    b_sorted := He.free_ok X G (c.fact 75 (f := .free "sorted") rfl)
    b_list := He.free_ok X G (c.fact 76 (f := .free "list") rfl)
    b_dict := He.free_ok X G (c.fact 77 (f := .free "dict") rfl)
    b_max := He.free_ok X G (c.fact 78 (f := .free "max") rfl)
    b_min := He.free_ok X G (c.fact 79 (f := .free "min") rfl)
    b_sum := He.free_ok X G (c.fact 80 (f := .free "sum") rfl)
    b_abs := He.free_ok X G (c.fact 81 (f := .free "abs") rfl)
    b_any := He.free_ok X G (c.fact 82 (f := .free "any") rfl)
    b_range := He.free_ok X G (c.fact 83 (f := .free "range") rfl)
    b_isinstance := He.free_ok X G (c.fact 84 (f := .free "isinstance") rfl)
    b_str := He.free_ok X G (c.fact 85 (f := .free "str") rfl)
    b_int := He.free_ok X G (c.fact 86 (f := .free "int") rfl)
    i_MOST_FLOW := He.int_ok X G (c.fact 87 (f := .int "MOST_FLOW" 1000000) rfl)
    i_MOST_KNOTS := He.int_ok X G (c.fact 88 (f := .int "MOST_KNOTS" 24) rfl)
    i_MOST_STREAMS := He.int_ok X G (c.fact 89 (f := .int "MOST_STREAMS" 60) rfl)
    i_LETTERS := He.str_ok X G (c.fact 90 (f := .str "LETTERS" "abcdefghijklmnopqrstuvwxyz0123456789") rfl)
    i_LOT := He.str_ok X G (c.fact 91 (f := .str "LOT" "lot") rfl)
    i_STREAM := He.str_ok X G (c.fact 92 (f := .str "STREAM" "stream") rfl)
    c_Plant := He.cls_ok (c.fact 93 (f := .cls "Plant") rfl)
    k_Plant := He.mkr_ok (c.fact 94 (f := .mkr "Plant") rfl)
    n_Plant__knots := He.noat_ok (c.fact 95 (f := .noat "Plant" "_knots") rfl)
    n_Plant__streams := He.noat_ok (c.fact 96 (f := .noat "Plant" "_streams") rfl)
    c_Missing := He.cls_ok (c.fact 97 (f := .cls "Missing") rfl)
    k_Missing := He.mkr_ok (c.fact 98 (f := .mkr "Missing") rfl)
    n_Missing_number := He.noat_ok (c.fact 99 (f := .noat "Missing" "number") rfl)
    n_Missing_flows := He.noat_ok (c.fact 100 (f := .noat "Missing" "flows") rfl)
    n_Missing_least := He.noat_ok (c.fact 101 (f := .noat "Missing" "least") rfl)
    n_Missing_greatest := He.noat_ok (c.fact 102 (f := .noat "Missing" "greatest") rfl)
    c_Least := He.cls_ok (c.fact 103 (f := .cls "Least") rfl)
    k_Least := He.mkr_ok (c.fact 104 (f := .mkr "Least") rfl)
    n_Least_flows := He.noat_ok (c.fact 105 (f := .noat "Least" "flows") rfl)
    n_Least_cost := He.noat_ok (c.fact 106 (f := .noat "Least" "cost") rfl)
    n_Least_heights := He.noat_ok (c.fact 107 (f := .noat "Least" "heights") rfl)
    c_Slope := He.cls_ok (c.fact 108 (f := .cls "Slope") rfl)
    k_Slope := He.mkr_ok (c.fact 109 (f := .mkr "Slope") rfl)
    n_Slope_low := He.noat_ok (c.fact 110 (f := .noat "Slope" "low") rfl)
    n_Slope_high := He.noat_ok (c.fact 111 (f := .noat "Slope" "high") rfl)
    n_Slope_reading := He.noat_ok (c.fact 112 (f := .noat "Slope" "reading") rfl)
    n_Slope_price := He.noat_ok (c.fact 113 (f := .noat "Slope" "price") rfl)
    c_Desk := He.cls_ok (c.fact 114 (f := .cls "Desk") rfl)
    k_Desk := He.mkr_ok (c.fact 115 (f := .mkr "Desk") rfl)
    n_Desk_state := He.noat_ok (c.fact 116 (f := .noat "Desk" "state") rfl)
    n_Desk_past := He.noat_ok (c.fact 117 (f := .noat "Desk" "past") rfl)
    n_Desk_future := He.noat_ok (c.fact 118 (f := .noat "Desk" "future") rfl)
    n_Desk_known := He.noat_ok (c.fact 119 (f := .noat "Desk" "known") rfl)
    c_Session := He.cls_ok (c.fact 120 (f := .cls "Session") rfl)
    k_Session := He.mkr_ok (c.fact 121 (f := .mkr "Session") rfl)
    n_Session_desk := He.noat_ok (c.fact 122 (f := .noat "Session" "desk") rfl)
    c_Worst := He.cls_ok (c.fact 123 (f := .cls "Worst") rfl)
    k_Worst := He.mkr_ok (c.fact 124 (f := .mkr "Worst") rfl)
    n_Worst_number := He.noat_ok (c.fact 125 (f := .noat "Worst" "number") rfl)
    n_Worst_flows := He.noat_ok (c.fact 126 (f := .noat "Worst" "flows") rfl)
    n_Worst_paper := He.noat_ok (c.fact 127 (f := .noat "Worst" "paper") rfl)
    m_Plant_stream_names := He.meth_ok (c.fact 128 (f := .meth "Plant" "stream_names") rfl)
    m_Plant_check_knot := He.meth_ok (c.fact 129 (f := .meth "Plant" "check_knot") rfl)
    m_Slope_turns := He.meth_ok (c.fact 130 (f := .meth "Slope" "turns") rfl)
    m_Slope_cost_at := He.meth_ok (c.fact 131 (f := .meth "Slope" "cost_at") rfl)
    m_Slope_first := He.meth_ok (c.fact 132 (f := .meth "Slope" "first") rfl)
    m_Slope_rise := He.meth_ok (c.fact 133 (f := .meth "Slope" "rise") rfl)
    m_Slope_fall := He.meth_ok (c.fact 134 (f := .meth "Slope" "fall") rfl)
    m_Slope_charges := He.meth_ok (c.fact 135 (f := .meth "Slope" "charges") rfl)
    m_Desk_answer := He.meth_ok (c.fact 136 (f := .meth "Desk" "answer") rfl)
    m_Session_obey := He.meth_ok (c.fact 137 (f := .meth "Session" "obey") rfl)
    m_Session_obeyed := He.meth_ok (c.fact 138 (f := .meth "Session" "obeyed") rfl)
    m_Session_told := He.meth_ok (c.fact 139 (f := .meth "Session" "told") rfl)
    x_NoFlows := He.exc_ok (c.fact 140 (f := .exc "NoFlows") rfl)
    e_NoFlows := He.exm_ok (c.fact 141 (f := .exm "NoFlows" "NoFlows" true) rfl)
    F_is_name := c.def_ 0 (d := d_is_name) rfl
    F_are_names := c.def_ 1 (d := d_are_names) rfl
    F_is_stream := c.def_ 2 (d := d_is_stream) rfl
    F_check_flows := c.def_ 3 (d := d_check_flows) rfl
    F_lacks := c.def_ 4 (d := d_lacks) rfl
    F_is_balanced := c.def_ 5 (d := d_is_balanced) rfl
    F_is_within := c.def_ 6 (d := d_is_within) rfl
    F_is_lot := c.def_ 7 (d := d_is_lot) rfl
    F_leaving := c.def_ 8 (d := d_leaving) rfl
    F_coming_into := c.def_ 9 (d := d_coming_into) rfl
    F_lines_of := c.def_ 10 (d := d_lines_of) rfl
    F_arcs_of := c.def_ 11 (d := d_arcs_of) rfl
    F_way_between := c.def_ 12 (d := d_way_between) rfl
    F_p_way_back := c.def_ 13 (d := d_p_way_back) rfl
    F_p_push := c.def_ 14 (d := d_p_push) rfl
    F_leading_to := c.def_ 15 (d := d_leading_to) rfl
    F_led_from := c.def_ 16 (d := d_led_from) rfl
    F_come_to := c.def_ 17 (d := d_come_to) rfl
    F_check_limits := c.def_ 18 (d := d_check_limits) rfl
    F_crossed := c.def_ 19 (d := d_crossed) rfl
    F_lack_of := c.def_ 20 (d := d_lack_of) rfl
    F_missing_of := c.def_ 21 (d := d_missing_of) rfl
    F_least_missing := c.def_ 22 (d := d_least_missing) rfl
    F_check_readings := c.def_ 23 (d := d_check_readings) rfl
    F_limits_of := c.def_ 24 (d := d_limits_of) rfl
    F_flows_within := c.def_ 25 (d := d_flows_within) rfl
    F_paper_within := c.def_ 26 (d := d_paper_within) rfl
    F_shows_none := c.def_ 27 (d := d_shows_none) rfl
    F_flows_of := c.def_ 28 (d := d_flows_of) rfl
    F_overstep := c.def_ 29 (d := d_overstep) rfl
    F_cost_of := c.def_ 30 (d := d_cost_of) rfl
    F_worst_of := c.def_ 31 (d := d_worst_of) rfl
    F_narrowed := c.def_ 32 (d := d_narrowed) rfl
    F_slopes_of := c.def_ 33 (d := d_slopes_of) rfl
    F_moves_of := c.def_ 34 (d := d_moves_of) rfl
    F_far_from := c.def_ 35 (d := d_far_from) rfl
    F_l_way_back := c.def_ 36 (d := d_l_way_back) rfl
    F_l_push := c.def_ 37 (d := d_l_push) rfl
    F_least_flows := c.def_ 38 (d := d_least_flows) rfl
    F_floors_of := c.def_ 39 (d := d_floors_of) rfl
    F_bound_of := c.def_ 40 (d := d_bound_of) rfl
    F_shows_cost := c.def_ 41 (d := d_shows_cost) rfl
    F_format_plant := c.def_ 42 (d := d_format_plant) rfl
    F_format_readings := c.def_ 43 (d := d_format_readings) rfl
    F_least_cost := c.def_ 44 (d := d_least_cost) rfl
    F_found_answer := c.def_ 45 (d := d_found_answer) rfl
    F_copied := c.def_ 46 (d := d_copied) rfl
    F_deed_of := c.def_ 47 (d := d_deed_of) rfl
    F_flows_for := c.def_ 48 (d := d_flows_for) rfl
    F_least_worst := c.def_ 49 (d := d_least_worst) rfl
    F_shows_worst := c.def_ 50 (d := d_shows_worst) rfl
    F_L_row := c.def_ 51 (d := d_L_row) rfl
    F_L_numbers := c.def_ 52 (d := d_L_numbers) rfl
    F_L_small := c.def_ 53 (d := d_L_small) rfl
    F_L_metered := c.def_ 54 (d := d_L_metered) rfl
    F_L_all_flows := c.def_ 55 (d := d_L_all_flows) rfl
    F_L_shut_right := c.def_ 56 (d := d_L_shut_right) rfl
    F_L_limits := c.def_ 57 (d := d_L_limits) rfl
    F_L_answers := c.def_ 58 (d := d_L_answers) rfl
    F_L_told := c.def_ 59 (d := d_L_told) rfl
    F_L_over := c.def_ 60 (d := d_L_over) rfl
    F_L_refused := c.def_ 61 (d := d_L_refused) rfl
    F_L_law := c.def_ 62 (d := d_L_law) rfl
    F_Plant_init := c.def_ 63 (d := d_Plant_init) rfl
    F_Plant_stream_names := c.def_ 64 (d := d_Plant_stream_names) rfl
    F_Plant_check_knot := c.def_ 65 (d := d_Plant_check_knot) rfl
    F_Missing_init := c.def_ 66 (d := d_Missing_init) rfl
    F_Least_init := c.def_ 67 (d := d_Least_init) rfl
    F_Slope_init := c.def_ 68 (d := d_Slope_init) rfl
    F_Slope_turns := c.def_ 69 (d := d_Slope_turns) rfl
    F_Slope_cost_at := c.def_ 70 (d := d_Slope_cost_at) rfl
    F_Slope_first := c.def_ 71 (d := d_Slope_first) rfl
    F_Slope_rise := c.def_ 72 (d := d_Slope_rise) rfl
    F_Slope_fall := c.def_ 73 (d := d_Slope_fall) rfl
    F_Slope_charges := c.def_ 74 (d := d_Slope_charges) rfl
    F_Desk_init := c.def_ 75 (d := d_Desk_init) rfl
    F_Desk_answer := c.def_ 76 (d := d_Desk_answer) rfl
    F_Session_init := c.def_ 77 (d := d_Session_init) rfl
    F_Session_obey := c.def_ 78 (d := d_Session_obey) rfl
    F_Session_obeyed := c.def_ 79 (d := d_Session_obeyed) rfl
    F_Session_told := c.def_ 80 (d := d_Session_told) rfl
    F_Worst_init := c.def_ 81 (d := d_Worst_init) rfl
    p_Plant_knots := (GetD.says (d := q_Plant_knots) (g 0 rfl) (o 0 rfl)).1
    F_Plant_knots := (GetD.says (d := q_Plant_knots) (g 0 rfl) (o 0 rfl)).2
    p_Plant_streams := (GetD.says (d := q_Plant_streams) (g 1 rfl) (o 1 rfl)).1
    F_Plant_streams := (GetD.says (d := q_Plant_streams) (g 1 rfl) (o 1 rfl)).2
  }
theorem run (w : World) : HandSHeadRun.RunEq R (PySem.W.view R.prog [124]) hk ob 100000 names w := by
  intro os
  kernel_rfl
end M
end
-- part RA
section
set_option Elab.async false
set_option linter.all false
set_option maxRecDepth 100000
set_option maxHeartbeats 4000000
namespace M
open PySem PySem.Spec PyProof.Rows L2
/-! ### a thing that is made on the way, locked from there on -/
def tFrz (t : TE) : TE := fun σ H Q => t σ H fun v H1 => ∃ d u, v = .ref d ∧ H1 d = some u ∧ Mut (some u) ∧ ∀ od, Q v (upd H1 d (.frz od u))
theorem pe_frz {X : Cx} {e : Expr} {t : TE} (he : PE X e t) : PE X e (tFrz t) := by
  refine ⟨fun pins s σ H Q I hw => thn (he.run pins s σ H _ I hw) ?_⟩
  rintro v s1 ⟨x, H1, I1, r, d, u, ex, hd, mu, q⟩
  obtain ⟨od, I2⟩ := I1.lock hd mu
  exact ⟨x, _, I2, r, q od⟩
/-! ### a target that is an attribute -/
def gAtr (K : PySem.W.Frag) (f : Str) (to : TE) : TG := fun y σ H Q => to σ H fun x H1 => ∃ a C dx fs, x = .ref a ∧ H1 a = some (.ins C dx fs) ∧ Cls K C ∧ NoAttr K C f ∧ fs.length < 1000 ∧ Q σ (upd H1 a (.ins C dx (putF f y fs)))
theorem pg_atr {X : Cx} {o : Expr} {f : Str} {to : TE} {pos : Pos} (ho : PE X o to) : PG X (.Attribute o f pos) (gAtr X.K f to) := by
  refine ⟨fun pins s σ H v u Q I r h => ?_⟩
  rw [assign_Attribute]
  refine wpAny_bind (wpAny_holding (thn (ho.run pins s σ H _ I h) fun ov s1 hx => ?_))
  obtain ⟨x, H1, I1, rx, a, C, dx, fs, ex, ea, c, n, l, q⟩ := hx
  subst ex
  obtain rfl : ov = Value.ref a := rx
  refine wpAny_bind (wpAny_standAt (wpAny_bind (wpAny_holding ?_)))
  exact setattr_ok I1 ea c n l r fun s2 I2 => wpAny_release ⟨σ, _, I2, q⟩
/-! ### a op1 b op2 c op3 d -/
def tChain3 (r r' r'' : R2) (ta tb tc td : TE) : TE := fun σ H Q => ta σ H fun x H1 => tb σ H1 fun y H2 => r x y H2 fun z H3 => ∃ k, z = .bl k ∧
  (if k = true then tc σ H3 fun w H4 => r' y w H4 fun z2 H5 => ∃ k2, z2 = .bl k2 ∧ (if k2 = true then td σ H5 fun w2 H6 => r'' w w2 H6 Q else Q (.bl false) H5) else Q (.bl false) H3)
theorem pe_chain3 {X : Cx} {a b c d : Expr} {ta tb tc td : TE} {pos : Pos} {o1 o2 o3 : CmpOp} {r r' r'' : R2} (h1 : OpR X (compareOp o1) r) (h2 : OpR X (compareOp o2) r') (h3 : OpR X (compareOp o3) r'') (ha : PE X a ta) (hb : PE X b tb) (hc : PE X c tc) (hd : PE X d td)
    (hm : lastMarks [o1, o2, o3] [b, c, d] = false := by with_unfolding_all rfl) : PE X (.Compare a [o1, o2, o3] [b, c, d] pos) (tChain3 r r' r'' ta tb tc td) := by
  refine ⟨fun pins s σ H Q I h => Compare_chain (thn (ha.run pins s σ H _ I h) ?_) hm⟩
  rintro v s1 ⟨x, H1, I1, r1, q1⟩
  refine chain_link (thn (hb.run pins s1 σ H1 _ I1 q1) ?_)
  rintro u s2 ⟨y, H2, I2, r2, q2⟩
  refine thn (h1 pins s2 σ H2 x y v u _ I2 r1 r2 q2) ?_
  rintro t s3 ⟨z, H3, I3, r3, k, e, q3⟩
  subst e
  cases r3
  refine wpAny_truthy_bool ?_
  cases k with
  | false => exact ite_ff ⟨.bl false, H3, I3, rfl, q3⟩
  | true =>
    refine ite_tt (chain_link (thn (hc.run pins s3 σ H3 _ I3 q3) ?_))
    rintro u3 s4 ⟨y3, H4, I4, r4, q4⟩
    refine thn (h2 pins s4 σ H4 y y3 u u3 _ I4 r2 r4 q4) ?_
    rintro t4 s5 ⟨z5, H5, I5, r5, k5, e5, q5⟩
    subst e5
    cases r5
    refine wpAny_truthy_bool ?_
    cases k5 with
    | false => exact ite_ff ⟨.bl false, H5, I5, rfl, q5⟩
    | true =>
      refine ite_tt (chain_last (thn (hd.run pins s5 σ H5 _ I5 q5) ?_))
      rintro u6 s6 ⟨y6, H6, I6, r6, q6⟩
      exact h3 pins s6 σ H6 y3 y6 u3 u6 Q I6 r4 r6 q6
/-! ### y = {k: v for ..} -/
theorem sw_dict {kx vx : Expr} {gs : List Comprehension} {scope : Scope} {pos py : Pos} {y : Str} {l : Nat} {env : Env} (hk : env.scope.kind = .function) (hy : env.scope.names.lookup y = some .local)
    (hl : (py.line == pos.line) = true) (ha : (scope.names.any fun z => z.1 == y && (z.2 == .local || z.2 == .cell)) = false) : swapsWith (.DictComp kx vx gs scope pos) (some (.Name y py)) l env = pure true := by
  have ky : env.kindOf y = some .local := hy
  have hb : env.blockKind = .function := by
    unfold Env.blockKind
    rw [hk] <;> rfl
  unfold swapsWith
  simp only [hb, ky, ha, Expr.pos, hl] <;> rfl
theorem ps_setDc {X : Cx} {i : Nat} {y : Str} {py : Pos} {kx vx tg iter : Expr} {ifs : List Expr} {scope : Scope} {own : List (Str × Nat)} {pos spos : Pos} {wi : TI} {g : TG} {tt : TT} {tk tv : TE} (hc : X.calm = true) (hN : X.N.Nodup)
    (hy : X.N[i]? = some y) (hyl : X.env.scope.names.lookup y = some .local) (hsw : swapsWith (.DictComp kx vx [⟨tg, iter, ifs, 0⟩] scope pos) (some (.Name y py)) spos.line X.env = pure true)
    (hi : PI X tg iter wi) (ok : BlkOk X.N X.env.scope scope own)
    (hg : ∀ (s : Shared) (H : Hp) (C : Addr) (cl : List (Str × Addr)) (fp : List Addr), PG (X.blk s H scope (compEnvC scope cl C X.env) fp) tg g)
    (ht : ∀ (s : Shared) (H : Hp) (C : Addr) (cl : List (Str × Addr)) (fp : List Addr), PTs (X.blk s H scope (compEnvC scope cl C X.env) fp) ifs tt)
    (hk : ∀ (s : Shared) (H : Hp) (C : Addr) (cl : List (Str × Addr)) (fp : List Addr), PE (X.blk s H scope (compEnvC scope cl C X.env) fp) kx tk)
    (he : ∀ (s : Shared) (H : Hp) (C : Addr) (cl : List (Str × Addr)) (fp : List Addr), PE (X.blk s H scope (compEnvC scope cl C X.env) fp) vx tv) (hs : ∀ x, foldedSetIterable iter X.env x = pure x := by intro _; rfl) :
    PS X (.Assign [.Name y py] (.DictComp kx vx [⟨tg, iter, ifs, 0⟩] scope pos) spos) (tAsg (tDc wi g tt tk tv (own.map (·.2))) (gName i)) := by
  refine ⟨fun pins s σ H D I h => ?_⟩
  rw [exec_Assign_Name_used _ _ _ _ hsw]
  refine wpAny_bind (wpAny_standAt (wpAny_bind ?_))
  show wpAny _ X.A (do let _ ← comprehension (.DictComp kx vx [⟨tg, iter, ifs, 0⟩] scope pos) scope X.env (firstIterPos [⟨tg, iter, ifs, 0⟩] pos) newDict false (eval iter X.env) (some (assign (.Name y py) X.env))) _ _ s
  have h2 : tDc wi g tt tk tv (own.map (·.2)) σ H (fun x H1 => gName i x σ H1 D.nx) := h
  refine wpAny_bind (thn (dc_core (Qf := fun _ s' => SP X pins D .next s') hc hN I hi ok hg ht hk he hs h2 ?_) fun _ s' hq => wpAny_pure (wpAny_pure hq))
  intro L C s' m H' I' q hn f
  show wpAny _ _ (assign (.Name y py) X.env (.ref L)) _ _ _
  refine wpAny_assign_Name (store_ok2 (v := V.ref L) I' hN hy (.inl hyl) rfl ?_ (.inr hyl))
  rintro s2 I2 ⟨a, sb, ha⟩
  obtain ⟨f0, f1, f2, f3, f4, f5⟩ := f
  have haC : C ≠ a := ha.elim (fun z => by rw [z]; exact f1) fun z e => f4 y a z e.symm
  exact ⟨m, hn.sameBut sb haC, fun h3 sb3 => ⟨_, H', I2.turned (t' := s2.toks) (fun b o hb e => (sb3.2 b hb).trans e) f0 f1 f3 f4 f5, q⟩⟩
end M
end
-- part RB
section
set_option Elab.async false
set_option linter.all false
set_option maxRecDepth 100000
set_option maxHeartbeats 4000000
namespace M
open PySem PySem.Spec PyProof.Rows L2
/-! ### d.values() as a value; any of them -/
def tView (t : TE) : TE := fun σ H Q => t σ H fun v H1 => ∃ d kvs, v = .ref d ∧ Rd H1 d (.dK kvs) ∧ ∀ p, H1 p = none → Q (.ref p) (upd H1 p (viewO "dict_values" p d))
theorem pe_view {X : Cx} {e : Expr} {t : TE} {apos cpos : Pos} (he : PE X e t) (hbase : attributeBase e "values" X.env (eval e X.env) = eval e X.env := by rfl) (hline : (apos.endLine == cpos.line) = true := by rfl) :
    PE X (.Call (.Attribute e "values" apos) [] [] cpos) (tView t) := by
  refine ⟨fun pins s σ H Q I h => ?_⟩
  refine wpAny_Call_method (T := "dict") (id := "dict.values") hbase rfl hline PySem.F.plainAttrs_dict PySem.F.slot_dict_values PySem.F.type_dict_values (thn (he.run pins s σ H _ I h) ?_)
  rintro u s1 ⟨x, H1, I1, rx, d, kvs, ex, hd, q⟩
  subst ex
  obtain rfl : u = Value.ref d := rx
  obtain ⟨hz, hs, vs, kv, hm⟩ := dk_rd I1.hok hd
  refine ⟨hm.typeIs, hm.mapOf.noDict, ?_⟩
  show wpAny _ _ (callWith cpos (.builtin "dict.values") [.ref d] [] []) _ X.xe s1
  refine PySem.method_meetsIn PySem.F.slot_dict_values PySem.F.entry_dict_values rfl (PySem.evalArgs_none ⟨rfl, hm.typeIs, PySem.F.args_dict_values_1 _, _, meets_dict_values (mixKind X.prog X.w) d hs, ⟨vs, hm⟩, ?_⟩)
  exact ⟨.ref s1.heap.objs.size, _, I1.laid (t' := s1.toks) (fun b o z => Heap.get?_push_of_some _ z) (Nat.le_refl _) (viewO_ok (Heap.get?_push_size _ rfl)), rfl, q _ (I1.hok.fresh (Nat.le_refl _))⟩
def rAnyV : List V → Hp → VK → Prop := fun xs H Q => ∃ (p d : Addr) (kvs : List (Key × V)) (ns : List Int), xs = [.ref p] ∧ H p = some (viewO "dict_values" p d) ∧ Rd H d (.dK kvs) ∧ kvs.map Prod.snd = ns.map V.int ∧ Q (.bl (ns.any fun i => i != 0)) H
theorem any_getD (f : Int → Bool) (ns : List Int) : (List.range ns.length).any (fun i => f (ns.getD i 0)) = ns.any f := by
  have e : (List.range ns.length).map (fun i => ns.getD i 0) = ns := by
    refine List.ext_getElem (by simp) fun i h1 h2 => ?_
    simp [h2]
  conv => rhs; rw [← e]
  rw [List.any_map]
  rfl
theorem cr_anyV {X : Cx} (hc : X.calm = true) : CallR X (.builtin "any") rAnyV := by
  intro pins s σ H xs us Q I rx h
  obtain ⟨p, d, kvs, ns, rfl, hp, hd, hns, q⟩ := h
  rw [Vals.ref1 rx]
  obtain ⟨hz, hs, vs, kv, hm⟩ := dk_rd I.hok hd
  obtain ⟨ep, hat⟩ : ∃ ep, s.heap.DictAt (mixKind X.prog X.w) d vs ep := by
    obtain ⟨o, es, ep, a1, a2, a3, a4⟩ := hm
    exact ⟨ep, o, es, a1, a2, a3, a4⟩
  have hv : s.heap.get? p = some (DSub.viewOb "dict_values" d) := (show ObjOk X.prog X.w H s.heap p (viewO "dict_values" p d) from I.hok p _ hp).1
  have hl : kvs.length = vs.length := Paired.length kv
  have hln : ns.length = vs.length := by
    have e := congrArg List.length hns
    rw [List.length_map, List.length_map] at e
    omega
  have hdlt : d < s.heap.objs.size := by
    obtain ⟨o, _, a1, _⟩ := id hat
    exact Heap.lt_size a1
  refine call_any_walk (wpAny_pyIter_values (knd := mixKind X.prog X.w) ⟨_, hv, rfl, rfl⟩ hat ?_)
  refine ⟨_, _, _, _, _, _, fun i => ns.getD i 0 != 0, rfl, Walks.dictValues (knd := mixKind X.prog X.w) (show X.A.in1.handled = none from I.ok.hd hc) s.heap.objs.size d (Nat.ne_of_lt hdlt) vs ep, ⟨⟨_, Heap.get?_push_size _ rfl, rfl, rfl⟩, hat.push _⟩, ?_, ?_⟩
  · rintro i v s' Q' E' ⟨k, hk⟩ hq
    have hi : i < vs.length := (List.getElem?_eq_some_iff.mp hk).1
    have hi2 : i < kvs.length := by omega
    have hi3 : i < ns.length := by omega
    obtain ⟨u, hu, ru⟩ := kv_get (i := i) (k := kvs[i].1) (v := kvs[i].2) kv (List.getElem?_eq_getElem hi2)
    have e2 : kvs[i].2 = V.int ns[i] := by
      have z : (kvs.map Prod.snd)[i]? = (ns.map V.int)[i]? := by rw [hns]
      rw [List.getElem?_map, List.getElem?_map, List.getElem?_eq_getElem hi2, List.getElem?_eq_getElem hi3] at z
      exact Option.some.inj z
    rw [hk] at hu
    have e3 : v = u := congrArg Prod.snd (Option.some.inj hu)
    rw [e2] at ru
    obtain ⟨t, rfl⟩ := ru
    rw [e3]
    have e4 : ns.getD i 0 = ns[i] := by rw [List.getD_eq_getElem?_getD, List.getElem?_eq_getElem hi3] <;> rfl
    refine PySem.P.truthy_int ?_
    rw [← e4]
    exact hq
  · intro h' tk hk
    refine ⟨.bl _, H, I.kept (t' := tk) fun b o eo => hk b o (fun hmem => ?_) (Heap.get?_push_of_some _ eo), ?_, q⟩
    · rcases List.mem_cons.mp hmem with e1 | hmem
      · exact absurd (e1 ▸ Heap.lt_size eo) (Nat.lt_irrefl _)
      · cases hmem
    · show Value.bool _ = Value.bool _
      rw [← any_getD (fun i => i != 0) ns, hln]
/-! ### min of a list of data with an order -/
open PySem.W in
theorem datum_inj {α : Type} [DecidableEq α] [DatumOrd α] {x y : α} (e : (Datum.toD x : PyData) = Datum.toD y) : x = y := by
  have h := Datum.eqv x y
  rw [e, eqv_refl_alike _ (DatumOrd.alike y y)] at h
  exact of_decide_eq_true h.symm
open PySem.W in
def rMinD (K : PySem.W.Frag) (α : Type) [DecidableEq α] [DatumOrd α] : List V → Hp → VK → Prop := fun vs H Q => ∃ (a : Addr) (xs : List V) (y : α) (ys : List α), vs = [V.ref a] ∧ SqL K H a xs ∧ DpAll K H xs ((y :: ys).map Datum.toD) ∧
  ∀ (i : Nat) (v : V), xs[i]? = some v → (y :: ys)[i]? = some (minOf y ys) → Q v H
theorem readsAll_at {h : Heap} : ∀ {vs : List Value} {ds : List PyData} {as : List Addr} (i : Nat) {v : Value}, ReadsAll h vs ds as → vs[i]? = some v → ∃ d bs, ds[i]? = some d ∧ Reads h v d bs
  | _, _, _, _, _, .nil, e => by simp at e
  | _, _, _, 0, v, .cons h1 h2, e => by
    have e1 := Option.some.inj e
    subst e1
    exact ⟨_, _, rfl, h1⟩
  | _, _, _, i + 1, v, .cons h1 h2, e => readsAll_at i h2 e
open PySem.W in
theorem cr_minD {X : Cx} {α : Type} [DecidableEq α] [DatumOrd α] (hc : X.calm = true) (hu : X.A.units + 1 + Datum.depth α < cLine) : CallR X (.builtin "min") (rMinD X.K α) := by
  intro pins s σ H vs us Q I r h
  obtain ⟨a, xs, y, ys, rfl, hs, hd, q⟩ := h
  obtain ⟨its, rv, hl, _⟩ := I.list hs
  rw [Vals.ref1 r]
  obtain ⟨as, ra⟩ := Dp.readsAll I _ _ _ hd rv
  refine min_list_datum (x := y) (xs := ys) (I.ok.hd hc) hl.isList ⟨as, by simpa using ra⟩ hu fun i v h' tk hi hh hk => ?_
  obtain ⟨bs, hb⟩ := hh
  have hi2 : its[i]? = some v := by simpa using hi
  have hi3 : i < xs.length := by
    have := (List.getElem?_eq_some_iff.mp hi2).1
    rw [rv.length]
    exact this
  have ra' : ReadsAll h' its ((y :: ys).map Datum.toD) as := ReadsAll.keeps hk ra
  obtain ⟨d, cs, ed, rd⟩ := readsAll_at i ra' hi2
  rw [List.getElem?_map] at ed
  cases e : (y :: ys)[i]? with
  | none =>
    rw [e] at ed
    cases ed
  | some z =>
    rw [e] at ed
    have ed2 : Datum.toD z = d := Option.some.inj ed
    have e3 : (Datum.toD z : PyData) = Datum.toD (minOf y ys) := alike_unique _ _ _ _ _ (DatumOrd.alike _ _) (ed2 ▸ rd) hb
    have e4 := datum_inj e3
    obtain ⟨u, hu2, ru⟩ := Vals.get (i := i) (x := xs[i]) rv (List.getElem?_eq_getElem hi3)
    have e5 : u = v := Option.some.inj (hu2.symm.trans hi2)
    rw [e5] at ru
    exact ⟨_, H, I.kept (t' := tk) hk, ru, q i _ (List.getElem?_eq_getElem hi3) (by rw [e, e4])⟩
/-! ### sorted of a list of data -/
def rSortD (K : PySem.W.Frag) : List V → Hp → VK → Prop := fun vs H Q => ∃ (a : Addr) (bs : List (V × PyData)), vs = [V.ref a] ∧ SqL K H a (bs.map Prod.fst) ∧ (∀ b ∈ bs, Dp K H b.1 b.2 ∧ b.2.depth ≤ 32) ∧ PySem.W.AllAlike (bs.map Prod.snd) ∧
  PySem.W.Sortable (bs.map Prod.snd) ∧ bs.length ≤ 1000 ∧ ∀ (cs : List (V × PyData)) (p : Addr), cs.Perm bs → H p = none → Q (.ref p) (upd H p (.lst (cs.map Prod.fst)))
theorem each_of {R : Value → (V × PyData) → Prop} : ∀ {bs : List (V × PyData)} {us : List Value}, Vals (bs.map Prod.fst) us → (∀ b ∈ bs, ∀ u, RelV b.1 u → R u b) → PySem.W.EachIs R us bs
  | [], _, .nil, _ => .nil
  | b :: bs, _, .cons r t, h => .cons (h b List.mem_cons_self _ r) (each_of t fun c hc => h c (List.mem_cons_of_mem _ hc))
theorem each_vals : ∀ {bs : List (V × PyData)} {us : List Value}, PySem.W.EachIs (fun u (b : V × PyData) => RelV b.1 u) us bs → Vals (bs.map Prod.fst) us
  | [], _, .nil => .nil
  | b :: bs, _, .cons r t => .cons r (each_vals t)
theorem cr_sortD {X : Cx} (hu : X.A.units + 64 < cLine) : CallR X (.builtin "sorted") (rSortD X.K) := by
  intro pins s σ H vs us Q I r h
  obtain ⟨a, bs, rfl, hs, hd, hal, hk, h64, q⟩ := h
  obtain ⟨its, rv, hl, _⟩ := I.list hs
  rw [Vals.ref1 r]
  have hlen : its.length = bs.length := by rw [← rv.length, List.length_map]
  refine PySem.W.sorted_data (vs := its) (bs := bs) (enc := Prod.snd) (R := fun u b => RelV b.1 u) hl.isList (each_of rv fun b _ u ru => ru) (each_of rv fun b hb u ru => Dp.reads I b.2 b.1 u (hd b hb).1 ru) hal hk (by rw [sizeLine_eq]; omega)
    (fun b hb => by have := (hd b hb).2; omega) fun out ho he => ?_
  obtain ⟨ep, he'⟩ := PyProof.Rows.sortedAll_at s.heap its out.toArray
  have pm := List.mergeSort_perm bs (PySem.W.dataLe false Prod.snd)
  have hz : ((bs.mergeSort (PySem.W.dataLe false Prod.snd)).map Prod.fst).length ≤ sizeLine := by
    rw [List.length_map, pm.length_eq, sizeLine_eq]
    omega
  exact ⟨.ref _, _, I.laid (a := s.heap.objs.size + 1) (o := .lst ((bs.mergeSort (PySem.W.dataLe false Prod.snd)).map Prod.fst)) (t' := s.toks) (fun _ _ => PyProof.Rows.sortedAll_old) (Nat.le_succ _)
    ⟨hz, out, ep, each_vals he, he'⟩, rfl, q _ _ pm (I.hok.fresh (Nat.le_succ _))⟩
end M
end
-- part RC
section
set_option Elab.async false
set_option linter.all false
set_option maxRecDepth 100000
set_option maxHeartbeats 4000000
/-! Sets of ints and texts: set(list), its length, sorted(set). The road is that of the layer's sets of ints (SetR), for keys of both kinds. -/
namespace M
open PySem PySem.Spec PyProof.Rows L2
def keyE (e : Int × Value) : Key := match e.2 with
  | .int k _ => .inl k
  | .str x _ => .inr x
  | _ => .inl 0
def EntOk (w : World) (e : Int × Value) : Prop := keyIs (keyE e) e.2 = true ∧ e.1 = keyH w (keyE e)
theorem entOk_mk {w : World} {k : Key} {v : Value} (h : keyIs k v = true) : EntOk w (keyH w k, v) ∧ keyE (keyH w k, v) = k := by
  have e : keyE (keyH w k, v) = k := by
    rcases keyIs_shape h with ⟨i, t, rfl, rfl⟩ | ⟨x, t, rfl, rfl⟩ <;> rfl
  exact ⟨⟨by rw [e]; exact h, by rw [e]⟩, e⟩
/-- the set at a has the keys that S says, n of them -/
def SG (P : Program) (w : World) (h : Heap) (a : Addr) (S : Key → Prop) (n : Nat) : Prop :=
  ∃ ob ents ver tab, h.get? a = some ob ∧ ob.ExactSet ∧ ob.data = .set ents ver tab ∧ (∀ e ∈ ents.toList, EntOk w e) ∧ (ents.toList.map keyE).Nodup ∧ (∀ k, S k ↔ k ∈ ents.toList.map keyE) ∧ ents.size < scanBound ∧
    tab.fits ents.size = true ∧ ents.size = n ∧ Ris tab.place.toList ∧ (w.params.followText "set-order" = true ∨ tab.led = true)
section
variable {P : Program} {w : World} {A : Around} {E : Value → Shared → Prop} {s : Shared} {a : Addr} {S : Key → Prop} {n : Nat}
theorem SG.at {h h' : Heap} (R : SG P w h a S n) (k : ∀ o, h.get? a = some o → h'.get? a = some o) : SG P w h' a S n := by
  obtain ⟨ob, ents, ver, tab, h0, rst⟩ := R
  exact ⟨ob, ents, ver, tab, k ob h0, rst⟩
theorem SG.congr {h : Heap} {S' : Key → Prop} (R : SG P w h a S n) (e : ∀ k, S' k ↔ S k) : SG P w h a S' n := by
  have q : S' = S := funext fun k => propext (e k)
  rw [q]
  exact R
theorem ents_of {l : List (Int × Value)} (g : ∀ e ∈ l, EntOk w e) : ElemsOf (mixKind P w) l := fun e he => by
  obtain ⟨h1, h2⟩ := g e he
  refine ⟨⟨keyE e, h1, h2⟩, ?_⟩
  rcases keyIs_shape h1 with ⟨i, t, _, e2⟩ | ⟨x, t, _, e2⟩ <;> rw [e2] <;> rfl
theorem ent_is {e : Int × Value} (g : EntOk w e) (k : Key) : (mixKind P w).is k e.2 = true ↔ keyE e = k :=
  ⟨fun h => (mixKind P w).inj e.2 _ _ g.1 h, fun h => h ▸ g.1⟩
theorem ent_mem {l : List (Int × Value)} (g : ∀ e ∈ l, EntOk w e) (k : Key) : k ∈ l.map keyE ↔ ∃ e ∈ l, (mixKind P w).is k e.2 = true := by
  rw [List.mem_map]
  exact ⟨fun ⟨e, he, q⟩ => ⟨e, he, (ent_is (g e he) k).2 q⟩, fun ⟨e, he, q⟩ => ⟨e, he, (ent_is (g e he) k).1 q⟩⟩
theorem sg_tail {g : Bool → Sem Unit} (hg : ∀ (b : Bool) (s1 : Shared) (Q' : Unit → Shared → Prop), Q' () s1 → wpAny (model P w) A (g b) Q' E s1) {ob : Obj} {ents : Array (Int × Value)} {ver : Nat} {tab : SetTable}
    (h0 : s.heap.get? a = some ob) (hx : ob.ExactSet) (hd : ob.data = .set ents ver tab) {ents2 : Array (Int × Value)} {tab2 : SetTable} {S2 : Key → Prop} (g2 : ∀ e ∈ ents2.toList, EntOk w e) (n2 : (ents2.toList.map keyE).Nodup)
    (m2 : ∀ k, S2 k ↔ k ∈ ents2.toList.map keyE) (b2 : ents2.size < scanBound) (f2 : tab2.fits ents2.size = true) (r2 : Ris tab2.place.toList) (l2 : w.params.followText "set-order" = true ∨ tab2.led = true) {was : Bool} {R : Option Bool → Shared → Prop}
    (hR : ∀ h', Heap.SameBut a s.heap h' → SG P w h' a S2 ents2.size → R (some true) { s with heap := h' }) :
    wpAny (model P w) A (do
        storeSet a ents2 tab2
        if (!was && tab2.tooFull) = true then do
            g (relayAll tab2 ents2 (SetTable.grown ents2.size)).2.2
            storeSet a (relayAll tab2 ents2 (SetTable.grown ents2.size)).1 (relayAll tab2 ents2 (SetTable.grown ents2.size)).2.1
            pure (some true)
          else pure (some true)) R E s := by
  refine wpAny_bind (wpAny_storeSet_of h0 hd ?_ (fits_of_scanBound b2))
  have h1 := store_at (es' := ents2) (t' := tab2) h0 hd
  have sb := Heap.SameBut.update s.heap a (Obj.putSet ents2 tab2)
  split
  · have pm := relayAll_perm tab2 ents2 (SetTable.grown ents2.size)
    have f3 := relayAll_fits tab2 ents2 (SetTable.grown ents2.size)
    have r3 := relayAll_ris tab2 ents2 (SetTable.grown ents2.size)
    have l3 := relayAll_led tab2 ents2 (SetTable.grown ents2.size)
    generalize relayAll tab2 ents2 (SetTable.grown ents2.size) = Z at pm f3 r3 l3 ⊢
    obtain ⟨ents3, tab3, gw⟩ := Z
    dsimp only at pm f3 r3 l3 ⊢
    have sz : ents3.size = ents2.size := by rw [← Array.length_toList, pm.length_eq, Array.length_toList]
    have b3 : ents3.size < scanBound := by rw [sz]; exact b2
    refine wpAny_bind (hg _ _ _ ?_)
    refine wpAny_bind (wpAny_storeSet_of h1 rfl ?_ (fits_of_scanBound b3))
    have h2 := store_at (es' := ents3) (t' := tab3) h1 rfl
    refine wpAny_pure (hR _ (sb.trans (Heap.SameBut.update _ a _)) ?_)
    exact ⟨_, ents3, _, tab3, h2, hx, rfl, fun e he => g2 e (pm.mem_iff.mp he), (pm.map keyE).nodup_iff.mpr n2, fun k => (m2 k).trans (pm.map keyE).mem_iff.symm, b3, f3, sz, r3, l2.imp id fun z => by rw [l3]; exact z⟩
  · exact wpAny_pure (hR _ sb ⟨_, ents2, _, tab2, h1, hx, rfl, g2, n2, m2, b2, f2, rfl, r2, l2⟩)
theorem sg_add {k : Key} {v : Value} {Q : Bool → Shared → Prop} (R : SG P w s.heap a S n) (room : n + 1 < scanBound) (hkey : keyIs k v = true) (hsc : v.scannable = true)
    (h1 : S k → Q false s) (h2 : ¬ S k → ∀ h', Heap.SameBut a s.heap h' → SG P w h' a (fun j => S j ∨ j = k) (n + 1) → Q true { s with heap := h' }) :
    wpAny (model P w) A (setAddHashed a v ((mixKind P w).hash k)) Q E s := by
  obtain ⟨ob, ents, ver, tab, h0, hx, hd, g, nd, hm, hb, hf, hn, hr, hl⟩ := R
  have hkm : (mixKind P w).is k v = true := hkey
  have hel : ElemsOf (mixKind P w) ents.toList := ents_of g
  unfold setAddHashed setAddHashedIn
  refine wpAny_holding (wpAny_bind (wpAny_setState_of h0 hd hf ?_))
  dsimp only
  rw [byScan_of hsc hb hel]
  simp only [↓reduceIte]
  unfold setAddByScan
  refine wpAny_bind ?_
  refine wpAny_bind (wpAny_rule ?_)
  refine wpAny_bind (wpAny_setScan_of hkm h0 hd hf hel ?_)
  cases hfi : List.findIdx? (fun e => (mixKind P w).is k e.2) ents.toList with
  | some j =>
    dsimp only
    obtain ⟨hj, pj, _⟩ := List.findIdx?_eq_some_iff_getElem.mp hfi
    have hSk : S k := (hm k).2 ((ent_mem (P := P) (w := w) g k).2 ⟨ents.toList[j], List.getElem_mem hj, pj⟩)
    exact wpAny_pure (wpAny_pure (h1 hSk))
  | none =>
    dsimp only
    have hnk : k ∉ ents.toList.map keyE := fun z => by
      obtain ⟨e, he, q⟩ := (ent_mem (P := P) (w := w) g k).1 z
      have c := List.findIdx?_eq_none_iff.mp hfi e he
      rw [q] at c
      cases c
    have hSk : ¬ S k := fun q => hnk ((hm k).1 q)
    have hgw : ∀ (b : Bool) {s1 : Shared} {Q' : Unit → Shared → Prop}, Q' () s1 → wpAny (model P w) A (match b with | true => rule "set.scan.the-table-gave-way" | false => pure ()) Q' E s1 :=
      fun b s1 Q' q => by cases b <;> first | exact wpAny_pure q | exact wpAny_rule q
    have pm := layNew_perm tab ents ((mixKind P w).hash k) v
    have f1 := layNew_fits tab ents ((mixKind P w).hash k) v
    have r1 := layNew_ris tab ents ((mixKind P w).hash k) v hr
    have l1 := layNew_led tab ents ((mixKind P w).hash k) v
    generalize layNew tab ents ((mixKind P w).hash k) v = Z at pm f1 r1 l1 ⊢
    obtain ⟨ents1, tab1, was, gave⟩ := Z
    dsimp only at pm f1 r1 l1 ⊢
    rw [Array.toList_push] at pm
    have pc : ents1.toList.Perm (((mixKind P w).hash k, v) :: ents.toList) := pm.trans (List.perm_append_singleton _ _)
    have gk := entOk_mk (w := w) hkey
    have pk : (ents1.toList.map keyE).Perm (k :: ents.toList.map keyE) := by
      have q := pc.map keyE
      rw [List.map_cons, show keyE ((mixKind P w).hash k, v) = k from gk.2] at q
      exact q
    have g1 : ∀ e ∈ ents1.toList, EntOk w e := fun e he => (List.mem_cons.mp (pc.mem_iff.mp he)).elim (fun z => by rw [z]; exact gk.1) (g e)
    have nd1 : (ents1.toList.map keyE).Nodup := pk.nodup_iff.mpr (List.nodup_cons.mpr ⟨hnk, nd⟩)
    have m1 : ∀ i, (S i ∨ i = k) ↔ i ∈ ents1.toList.map keyE := fun i => by
      rw [hm i, pk.mem_iff, List.mem_cons]
      exact Or.comm
    have sz : ents1.size = n + 1 := by rw [← Array.length_toList, pc.length_eq, List.length_cons, Array.length_toList, hn]
    have b1 : ents1.size < scanBound := by rw [sz]; exact room
    have led1 : w.params.followText "set-order" = true ∨ tab1.led = true := hl.imp id fun z => by rw [l1]; exact z
    have fin : ∀ h', Heap.SameBut a s.heap h' → SG P w h' a (fun j => S j ∨ j = k) ents1.size → Q true { s with heap := h' } := fun h' sb r => h2 hSk h' sb (by rw [sz] at r; exact r)
    refine wpAny_bind (hgw _ ?_)
    split
    · refine wpAny_bind ?_
      rw [hashByValue_scannable 8 hsc]
      refine wpAny_pure ?_
      refine sg_tail ?_ h0 hx hd g1 nd1 m1 b1 ?_ ?_ ?_ ?_
      · intro b s1 Q' q; cases b <;> first | exact wpAny_pure q | exact wpAny_rule q
      · first | (split <;> first | exact f1 | exact SetTable.fits_plain_off f1) | exact f1
      · first | (split <;> exact r1) | exact r1
      · first | (split <;> exact led1) | exact led1
      · intro h' sb r; dsimp only; exact wpAny_pure (fin h' sb r)
    · refine wpAny_bind (wpAny_pure ?_)
      simp only [↓reduceIte]
      refine sg_tail ?_ h0 hx hd g1 nd1 m1 b1 f1 r1 led1 ?_
      · intro b s1 Q' q; cases b <;> first | exact wpAny_pure q | exact wpAny_rule q
      · intro h' sb r; dsimp only; exact wpAny_pure (fin h' sb r)
theorem sg_new {h : Heap} (h0 : h.get? a = some { cls := .type "set", dict := none, data := .set #[] 0 (.fresh 0 0 (!w.params.followText "set-order")) }) : SG P w h a (fun _ => False) 0 :=
  ⟨_, #[], 0, _, h0, ⟨rfl, rfl, rfl⟩, rfl, (fun e he => by simp at he), (by simp), (fun k => by simp), (by decide), (by rfl), rfl, List.Pairwise.nil, by
    show _ ∨ (!w.params.followText "set-order") = true
    cases w.params.followText "set-order"
    · exact .inr rfl
    · exact .inl rfl⟩
/-- set.update's loop -/
theorem sg_update {I : Addr} {fp wr : List Addr} {G : Array GenState → Array GenState → Prop} {n : Nat} {Pv : Nat → Value → Prop} {St : Nat → Shared → Prop} {R : Result → Shared → Prop} (W : WalksS P w A.in1 I fp wr G n Pv St) (T : Addr) (hT : T ∉ fp)
    (ks : List Key) (hn : n = ks.length) (hb : ks.length + 1 < scanBound) (hval : ∀ i v, Pv i v → ∃ k, ks[i]? = some k ∧ keyIs k v = true) :
    ∀ (d i : Nat) (s : Shared), n - i = d → i ≤ n → St i s → (∃ c, c ≤ i ∧ ((ks.take i).Nodup → c = i) ∧ SG P w s.heap T (fun j => j ∈ ks.take i) c) →
      (∀ s' c, Moved (T :: wr) G s s' → c ≤ n → (ks.Nodup → c = n) → SG P w s'.heap T (fun j => j ∈ ks) c → R (.ok (.ret .none)) s') →
      codeAny (model P w) A (.builtin "set.update.loop" ⟨[.ref T, .ref I], []⟩) R s := by
  have hTw : T ∉ wr := fun h => hT (W.sub _ h)
  have hsub : ∀ b ∈ wr, b ∈ T :: wr := fun b hb => List.mem_cons_of_mem _ hb
  intro d
  induction d with
  | zero =>
    intro i s hd hi hst ⟨c, hc, hcn, hS⟩ hR
    have hin : i = n := by omega
    subst hin
    refine codeAny_builtin PyProof.Rows.F.entry_set_update_loop ?_
    rw [Around.under_plainId PyProof.Rows.F.plain_set_update_loop _]
    show wpAny _ A.in1 (pyNext (.ref I) >>= _) _ _ s
    refine wpAny_bind (W.done s _ _ hst fun s' hm => ?_)
    show wpAny _ A.in1 (ret Value.none) _ _ s'
    have e : ks.take i = ks := List.take_of_length_le (by omega)
    rw [e] at hS hcn
    exact wpAny_pure (hR s' c (hm.mono hsub) hc hcn (hS.at fun o e => hm.heap T o hTw e))
  | succ d ih =>
    intro i s hd hi hst ⟨c, hc, hcn, hS⟩ hR
    have hlt : i < n := by omega
    refine codeAny_builtin PyProof.Rows.F.entry_set_update_loop ?_
    rw [Around.under_plainId PyProof.Rows.F.plain_set_update_loop _]
    show wpAny _ A.in1 (pyNext (.ref I) >>= _) _ _ s
    refine wpAny_bind (W.item i s _ _ hlt hst fun v s' hP hst' hm => ?_)
    obtain ⟨z, hz, hkv⟩ := hval i v hP
    have hS' : SG P w s'.heap T (fun j => j ∈ ks.take i) c := hS.at fun o e => hm.heap T o hTw e
    have hscan : v.scannable = true := by
      rcases keyIs_shape hkv with ⟨_, _, _, e2⟩ | ⟨_, _, _, e2⟩ <;> rw [e2] <;> rfl
    show wpAny _ A.in1 (holding [v] (setAdd T v) >>= _) _ _ s'
    refine wpAny_bind (wpAny_holding ?_)
    unfold setAdd
    refine wpAny_holding ?_
    refine wpAny_bind ((mixKind P w).pyHash (k := z) hkv ?_)
    have tk : ks.take (i + 1) = ks.take i ++ [z] := by rw [List.take_add_one, hz] <;> rfl
    have go : ∀ (b : Bool) (s2 : Shared), (∃ h', Heap.SameBut T s'.heap h' ∧ s2 = { s' with heap := h', toks := s'.toks + 1 }) → (∃ c', c' ≤ i + 1 ∧ ((ks.take (i + 1)).Nodup → c' = i + 1) ∧ SG P w s2.heap T (fun j => j ∈ ks.take (i + 1)) c') →
        wpAny (model P w) A.in1 (again (.builtin "set.update.loop" ⟨[.ref T, .ref I], []⟩)) (fun fin s3 => match fin with
          | .done r => R (.ok r) s3
          | .again k => Code.quiet k ∧ codeAny (model P w) A k R s3) (fun e s' => R (.error e) s') s2 := by
      rintro b s2 ⟨h', hsb, rfl⟩ hS2
      refine wpAny_pure ⟨plainId_quiet PyProof.Rows.F.plain_set_update_loop _, ih (i + 1) _ (by omega) hlt (W.frame _ s' _ _ hst' (Nat.le_succ _) fun b hb o e => ?_) hS2 fun s'' c2 hm'' hc'' hn'' hS'' => ?_⟩
      · rw [hsb.2 b (fun h : b = T => hT (by rw [← h]; exact hb))]
        exact e
      · refine hR s'' c2 (Moved.trans W.gtrans ((hm.mono hsub).then_heap (Nat.le_succ _) fun b o hb e => ?_) hm'') hc'' hn'' hS''
        rw [hsb.2 b (fun h : b = T => hb (by rw [h]; exact List.mem_cons_self))]
        exact e
    refine sg_add (s := { s' with toks := s'.toks + 1 }) hS' (by omega) hkv hscan (fun hin => ?_) fun hnin h' hsb hS2 => ?_
    · refine go false _ ⟨s'.heap, Heap.SameBut.refl T s'.heap, rfl⟩ ⟨c, by omega, fun q => ?_, hS'.congr fun j => ?_⟩
      · rw [tk] at q
        exact absurd rfl ((List.nodup_append.mp q).2.2 z hin z (by simp))
      · rw [tk, List.mem_append, List.mem_singleton]
        exact ⟨fun q => q.elim id fun e => e ▸ hin, .inl⟩
    · refine go true _ ⟨h', hsb, rfl⟩ ⟨c + 1, by omega, fun q => ?_, hS2.congr fun j => ?_⟩
      · rw [tk] at q
        rw [hcn (List.nodup_append.mp q).1]
      · rw [tk, List.mem_append, List.mem_singleton]
set_option maxHeartbeats 8000000 in
/-- set(xs), xs a list of ints and texts -/
theorem sg_call {l : Addr} {items : Array Value} (ks : List Key) {Q : Value → Shared → Prop} (hh : A.handled = none) (hl : s.heap.IsList l items) (hsz : items.size = ks.length) (hkv : ∀ (i : Nat) (v : Value), items[i]? = some v → ∃ k, ks[i]? = some k ∧ keyIs k v = true) (hb : ks.length + 1 < scanBound)
    (hQ : ∀ (h' : Heap) (tk c : Nat), SG P w h' s.heap.objs.size (fun j => j ∈ ks) c → c ≤ ks.length → (ks.Nodup → c = ks.length) → (∀ b o, s.heap.get? b = some o → h'.get? b = some o) → Q (.ref s.heap.objs.size) { s with heap := h', toks := tk }) :
    wpAny (model P w) A (call (.type "set") [.ref l]) Q E s := by
  obtain ⟨c, tl, hmro⟩ := PySem.F.called_set.mro
  have a1 := PySem.F.called_set.made
  have a2 := PySem.F.called_set.sub
  refine wpAny_call (codeAny_of_tree ?_)
  show wpAny _ _ (callAny (.type "set") _) _ _ _
  refine wpAny_pure ⟨Code.quiet_builtin _ (by decide +kernel), codeAny_builtin PySem.F.entry_type_call ?_⟩
  rw [Around.under_plain (weight_type_call_type "set" [.ref l] []) rfl]
  have a3 := PySem.F.called_set.notType
  have a4 := PySem.F.called_set.canCreate
  have a5 := PySem.F.typeCall_set_1 (.ref l)
  repeat (any_goals (first | assumption | wp_step))
  let new : Obj := { cls := .type "set", dict := none, data := .set #[] 0 (.fresh 0 0 (!w.params.followText "set-order")) }
  refine codeAny_mono (code_set_led1 (.ref l) (E := E) (Q₁ := fun obj s1 => obj = .ref s.heap.objs.size ∧ s1 = { s with heap := s.heap.push new }) ⟨rfl, rfl⟩) fun r s1 hr => ?_
  cases r with
  | error e => exact hr
  | ok fl =>
    cases fl with
    | ret obj =>
      obtain ⟨rfl, rfl⟩ := hr
      have hS : (s.heap.push new).get? s.heap.objs.size = some new := Heap.get?_push_size _ rfl
      have hT : Shared.TypeIs { s with heap := s.heap.push new } (.ref s.heap.objs.size) "set" := ⟨_, hS, rfl⟩
      have a6 := PySem.F.called_set.init.lookup
      have a7 := PySem.F.called_set.init.bind (.ref s.heap.objs.size)
      repeat (any_goals (first | assumption | wp_step))
      refine codeAny_mono (codeAny_call_builtin (R := wants (fun r s2 => r = .none ∧ ∃ h' tk c, s2 = { s with heap := h', toks := tk } ∧ SG P w h' s.heap.objs.size (fun j => j ∈ ks) c ∧ c ≤ ks.length ∧ (ks.Nodup → c = ks.length) ∧
          (∀ b o, s.heap.get? b = some o → h'.get? b = some o)) E) PySem.F.called_set.init.plain PySem.F.entry_set_init (check_set_init_1 hT ?_)) fun r2 s2 hr2 => ?_
      · obtain ⟨ol, hol, hcl, nl, hdl⟩ := hl
        obtain ⟨oc, od, odt, osl⟩ := ol
        simp only at hcl hdl
        subst hcl; subst hdl
        have hol' : (s.heap.push new).get? l = some { cls := .type "list", dict := od, data := .seq items nl, slots := osl } := Heap.get?_push_of_some _ hol
        have b1 := PySem.F.sub_list_set
        have b2 := PySem.F.sub_list_frozenset
        have b3 : (Value.type "list" == Value.type "dict") = false := by decide
        have hl1 : (s.heap.push new).IsList l items := ⟨_, hol', rfl, nl, rfl⟩
        unfold Builtin.«set.__init__» noKeywords Builtin.Frozenset.updateFrom
        generalize hPI : pyIter = PI
        wp_walk
        subst hPI
        refine wpAny_pyIter_list hl1 ?_
        refine wpAny_bind (wpAny_runValue ?_)
        have hlS : l < s.heap.objs.size := Heap.lt_size hol
        have hh3 : A.in1.in1.in1.handled = none := by simp [hh]
        have hneI : l ≠ (s.heap.push new).objs.size := by
          rw [Heap.size_push]; exact Nat.ne_of_lt (Nat.lt_succ_of_lt hlS)
        have hSf : s.heap.objs.size ∉ [(s.heap.push new).objs.size, l] := by
          rw [Heap.size_push]; simp only [List.mem_cons, List.mem_singleton, List.not_mem_nil, or_false, not_or]
          exact ⟨Nat.ne_of_lt (Nat.lt_succ_self _), Nat.ne_of_gt hlS⟩
        refine sg_update ((Walks.list hh3 _ l hneI items).toS) s.heap.objs.size hSf ks hsz hb hkv (items.size - 0) 0 _ (by omega) (Nat.zero_le _) ⟨⟨_, Heap.get?_push_size _ rfl, rfl, rfl⟩, (hl1.push _)⟩ ?hS0 ?hR
        case hS0 =>
          exact ⟨0, Nat.le_refl 0, fun _ => rfl, (sg_new (Heap.get?_push_of_some _ hS)).congr fun k => by simp⟩
        case hR =>
          intro s' c' hm hc' hn' hS'
          obtain ⟨h', g2, d', tk', os'⟩ := s'
          have eg : g2 = s.gens := hm.gens
          have ed : d' = s.drawn := hm.drawn
          have eo : os' = s.os := hm.os
          subst eg; subst ed; subst eo
          show wpAny _ _ _ _ _ _
          refine wpAny_pure ?_
          show wpAny _ _ (ret Value.none) _ _ _
          rw [hsz] at hc' hn'
          refine wpAny_pure ⟨rfl, h', tk', c', rfl, hS', hc', hn', fun b o e => ?_⟩
          have q0 : b < s.heap.objs.size := Heap.lt_size e
          have q1 : b ≠ s.heap.objs.size := Nat.ne_of_lt q0
          have q2 : b ≠ (s.heap.push new).objs.size := by
            rw [Heap.size_push]; exact Nat.ne_of_lt (Nat.lt_succ_of_lt q0)
          exact hm.heap b o (by simp only [List.mem_cons, List.mem_singleton, List.not_mem_nil, or_false, not_or]; exact ⟨q1, q2⟩) (Heap.get?_push_of_some _ (Heap.get?_push_of_some _ e))
      · cases r2 with
        | error e => exact hr2
        | ok fl2 =>
          cases fl2 with
          | ret r =>
            obtain ⟨rfl, h', tk, c', rfl, hS', hc', hn', hk'⟩ := hr2
            repeat (any_goals (first | assumption | wp_step))
            exact hQ _ _ _ hS' hc' hn' hk'
          | _ => exact hr2.elim
    | _ => exact hr.elim
theorem keyE_at {k : Key} {v : Value} {z : Int} (h : keyIs k v = true) : keyE (z, v) = k := by
  rcases keyIs_shape h with ⟨i, t, rfl, rfl⟩ | ⟨x, t, rfl, rfl⟩ <;> rfl
/-- sorted(set): the members gathered, then list.sort, of which hs tells that it leaves some arrangement of them -/
theorem sg_sorted {Rv : List Value → Array Value → Prop} {Q : Value → Shared → Prop} (R : SG P w s.heap a S n) (hh : A.handled = none) (h64 : n < 64)
    (hs : ∀ (vs : List Value) (s1 : Shared) (P1 : PySem.Fin → Shared → Prop) (L : Addr), vs.length = n → (∀ v ∈ vs, ∃ k, S k ∧ keyIs k v = true) → s1.heap.get? L = some (seqObj "list" vs.toArray 0) →
      (∀ out : Array Value, Rv vs out → P1 (.done (.ret .none)) { s1 with heap := sortedHeap s1.heap L vs out }) → wpAny (model P w) A.in1.in1 (Builtin.«list.sort» ⟨[.ref L], []⟩) P1 E s1)
    (hQ : ∀ s' p (vs : List Value) (out : Array Value) (c : Nat), (∀ b o, s.heap.get? b = some o → s'.heap.get? b = some o) → s'.gens = s.gens → s'.os = s.os → s.heap.objs.size ≤ p → s'.heap.get? p = some (seqObj "list" out c) →
      vs.length = n → (vs.map fun v => keyE (0, v)).Nodup → (∀ v ∈ vs, ∃ k, S k ∧ keyIs k v = true) → (∀ k, S k → ∃ v ∈ vs, keyIs k v = true) → Rv vs out → Q (.ref p) s') :
    wpAny (model P w) A (call (.builtin "sorted") [.ref a]) Q E s := by
  obtain ⟨ob, ents, ver, tab, h0, hx, hd, g, nd, hm, hb, hf, hn, hr, hl⟩ := R
  refine Calls.call_function_entry kind_sorted plain_sorted entry_sorted (args_sorted1 _) ?_
  unfold Builtin.«sorted»
  refine wpAny_bind (m := checkCount "sorted" 1 1 _) (wpAny_pure ?_)
  refine wpAny_bind (collect_set (A := A.in1) hh ⟨ob, h0, hx.1, hd⟩ hf hb hr hl fun s1 vs k1 hz g1 o1 pm => ?_)
  have hvl : vs.length = n := by rw [pm.length_eq, List.length_map, Array.length_toList]; exact hn
  have m1 : ∀ v ∈ vs, ∃ k, S k ∧ keyIs k v = true := fun v hv => by
    obtain ⟨e, he, q⟩ := List.mem_map.mp (pm.mem_iff.mp hv)
    exact ⟨keyE e, (hm _).2 (List.mem_map.mpr ⟨e, he, rfl⟩), q ▸ (g e he).1⟩
  have m2 : ∀ k, S k → ∃ v ∈ vs, keyIs k v = true := fun k hk => by
    obtain ⟨e, he, q⟩ := List.mem_map.mp ((hm k).1 hk)
    exact ⟨e.2, pm.mem_iff.mpr (List.mem_map.mpr ⟨e, he, rfl⟩), q ▸ (g e he).1⟩
  have m3 : (vs.map fun v => keyE (0, v)).Nodup := by
    have q := pm.map fun v => keyE (0, v)
    rw [List.map_map] at q
    refine q.nodup_iff.mpr ?_
    have e1 : ents.toList.map ((fun v => keyE ((0 : Int), v)) ∘ fun x => x.2) = ents.toList.map keyE := List.map_congr_left fun e he => keyE_at (g e he).1
    rw [e1]
    exact nd
  refine wpAny_bind (wpAny_newList ?_ (by rw [hvl, sizeLine_eq]; omega))
  have hoL : (s1.heap.push (seqObj "list" vs.toArray 0)).get? s1.heap.objs.size = some (seqObj "list" vs.toArray 0) := Heap.get?_push_size _ rfl
  refine wpAny_bind (wpAny_holding (wpAny_call_entry slot_list_sort ⟨_, hoL, rfl⟩ entry_list_sort (hs vs _ _ _ hvl m1 hoL fun out ro => ⟨_, rfl, ?_⟩) (args_list_sort _)))
  obtain ⟨c, hc⟩ := sortedHeap_at (vs := vs) (out := out) hoL
  refine wpAny_pure ⟨_, rfl, hQ _ s1.heap.objs.size vs out c (fun b u e => ?_) g1 o1 hz hc hvl m3 m1 m2 ro⟩
  have q := k1 b u e
  have hlt := Heap.lt_size q
  show (sortedHeap (s1.heap.push (seqObj "list" vs.toArray 0)) s1.heap.objs.size vs out).get? b = some u
  rw [sortedHeap_old (Nat.ne_of_lt hlt) (by rw [size_push']; exact Nat.lt_succ_of_lt hlt)]
  exact Heap.get?_push_of_some _ q
end
/-- the set that set(..) makes -/
def SGO (P : Program) (w : World) (a : Addr) (ks : List Key) (c : Nat) : HO := .ext fun h => SG P w h a (fun j => j ∈ ks) c
theorem sgo_ok {P : Program} {w : World} {H : Hp} {h : Heap} {a : Addr} {ks : List Key} {c : Nat} (R : SG P w h a (fun j => j ∈ ks) c) : ObjOk P w H h a (SGO P w a ks c) := by
  have ⟨ob, _, _, _, h0, _⟩ := R
  exact ⟨R, ⟨ob, h0⟩, fun h1 h2 p k => SG.at p k⟩
section
variable {X : Cx}
def rSetL (K : PySem.W.Frag) (P : Program) (w : World) : List V → Hp → VK → Prop := fun xs H Q => ∃ (l : Addr) (ks : List Key), xs = [.ref l] ∧ SqL K H l (ks.map kV) ∧ ks.length ≤ 1000 ∧
  ∀ (p : Addr) (c : Nat), H p = none → c ≤ ks.length → (ks.Nodup → c = ks.length) → Q (.ref p) (upd H p (SGO P w p ks c))
theorem cr_setL (hc : X.calm = true) : CallR X (.type "set") (rSetL X.K X.prog X.w) := by
  intro pins s σ H xs us Q I r h
  obtain ⟨l, ks, rfl, hs, hz, q⟩ := h
  obtain ⟨its, rv, hl, _⟩ := I.list hs
  rw [Vals.ref1 r]
  have hlen : its.length = ks.length := by rw [← rv.length, List.length_map]
  refine sg_call ks (I.ok.hd hc) hl.isList (by rw [List.size_toArray]; exact hlen) (fun i v hv => ?_) (by unfold scanBound; omega) fun h' tk c hS hc2 hn2 hk => ?_
  · have hi : its[i]? = some v := by simpa using hv
    have hi2 : i < ks.length := by
      have := (List.getElem?_eq_some_iff.mp hi).1
      omega
    obtain ⟨u, hu, ru⟩ := Vals.get (i := i) (x := kV ks[i]) rv (by rw [List.getElem?_map, List.getElem?_eq_getElem hi2] <;> rfl)
    rw [hi] at hu
    cases Option.some.inj hu
    exact ⟨ks[i], List.getElem?_eq_getElem hi2, kV_is (P := X.prog) (w := X.w) ru⟩
  · exact ⟨.ref s.heap.objs.size, _, I.laid (a := s.heap.objs.size) (o := SGO X.prog X.w s.heap.objs.size ks c) (t' := tk) hk (Nat.le_refl _) (sgo_ok hS), rfl, q _ c (I.hok.fresh (Nat.le_refl _)) hc2 hn2⟩
def rLenSG (P : Program) (w : World) : List V → Hp → VK → Prop := fun xs H Q => ∃ (a : Addr) (ks : List Key) (c : Nat), xs = [.ref a] ∧ H a = some (SGO P w a ks c) ∧ c ≤ 1000 ∧ Q (.int c) H
theorem cr_lenSG : CallR X (.builtin "len") (rLenSG X.prog X.w) := by
  intro pins s σ H xs us Q I r h
  obtain ⟨a, ks, c, rfl, ha, hc, q⟩ := h
  rw [Vals.ref1 r]
  obtain ⟨ob, ents, ver, tab, h0, hx, hd, g, nd, hm, hb, hf, hn, hr, hl⟩ := (show ObjOk X.prog X.w H s.heap a (SGO X.prog X.w a ks c) from I.hok a _ ha).1
  exact call_len_set h0 hx hd hf (by rw [hn]; omega) ⟨.int c, H, I.tok _, ⟨_, by rw [hn]⟩, q⟩
theorem strsAre_of_all : ∀ (vs : List Value), (∀ v ∈ vs, ∃ x t, v = Value.str x t) → StrsAre vs (vs.map strOf) := strsAre_map
theorem inv_new {pins : List (Addr × Obj)} {σ : L2.St} {H : Hp} {s s' : Shared} {p : Addr} {xs : List V} {out : Array Value} {c : Nat} (I : Inv X pins σ H s) (k : ∀ b o, s.heap.get? b = some o → s'.heap.get? b = some o) (g : s'.gens = s.gens) (o : s'.os = s.os)
    (hp : s.heap.objs.size ≤ p) (hg : s'.heap.get? p = some (seqObj "list" out c)) (hz : xs.length ≤ sizeLine) (r : Vals xs out.toList) : Inv X pins σ (upd H p (.lst xs)) s' := by
  have hn : H p = none := I.hok.fresh hp
  have J : Inv X pins σ (upd H p (.lst xs)) { s with heap := s'.heap, gens := s'.gens, drawn := s'.drawn, toks := s'.toks } :=
    I.call (ch := []) (Un.laid k hp hn) (I.hok.laid k hp ⟨hz, out.toList, c, r, hg⟩) (by rw [g]; exact I.bare) (fun _ z => nomatch z)
  have e : s' = { s with heap := s'.heap, gens := s'.gens, drawn := s'.drawn, toks := s'.toks } := by
    cases s'
    cases s
    cases o
    rfl
  rw [e]
  exact J
/-- sorted(set of ints) -/
def rSortSGI (P : Program) (w : World) : List V → Hp → VK → Prop := fun vs H Q => ∃ (a : Addr) (ks : List Int) (c : Nat), vs = [V.ref a] ∧ H a = some (SGO P w a (ks.map Sum.inl) c) ∧ c < 64 ∧
  ∀ (ns : List Int) (p : Addr), ns.Pairwise (· < ·) → (∀ k, k ∈ ns ↔ k ∈ ks) → H p = none → Q (.ref p) (upd H p (.lst (ns.map V.int)))
theorem cr_sortSGI (hc : X.calm = true) : CallR X (.builtin "sorted") (rSortSGI X.prog X.w) := by
  intro pins s σ H vs us Q I r h
  obtain ⟨a, ks, c, rfl, ha, h64, q⟩ := h
  rw [Vals.ref1 r]
  refine sg_sorted (Rv := fun vs out => ∃ ns', IntsAre out.toList ns' ∧ ns'.Perm (vs.map Builtin.Re.reRawOf) ∧ ns'.Pairwise (· ≤ ·)) (show ObjOk X.prog X.w H s.heap a (SGO X.prog X.w a (ks.map Sum.inl) c) from I.hok a _ ha).1 (I.ok.hd hc) h64 (fun vs s1 P1 L hl m1 hL hP => ?_) fun s' p vs out c' k g o hp hg hl nd m1 m2 ro => ?_
  · have hI : IntsAre vs (vs.map Builtin.Re.reRawOf) := ints_of vs fun v hv => by
      obtain ⟨k, hk, hi⟩ := m1 v hv
      obtain ⟨i, _, rfl⟩ := List.mem_map.mp hk
      rcases keyIs_shape hi with ⟨j, t, _, e⟩ | ⟨x, t, e, _⟩
      · exact ⟨j, t, e⟩
      · cases e
    exact list_sort_tree hL hI (by omega) fun out ns' a1 a2 a3 => hP out ⟨ns', a1, a2, a3⟩
  · obtain ⟨ns', a1, a2, a3⟩ := ro
    have mem : ∀ v ∈ vs, ∃ i t, v = Value.int i t ∧ i ∈ ks := fun v hv => by
      obtain ⟨k, hk, hi⟩ := m1 v hv
      obtain ⟨i, hi2, rfl⟩ := List.mem_map.mp hk
      rcases keyIs_shape hi with ⟨j, t, e1, e⟩ | ⟨x, t, e, _⟩
      · cases Sum.inl.inj e1
        exact ⟨_, t, e, hi2⟩
      · cases e
    have hnd : (vs.map Builtin.Re.reRawOf).Nodup := by
      have e : vs.map (fun v => keyE ((0 : Int), v)) = (vs.map Builtin.Re.reRawOf).map Sum.inl := by
        rw [List.map_map]
        refine List.map_congr_left fun v hv => ?_
        obtain ⟨i, t, rfl, _⟩ := mem v hv
        rfl
      rw [e] at nd
      exact List.Pairwise.of_map Sum.inl (fun _ _ hne e => hne (congrArg _ e)) nd
    have hmem : ∀ k, k ∈ ns' ↔ k ∈ ks := fun k => by
      rw [a2.mem_iff, List.mem_map]
      constructor
      · rintro ⟨v, hv, e⟩
        obtain ⟨i, t, rfl, hi⟩ := mem v hv
        have e2 : i = k := e
        rw [← e2]
        exact hi
      · intro hk
        obtain ⟨v, hv, e⟩ := m2 (Sum.inl k) (List.mem_map.mpr ⟨k, hk, rfl⟩)
        refine ⟨v, hv, ?_⟩
        rcases keyIs_shape e with ⟨j, t, e1, rfl⟩ | ⟨x, t, e, _⟩
        · cases Sum.inl.inj e1
          rfl
        · cases e
    have hz : (ns'.map V.int).length ≤ sizeLine := by
      rw [List.length_map, a2.length_eq, List.length_map, sizeLine_eq]
      omega
    exact ⟨.ref p, _, inv_new I k g o hp hg hz (vals_of_ints a1), rfl, q ns' p (lt_of_le_nodup ns' a3 (a2.nodup_iff.mpr hnd)) hmem (I.hok.fresh hp)⟩
/-- sorted(set of texts) -/
def rSortSGS (P : Program) (w : World) : List V → Hp → VK → Prop := fun vs H Q => ∃ (a : Addr) (ks : List Str) (c : Nat), vs = [V.ref a] ∧ H a = some (SGO P w a (ks.map Sum.inr) c) ∧ c < 64 ∧
  ∀ (ys : List Str) (p : Addr), ys.Nodup → (∀ k, k ∈ ys ↔ k ∈ ks) → ys.length = c → H p = none → Q (.ref p) (upd H p (.lst (ys.map V.str)))
theorem cr_sortSGS (hc : X.calm = true) : CallR X (.builtin "sorted") (rSortSGS X.prog X.w) := by
  intro pins s σ H vs us Q I r h
  obtain ⟨a, ks, c, rfl, ha, h64, q⟩ := h
  rw [Vals.ref1 r]
  have sh : ∀ {ks : List Str} {v : Value}, (∃ k, k ∈ ks.map (Sum.inr : Str → Key) ∧ keyIs k v = true) → ∃ x t, v = Value.str x t ∧ x ∈ ks := fun {ks v} h => by
    obtain ⟨k, hk, hi⟩ := h
    obtain ⟨i, hi2, rfl⟩ := List.mem_map.mp hk
    rcases keyIs_shape hi with ⟨j, t, e1, e⟩ | ⟨x, t, e1, e⟩
    · cases e1
    · cases Sum.inr.inj e1
      exact ⟨_, t, e, hi2⟩
  refine sg_sorted (Rv := fun vs out => out.toList.Perm vs) (show ObjOk X.prog X.w H s.heap a (SGO X.prog X.w a (ks.map Sum.inr) c) from I.hok a _ ha).1 (I.ok.hd hc) h64 (fun vs s1 P1 L hl m1 hL hP => ?_) fun s' p vs out c' k g o hp hg hl nd m1 m2 ro => ?_
  · have hS : StrsAre vs (vs.map strOf) := strsAre_map vs fun v hv => by
      obtain ⟨x, t, e, _⟩ := sh (m1 v hv)
      exact ⟨x, t, e⟩
    refine list_sort_treeK strKind_oneLt hL hS.keysOf (fun v1 v2 rest e => keyKind_strs (by rw [← e]; exact hS)) (by omega) fun st' hp hs => hP _ ?_
    have e := (Array.perm_iff_toList_perm.mp hp).map (·.2)
    have e2 : (pairsOf vs).toList.map (·.2) = vs := by
      rw [pairsOf_toList]
      clear hs e hp hP hL hS m1 hl
      induction vs with
      | nil => rfl
      | cons v vs ih =>
        show v :: (vs.zip vs).map (·.2) = v :: vs
        rw [ih]
    rw [e2] at e
    rw [Array.toList_map]
    exact e
  · have mem : ∀ v ∈ vs, ∃ x t, v = Value.str x t ∧ x ∈ ks := fun v hv => sh (m1 v hv)
    have hS : StrsAre out.toList (out.toList.map strOf) := strsAre_map _ fun v hv => by
      obtain ⟨x, t, e, _⟩ := mem v (ro.mem_iff.mp hv)
      exact ⟨x, t, e⟩
    have pk := ro.map strOf
    have hnd : (vs.map strOf).Nodup := by
      have e : vs.map (fun v => keyE ((0 : Int), v)) = (vs.map strOf).map Sum.inr := by
        rw [List.map_map]
        refine List.map_congr_left fun v hv => ?_
        obtain ⟨i, t, rfl, _⟩ := mem v hv
        rfl
      rw [e] at nd
      exact List.Pairwise.of_map Sum.inr (fun _ _ hne e => hne (congrArg _ e)) nd
    have hmem : ∀ k, k ∈ out.toList.map strOf ↔ k ∈ ks := fun k => by
      rw [pk.mem_iff, List.mem_map]
      constructor
      · rintro ⟨v, hv, e⟩
        obtain ⟨i, t, rfl, hi⟩ := mem v hv
        have e2 : i = k := e
        rw [← e2]
        exact hi
      · intro hk
        obtain ⟨v, hv, e⟩ := m2 (Sum.inr k) (List.mem_map.mpr ⟨k, hk, rfl⟩)
        refine ⟨v, hv, ?_⟩
        rcases keyIs_shape e with ⟨j, t, e1, _⟩ | ⟨x, t, e1, rfl⟩
        · cases e1
        · cases Sum.inr.inj e1
          rfl
    have hlen : (out.toList.map strOf).length = c := by rw [pk.length_eq, List.length_map, hl]
    have hz : ((out.toList.map strOf).map V.str).length ≤ sizeLine := by
      rw [List.length_map, hlen, sizeLine_eq]
      omega
    exact ⟨.ref p, _, inv_new I k g o hp hg hz (vals_of_strs hS), rfl, q _ p (pk.nodup_iff.mpr hnd) hmem hlen (I.hok.fresh hp)⟩
end
end M
end
-- part Kit
section
set_option Elab.async false
set_option linter.all false
set_option maxRecDepth 100000
set_option maxHeartbeats 4000000
namespace M
open PySem PySem.Spec PyProof.Rows L2
/-! ### heaps -/
/-- all but what stands at the addresses of ps is as it was -/
def SameB (ps : List Addr) (H H' : Hp) : Prop := ∀ b o, b ∉ ps → H b = some o → H' b = some o
theorem SameB.refl (ps : List Addr) (H : Hp) : SameB ps H H := fun _ _ _ h => h
theorem SameB.of {ps : List Addr} {H H' : Hp} (h : Same H H') : SameB ps H H' := fun b o _ e => h b o e
theorem SameB.trans {ps : List Addr} {H H1 H2 : Hp} (a : SameB ps H H1) (b : SameB ps H1 H2) : SameB ps H H2 := fun c o n h => b c o n (a c o n h)
theorem SameB.put {ps : List Addr} {H H' : Hp} {a : Addr} {o : HO} (h : SameB ps H H') (ha : a ∈ ps) : SameB ps H (upd H' a o) := fun b u n e => by
  rw [upd_ne (fun z => by
    subst z
    exact n ha)]
  exact h b u n e
theorem same_new {H : Hp} {p : Addr} {o : HO} (h : H p = none) : Same H (upd H p o) := fun a u e => by
  rw [upd_ne (ne_of_none e h)]
  exact e
theorem same_put {H H' : Hp} {p : Addr} {o : HO} (e : Same H H') (h : H p = none) : Same H (upd H' p o) := fun a u ha => by
  rw [upd_ne (ne_of_none ha h)]
  exact e a u ha
theorem same_rd {H H' : Hp} {a : Addr} {u : HO} (e : Same H H') (h : Rd H a u) : Rd H' a u := h.elim (fun h => .inl (e _ _ h)) fun ⟨o, h⟩ => .inr ⟨o, e _ _ h⟩
theorem same_tup {K : PySem.W.Frag} {H H' : Hp} {a : Addr} {xs : List V} (e : Same H H') (h : SqT K H a xs) : SqT K H' a xs := h.elim (fun h => .inl (same_rd e h)) .inr
/-- behind a lock: what was there is there -/
theorem same_unlock {H H' : Hp} {d : Addr} {u : HO} {od : Obj} (hd : H d = some u) (e : Same (upd H d (.frz od u)) H') : Same H (upd H' d u) := fun b o h => by
  by_cases z : b = d
  · subst z
    rw [upd_same]
    exact hd.symm.trans h
  · rw [upd_ne z]
    exact e b o (by rw [upd_ne z]; exact h)
theorem lock_back {H : Hp} {d : Addr} {u : HO} {od : Obj} (hd : H d = some u) : upd (upd H d (.frz od u)) d u = H := by
  funext b
  by_cases z : b = d
  · subst z
    rw [upd_same, hd]
  · rw [upd_ne z, upd_ne z]
theorem tupOf {K : PySem.W.Frag} {H : Hp} {a : Addr} {xs : List V} (h : H a = some (.tup xs)) : SqT K H a xs := .inl (.inl h)
theorem lstOf {K : PySem.W.Frag} {H : Hp} {a : Addr} {xs : List V} (h : H a = some (.lst xs)) : SqL K H a xs := .inl (.inl h)
theorem rd_lock {H : Hp} {d : Addr} {u : HO} {od : Obj} {a : Addr} {v : HO} (hd : H d = some u) (hm : Mut (some u)) (h : Rd H a v) : Rd (upd H d (.frz od u)) a v := by
  by_cases e : a = d
  · subst e
    rcases h with h | ⟨o, h⟩
    · rw [hd] at h
      cases h
      exact .inr ⟨od, upd_same⟩
    · rw [hd] at h
      cases h
      exact hm.elim
  · rcases h with h | ⟨o, h⟩
    · exact .inl (by rw [upd_ne e]; exact h)
    · exact .inr ⟨o, by rw [upd_ne e]; exact h⟩
theorem ne_at {H : Hp} {a b : Addr} {o u : HO} (h : H a = some o) (k : H b = some u) (n : o ≠ u) : a ≠ b := fun e => n (Option.some.inj (h.symm.trans (e ▸ k)))
theorem lock_ne {H : Hp} {d : Addr} {u : HO} {od : Obj} {a : Addr} {v : HO} (hd : H d = some u) (h : H a = some v) (n : v ≠ u) : upd H d (.frz od u) a = some v := by
  rw [upd_ne (ne_at h hd n)]
  exact h
/-- all that is of the kind P stays -/
def SameX (P : HO → Prop) (H H' : Hp) : Prop := ∀ a o, P o → H a = some o → H' a = some o
theorem SameX.of {P : HO → Prop} {H H' : Hp} (h : Same H H') : SameX P H H' := fun a o _ e => h a o e
def NL (o : HO) : Prop := ∀ ys, o ≠ .lst ys
def ND (o : HO) : Prop := ∀ ys, o ≠ .dK ys
theorem sameX_lst {H : Hp} {D : Addr} {ys zs : List V} (h : H D = some (.lst ys)) : SameX NL H (upd H D (.lst zs)) := fun a o n e => by
  rw [upd_ne (ne_at e h (n _))]
  exact e
theorem sameX_dK {H : Hp} {D : Addr} {ys zs : List (Key × V)} (h : H D = some (.dK ys)) : SameX ND H (upd H D (.dK zs)) := fun a o n e => by
  rw [upd_ne (ne_at e h (n _))]
  exact e
/-! ### two lists, one by one -/
inductive A2 {α β : Type} (R : α → β → Prop) : List α → List β → Prop
  | nil : A2 R [] []
  | cons {a : α} {b : β} {as : List α} {bs : List β} : R a b → A2 R as bs → A2 R (a :: as) (b :: bs)
namespace A2
variable {α β : Type} {R S : α → β → Prop}
theorem imp : ∀ {as : List α} {bs : List β}, (∀ a b, R a b → S a b) → A2 R as bs → A2 S as bs
  | _, _, _, .nil => .nil
  | _, _, h, .cons a b => .cons (h _ _ a) (b.imp h)
theorem length : ∀ {as : List α} {bs : List β}, A2 R as bs → bs.length = as.length
  | _, _, .nil => rfl
  | _, _, .cons _ b => congrArg Nat.succ b.length
theorem append : ∀ {as cs : List α} {bs ds : List β}, A2 R as bs → A2 R cs ds → A2 R (as ++ cs) (bs ++ ds)
  | _, _, _, _, .nil, h => h
  | _, _, _, _, .cons a b, h => .cons a (b.append h)
theorem snoc {as : List α} {bs : List β} {a : α} {b : β} (h : A2 R as bs) (r : R a b) : A2 R (as ++ [a]) (bs ++ [b]) := h.append (.cons r .nil)
theorem get : ∀ {as : List α} {bs : List β}, A2 R as bs → ∀ {i : Nat} {a : α}, as[i]? = some a → ∃ b, bs[i]? = some b ∧ R a b
  | _, _, .nil, i, _, h => by simp at h
  | _, _, .cons r t, 0, _, h => ⟨_, rfl, by
      obtain rfl := Option.some.inj h
      exact r⟩
  | _, _, .cons r t, i + 1, _, h => t.get (i := i) h
theorem getr : ∀ {as : List α} {bs : List β}, A2 R as bs → ∀ {i : Nat} {b : β}, bs[i]? = some b → ∃ a, as[i]? = some a ∧ R a b
  | _, _, .nil, i, _, h => by simp at h
  | _, _, .cons r t, 0, _, h => ⟨_, rfl, by
      obtain rfl := Option.some.inj h
      exact r⟩
  | _, _, .cons r t, i + 1, _, h => t.getr (i := i) h
theorem mem : ∀ {as : List α} {bs : List β}, A2 R as bs → ∀ {a : α}, a ∈ as → ∃ b ∈ bs, R a b
  | _, _, .cons r t, a, h => by
    rcases List.mem_cons.mp h with rfl | h
    · exact ⟨_, List.mem_cons_self, r⟩
    · obtain ⟨b, m, q⟩ := t.mem h
      exact ⟨b, List.mem_cons_of_mem _ m, q⟩
theorem map {g : α → β} : ∀ {as : List α}, (∀ a ∈ as, R a (g a)) → A2 R as (as.map g)
  | [], _ => .nil
  | a :: as, h => .cons (h a List.mem_cons_self) (A2.map fun b m => h b (List.mem_cons_of_mem _ m))
theorem eq {g : α → β} : ∀ {as : List α} {bs : List β}, A2 (fun a b => b = g a) as bs → bs = as.map g
  | _, _, .nil => rfl
  | _, _, .cons r t => by rw [r, t.eq]; rfl
theorem of_get : ∀ {as : List α} {bs : List β}, bs.length = as.length → (∀ (i : Nat) (a : α) (b : β), as[i]? = some a → bs[i]? = some b → R a b) → A2 R as bs
  | [], [], _, _ => .nil
  | [], b :: bs, h, _ => by simp at h
  | a :: as, [], h, _ => by simp at h
  | a :: as, b :: bs, h, q => .cons (q 0 a b rfl rfl) (A2.of_get (Nat.succ.inj h) fun i x y e1 e2 => q (i + 1) x y e1 e2)
end A2
/-! ### what is walked -/
structure Wk {α : Type} (J : It) (St : Hp → Prop) (xs : List α) (val : α → V → Hp → Prop) : Prop where
  keep : ∀ H H', Same H H' → St H → St H'
  go : ∀ i x H, St H → xs[i]? = some x → J.go i H
  stop : ∀ i H, St H → xs.length ≤ i → J.stop i H
  yld : ∀ i x H v H', St H → xs[i]? = some x → J.yld i H v H' → Same H H' ∧ val x v H'
theorem wk_list {α : Type} {K : PySem.W.Frag} {a : Addr} {vs : List V} {ys : List α} {R : α → V → Hp → Prop} (mono : ∀ y v H H', Same H H' → R y v H → R y v H') :
    Wk (Itl K a) (fun H => SqL K H a vs ∧ A2 (fun y v => R y v H) ys vs) ys R where
  keep := fun H H' s h => ⟨s.seq h.1, h.2.imp fun y v => mono y v H H' s⟩
  go := fun i x H h e => by
    obtain ⟨v, e2, _⟩ := h.2.get e
    exact ⟨vs, v, h.1, e2⟩
  stop := fun i H h e => ⟨vs, h.1, by rw [h.2.length]; exact e⟩
  yld := fun i x H v H' h e y => by
    obtain ⟨rfl, f⟩ := y
    obtain ⟨u, e2, r⟩ := h.2.get e
    have e3 := f vs h.1
    rw [e2] at e3
    cases e3
    exact ⟨.refl _, r⟩
theorem wk_listV {K : PySem.W.Frag} {a : Addr} {vs : List V} : Wk (Itl K a) (fun H => SqL K H a vs) vs (fun y v _ => v = y) where
  keep := fun H H' s h => s.seq h
  go := fun i x H h e => ⟨vs, x, h, e⟩
  stop := fun i H h e => ⟨vs, h, e⟩
  yld := fun i x H v H' h e y => by
    obtain ⟨rfl, f⟩ := y
    exact ⟨.refl _, Option.some.inj ((f vs h).symm.trans e)⟩
theorem wk_listM {α : Type} {K : PySem.W.Frag} {a : Addr} {ys : List α} {m : α → V} : Wk (Itl K a) (fun H => SqL K H a (ys.map m)) ys (fun y v _ => v = m y) where
  keep := fun H H' s h => s.seq h
  go := fun i x H h e => ⟨_, m x, h, by rw [List.getElem?_map, e]; rfl⟩
  stop := fun i H h e => ⟨_, h, by rw [List.length_map]; exact e⟩
  yld := fun i x H v H' h e y => by
    obtain ⟨rfl, f⟩ := y
    refine ⟨.refl _, Option.some.inj ((f _ h).symm.trans ?_)⟩
    rw [List.getElem?_map, e]
    rfl
theorem wk_tupM {α : Type} {K : PySem.W.Frag} {a : Addr} {ys : List α} {m : α → V} : Wk (Itt K a) (fun H => SqT K H a (ys.map m)) ys (fun y v _ => v = m y) where
  keep := fun H H' s h => same_tup s h
  go := fun i x H h e => ⟨_, m x, h, by rw [List.getElem?_map, e]; rfl⟩
  stop := fun i H h e => ⟨_, h, by rw [List.length_map]; exact e⟩
  yld := fun i x H v H' h e y => by
    obtain ⟨rfl, f⟩ := y
    refine ⟨.refl _, Option.some.inj ((f _ h).symm.trans ?_)⟩
    rw [List.getElem?_map, e]
    rfl
theorem wk_keys {d : Addr} {o : Obj} {kvs : List (Key × V)} : Wk (Itk d o kvs) (fun H => H d = some (.frz o (.dK kvs))) kvs (fun kv v _ => v = kV kv.1) where
  keep := fun H H' s h => s _ _ h
  go := fun i x H h e => ⟨h, (List.getElem?_eq_some_iff.mp e).1⟩
  stop := fun i H h e => ⟨h, e⟩
  yld := fun i x H v H' h e y => by
    obtain ⟨rfl, k, u, e2, rfl⟩ := y
    rw [e] at e2
    cases e2
    exact ⟨.refl _, rfl⟩
theorem wk_vals {d : Addr} {o : Obj} {kvs : List (Key × V)} : Wk (Itd d o kvs) (fun H => H d = some (.frz o (.dK kvs))) kvs (fun kv v _ => v = kv.2) where
  keep := fun H H' s h => s _ _ h
  go := fun i x H h e => ⟨h, (List.getElem?_eq_some_iff.mp e).1⟩
  stop := fun i H h e => ⟨h, e⟩
  yld := fun i x H v H' h e y => by
    obtain ⟨rfl, k, e2⟩ := y
    rw [e] at e2
    cases e2
    exact ⟨.refl _, rfl⟩
theorem wk_items {d : Addr} {o : Obj} {kvs : List (Key × V)} : Wk (Iti d o kvs) (fun H => H d = some (.frz o (.dK kvs))) kvs (fun kv v H => ∃ T, v = .ref T ∧ H T = some (.tup [kV kv.1, kv.2])) where
  keep := fun H H' s h => s _ _ h
  go := fun i x H h e => ⟨h, (List.getElem?_eq_some_iff.mp e).1⟩
  stop := fun i H h e => ⟨h, e⟩
  yld := fun i x H v H' h e y => by
    obtain ⟨T, k, u, e2, rfl, n, rfl⟩ := y
    rw [e] at e2
    cases e2
    exact ⟨same_new n, T, rfl, upd_same⟩
theorem wk_range {lo : Int} {n : Nat} : Wk (Itr lo n) (fun _ => True) (List.range n) (fun i v _ => v = .int (lo + i)) where
  keep := fun H H' s h => h
  go := fun i x H h e => by
    have := (List.getElem?_eq_some_iff.mp e).1
    rw [List.length_range] at this
    exact this
  stop := fun i H h e => by
    rw [List.length_range] at e
    exact e
  yld := fun i x H v H' h e y => by
    obtain ⟨rfl, rfl⟩ := y
    obtain ⟨h1, h2⟩ := List.getElem?_eq_some_iff.mp e
    rw [List.getElem_range] at h2
    subst h2
    exact ⟨.refl _, rfl⟩
theorem wk_str {x : Str} : Wk (Its x) (fun _ => True) x.cps.toList (fun c v _ => v = .str ⟨#[c]⟩) where
  keep := fun H H' s h => h
  go := fun i c H h e => by
    have := (List.getElem?_eq_some_iff.mp e).1
    rw [Array.length_toList] at this
    exact this
  stop := fun i H h e => by
    rw [Array.length_toList] at e
    exact e
  yld := fun i c H v H' h e y => by
    obtain ⟨rfl, c', e2, rfl⟩ := y
    rw [Array.getElem?_toList, e2] at e
    cases e
    exact ⟨.refl _, rfl⟩
/-! ### comprehensions and loops over what is walked -/
section
variable {α β : Type} {J : It} {St : Hp → Prop} {xs : List α} {val : α → V → Hp → Prop}
theorem fm_snoc {f : α → Option β} {i : Nat} {x : α} (e : xs[i]? = some x) : (xs.take (i + 1)).filterMap f = (xs.take i).filterMap f ++ (f x).toList := by
  rw [List.take_add_one, e, List.filterMap_append]
  cases h : f x <;> simp [h]
/-- R speaks of no list -/
def RmL (R : β → V → Hp → Prop) : Prop := ∀ b v H H', SameX NL H H' → R b v H → R b v H'
def RmD (R : β → V → Hp → Prop) : Prop := ∀ b v H H', SameX ND H H' → R b v H → R b v H'
theorem lcG (wk : Wk J St xs val) {g : TG} {tt : TT} {te : TE} {vs : List Nat} {σ : L2.St} {H1 : Hp} {D : Addr} {Qd : Hp → Prop} (f : α → Option β) (R : β → V → Hp → Prop) (Rm : RmL R)
    (hD : H1 D = none) (hS : St H1) (hl : xs.length ≤ 1000)
    (step : ∀ (i : Nat) (x : α) (v : V) (H : Hp) (Ky : V → Hp → Prop) (Kn : Hp → Prop), xs[i]? = some x → Same H1 H → St H → val x v H → (∀ y H4 z, Same H H4 → f x = some z → R z y H4 → Ky y H4) → (∀ H3, Same H H3 → f x = none → Kn H3) →
      g v (wipe σ vs) H fun σ2 H2 => wipe σ2 vs = wipe σ vs ∧ tt σ2 H2 fun b H3 => if b = true then te σ2 H3 Ky else Kn H3)
    (fin : ∀ H' ys, Same H1 H' → H' D = some (.lst ys) → A2 (fun z y => R z y H') (xs.filterMap f) ys → Qd H') :
    ∃ W : Nat → Nat → Hp → Prop, (∃ m, W 0 m (upd H1 D (.lst []))) ∧ ∀ i m H, W i m H →
      (J.stop i H ∧ Qd H) ∨ (J.go i H ∧ ∃ Nx : Hp → Prop, (∀ H', Nx H' → ∃ m', m' < m ∧ W (i + 1) m' H') ∧ ∀ x H', J.yld i H x H' → g x (wipe σ vs) H' fun σ2 H2 => wipe σ2 vs = wipe σ vs ∧ tt σ2 H2 fun b H3 =>
        if b = true then te σ2 H3 fun y H4 => ∃ acc, H4 D = some (.lst acc) ∧ acc.length < sizeLine ∧ Nx (upd H4 D (.lst (acc ++ [y]))) else Nx H3) := by
  refine ⟨fun i m H => m = xs.length - i ∧ i ≤ xs.length ∧ Same H1 H ∧ ∃ ys, H D = some (.lst ys) ∧ A2 (fun z y => R z y H) ((xs.take i).filterMap f) ys, ⟨xs.length, by simp, Nat.zero_le _, same_new hD, [], upd_same, .nil⟩, ?_⟩
  rintro i m H ⟨rfl, hi, sm, ys, ey, ay⟩
  have hSt : St H := wk.keep _ _ sm hS
  by_cases hlt : i < xs.length
  · have ex : xs[i]? = some xs[i] := by simp [hlt]
    refine .inr ⟨wk.go i _ H hSt ex, fun H => Same H1 H ∧ ∃ ys, H D = some (.lst ys) ∧ A2 (fun z y => R z y H) ((xs.take (i + 1)).filterMap f) ys, fun H' ⟨s1, ys1, e1, a1⟩ => ⟨xs.length - (i + 1), by omega, rfl, hlt, s1, ys1, e1, a1⟩, fun v H' y => ?_⟩
    obtain ⟨s1, hv⟩ := wk.yld i _ H v H' hSt ex y
    refine step i _ v H' _ _ ex (sm.trans s1) (wk.keep _ _ s1 hSt) hv (fun y H4 z s4 ez rz => ?_) (fun H3 s3 ez => ?_)
    · have s14 : Same H H4 := s1.trans s4
      refine ⟨ys, s14 _ _ ey, ?_, same_put (sm.trans s14) hD, ys ++ [y], upd_same, ?_⟩
      · rw [ay.length]
        have h1 : ((xs.take i).filterMap f).length ≤ (xs.take i).length := List.length_filterMap_le ..
        have h2 : (xs.take i).length ≤ xs.length := by rw [List.length_take]; omega
        exact small1000 (by omega)
      · rw [fm_snoc ex, ez]
        have s5 : SameX NL H4 (upd H4 D (.lst (ys ++ [y]))) := sameX_lst (s14 _ _ ey)
        exact (ay.imp fun b v r => Rm b v _ _ s5 (Rm b v _ _ (.of s14) r)).snoc (Rm _ _ _ _ s5 rz)
    · have s13 : Same H H3 := s1.trans s3
      refine ⟨sm.trans s13, ys, s13 _ _ ey, ?_⟩
      rw [fm_snoc ex, ez]
      show A2 _ (_ ++ []) ys
      rw [List.append_nil]
      exact ay.imp fun b v r => Rm b v _ _ (.of s13) r
  · refine .inl ⟨wk.stop i H hSt (by omega), fin H ys sm ey ?_⟩
    rw [List.take_of_length_le (by omega)] at ay
    exact ay
/-- .. of things that are plain values -/
theorem lcV (wk : Wk J St xs val) {g : TG} {tt : TT} {te : TE} {vs : List Nat} {σ : L2.St} {H1 : Hp} {D : Addr} {Qd : Hp → Prop} (f : α → Option β) (m : β → V)
    (hD : H1 D = none) (hS : St H1) (hl : xs.length ≤ 1000)
    (step : ∀ (i : Nat) (x : α) (v : V) (H : Hp) (Ky : V → Hp → Prop) (Kn : Hp → Prop), xs[i]? = some x → Same H1 H → St H → val x v H → (∀ H4 z, Same H H4 → f x = some z → Ky (m z) H4) → (∀ H3, Same H H3 → f x = none → Kn H3) →
      g v (wipe σ vs) H fun σ2 H2 => wipe σ2 vs = wipe σ vs ∧ tt σ2 H2 fun b H3 => if b = true then te σ2 H3 Ky else Kn H3)
    (fin : ∀ H', Same H1 H' → H' D = some (.lst ((xs.filterMap f).map m)) → Qd H') :
    ∃ W : Nat → Nat → Hp → Prop, (∃ m, W 0 m (upd H1 D (.lst []))) ∧ ∀ i m H, W i m H →
      (J.stop i H ∧ Qd H) ∨ (J.go i H ∧ ∃ Nx : Hp → Prop, (∀ H', Nx H' → ∃ m', m' < m ∧ W (i + 1) m' H') ∧ ∀ x H', J.yld i H x H' → g x (wipe σ vs) H' fun σ2 H2 => wipe σ2 vs = wipe σ vs ∧ tt σ2 H2 fun b H3 =>
        if b = true then te σ2 H3 fun y H4 => ∃ acc, H4 D = some (.lst acc) ∧ acc.length < sizeLine ∧ Nx (upd H4 D (.lst (acc ++ [y]))) else Nx H3) :=
  lcG wk f (fun z y _ => y = m z) (fun b v H H' _ r => r) hD hS hl (fun i x v H Ky Kn e s h hv ky kn => step i x v H Ky Kn e s h hv (fun H4 z s4 ez => ky _ H4 z s4 ez rfl) kn) fun H' ys s e a => fin H' s (by rw [e, A2.eq a])
theorem valV_none {kvs : List (Key × V)} {k : Key} (h : k ∉ kvs.map (·.1)) : (kvs.any fun kv => decide (kv.1 = k)) = false := by
  rw [List.any_eq_false]
  intro kv hkv e
  exact h (List.mem_map.mpr ⟨kv, hkv, of_decide_eq_true e⟩)
theorem putK_new {kvs : List (Key × V)} {k : Key} {v : V} (h : k ∉ kvs.map (·.1)) : putK kvs k v = kvs ++ [(k, v)] := by
  unfold putK
  rw [valV_none h]
  exact if_neg (by decide)
/-- dict comprehensions over unlike keys, no test -/
theorem dcG (wk : Wk J St xs val) {g : TG} {tt : TT} {tk tv : TE} {vs : List Nat} {σ : L2.St} {H1 : Hp} {D : Addr} {Qd : Hp → Prop} (ky : α → Key) (R : α → V → Hp → Prop) (Rm : RmD R)
    (nd : (xs.map ky).Nodup) (hD : H1 D = none) (hS : St H1) (hl : xs.length ≤ 1000)
    (step : ∀ (i : Nat) (x : α) (v : V) (H : Hp) (Ky : V → V → Hp → Prop) (Kn : Hp → Prop), xs[i]? = some x → Same H1 H → St H → val x v H → (∀ z H5, Same H H5 → R x z H5 → Ky (kV (ky x)) z H5) →
      g v (wipe σ vs) H fun σ2 H2 => wipe σ2 vs = wipe σ vs ∧ tt σ2 H2 fun b H3 => if b = true then tk σ2 H3 fun y H4 => tv σ2 H4 fun z H5 => Ky y z H5 else Kn H3)
    (fin : ∀ H' kvs, Same H1 H' → H' D = some (.dK kvs) → A2 (fun x kv => kv.1 = ky x ∧ R x kv.2 H') xs kvs → Qd H') :
    ∃ W : Nat → Nat → Hp → Prop, (∃ m, W 0 m (upd H1 D (.dK []))) ∧ ∀ i m H, W i m H →
      (J.stop i H ∧ Qd H) ∨ (J.go i H ∧ ∃ Nx : Hp → Prop, (∀ H', Nx H' → ∃ m', m' < m ∧ W (i + 1) m' H') ∧ ∀ x H', J.yld i H x H' → g x (wipe σ vs) H' fun σ2 H2 => wipe σ2 vs = wipe σ vs ∧ tt σ2 H2 fun b H3 =>
        if b = true then tk σ2 H3 fun y H4 => tv σ2 H4 fun z H5 => ∃ kvs k, y = kV k ∧ H5 D = some (.dK kvs) ∧ kvs.length < sizeLine ∧ Nx (upd H5 D (.dK (putK kvs k z))) else Nx H3) := by
  refine ⟨fun i m H => m = xs.length - i ∧ i ≤ xs.length ∧ Same H1 H ∧ ∃ kvs, H D = some (.dK kvs) ∧ A2 (fun x kv => kv.1 = ky x ∧ R x kv.2 H) (xs.take i) kvs, ⟨xs.length, by simp, Nat.zero_le _, same_new hD, [], upd_same, .nil⟩, ?_⟩
  rintro i m H ⟨rfl, hi, sm, ys, ey, ay⟩
  have hSt : St H := wk.keep _ _ sm hS
  by_cases hlt : i < xs.length
  · have ex : xs[i]? = some xs[i] := by simp [hlt]
    refine .inr ⟨wk.go i _ H hSt ex, fun H => Same H1 H ∧ ∃ kvs, H D = some (.dK kvs) ∧ A2 (fun x kv => kv.1 = ky x ∧ R x kv.2 H) (xs.take (i + 1)) kvs, fun H' ⟨s1, ys1, e1, a1⟩ => ⟨xs.length - (i + 1), by omega, rfl, hlt, s1, ys1, e1, a1⟩, fun v H' y => ?_⟩
    obtain ⟨s1, hv⟩ := wk.yld i _ H v H' hSt ex y
    refine step i _ v H' _ _ ex (sm.trans s1) (wk.keep _ _ s1 hSt) hv (fun z H5 s4 rz => ?_)
    have s14 : Same H H5 := s1.trans s4
    have hk : ys.map (·.1) = (xs.take i).map ky := by
      have q : ∀ {as : List α} {bs : List (Key × V)}, A2 (fun x kv => kv.1 = ky x ∧ R x kv.2 H) as bs → bs.map (·.1) = as.map ky := by
        intro as bs a
        induction a with
        | nil => rfl
        | cons r t ih => rw [List.map_cons, List.map_cons, ih, r.1]
      exact q ay
    have hn : ky xs[i] ∉ ys.map (·.1) := by
      rw [hk]
      intro hm
      obtain ⟨y, hy, e⟩ := List.mem_map.mp hm
      obtain ⟨j, hj, e2⟩ := List.mem_take_iff_getElem.mp hy
      have h1 : j < (xs.map ky).length := by rw [List.length_map]; omega
      have h2 : i < (xs.map ky).length := by rw [List.length_map]; omega
      refine List.pairwise_iff_getElem.mp nd j i h1 h2 (by omega) ?_
      rw [List.getElem_map, List.getElem_map, e2, e]
    refine ⟨ys, ky xs[i], rfl, s14 _ _ ey, ?_, same_put (sm.trans s14) hD, _, upd_same, ?_⟩
    · rw [ay.length]
      have h2 : (xs.take i).length ≤ xs.length := by rw [List.length_take]; omega
      exact small1000 (by omega)
    · rw [putK_new hn, List.take_add_one, ex]
      have s5 : SameX ND H5 (upd H5 D (.dK (ys ++ [(ky xs[i], z)]))) := sameX_dK (s14 _ _ ey)
      exact (ay.imp fun b v r => ⟨r.1, Rm _ _ _ _ s5 (Rm _ _ _ _ (.of s14) r.2)⟩).snoc ⟨rfl, Rm _ _ _ _ s5 rz⟩
  · refine .inl ⟨wk.stop i H hSt (by omega), fin H ys sm ey ?_⟩
    rw [List.take_of_length_le (by omega)] at ay
    exact ay
theorem dcV (wk : Wk J St xs val) {g : TG} {tt : TT} {tk tv : TE} {vs : List Nat} {σ : L2.St} {H1 : Hp} {D : Addr} {Qd : Hp → Prop} (ky : α → Key) (m : α → V)
    (nd : (xs.map ky).Nodup) (hD : H1 D = none) (hS : St H1) (hl : xs.length ≤ 1000)
    (step : ∀ (i : Nat) (x : α) (v : V) (H : Hp) (Ky : V → V → Hp → Prop) (Kn : Hp → Prop), xs[i]? = some x → Same H1 H → St H → val x v H → (∀ H5, Same H H5 → Ky (kV (ky x)) (m x) H5) →
      g v (wipe σ vs) H fun σ2 H2 => wipe σ2 vs = wipe σ vs ∧ tt σ2 H2 fun b H3 => if b = true then tk σ2 H3 fun y H4 => tv σ2 H4 fun z H5 => Ky y z H5 else Kn H3)
    (fin : ∀ H', Same H1 H' → H' D = some (.dK (xs.map fun x => (ky x, m x))) → Qd H') :
    ∃ W : Nat → Nat → Hp → Prop, (∃ m, W 0 m (upd H1 D (.dK []))) ∧ ∀ i m H, W i m H →
      (J.stop i H ∧ Qd H) ∨ (J.go i H ∧ ∃ Nx : Hp → Prop, (∀ H', Nx H' → ∃ m', m' < m ∧ W (i + 1) m' H') ∧ ∀ x H', J.yld i H x H' → g x (wipe σ vs) H' fun σ2 H2 => wipe σ2 vs = wipe σ vs ∧ tt σ2 H2 fun b H3 =>
        if b = true then tk σ2 H3 fun y H4 => tv σ2 H4 fun z H5 => ∃ kvs k, y = kV k ∧ H5 D = some (.dK kvs) ∧ kvs.length < sizeLine ∧ Nx (upd H5 D (.dK (putK kvs k z))) else Nx H3) :=
  dcG wk ky (fun x z _ => z = m x) (fun b v H H' _ r => r) nd hD hS hl (fun i x v H Ky Kn e s h hv ky => step i x v H Ky Kn e s h hv (fun H5 s5 => ky _ H5 s5 rfl)) fun H' kvs s e a => fin H' s (by
    rw [e, A2.eq (g := fun x => (ky x, m x)) (a.imp fun x kv r => Prod.ext r.1 r.2)])
theorem forG (wk : Wk J St xs val) {g : TG} {tb : TS} {D : Ends} {σ : L2.St} {H : Hp} (Pv : Nat → L2.St → Hp → Prop) (h0 : Pv 0 σ H) (hl : ∀ i σ H, i ≤ xs.length → Pv i σ H → St H)
    (hs : ∀ (i : Nat) (x : α) (v : V) (σ : L2.St) (H H' : Hp), xs[i]? = some x → Pv i σ H → Same H H' → val x v H' → g v σ H' fun σ2 H2 => tb { D with nx := Pv (i + 1), ct := Pv (i + 1), bk := D.nx } σ2 H2)
    (hd : ∀ σ H, Pv xs.length σ H → D.nx σ H) :
    ∃ W : Nat → Nat → L2.St → Hp → Prop, (∃ m, W 0 m σ H) ∧ ∀ i m σ H, W i m σ H →
      (J.stop i H ∧ D.nx σ H) ∨ (J.go i H ∧ ∃ N : L2.St → Hp → Prop, (∀ σ' H', N σ' H' → ∃ m', m' < m ∧ W (i + 1) m' σ' H') ∧ ∀ x H', J.yld i H x H' → g x σ H' fun σ2 H2 => tb { D with nx := N, ct := N, bk := D.nx } σ2 H2) := by
  refine ⟨fun i m σ H => m = xs.length - i ∧ i ≤ xs.length ∧ Pv i σ H, ⟨xs.length, by simp, Nat.zero_le _, h0⟩, ?_⟩
  rintro i m σ H ⟨rfl, hi, p⟩
  have q := hl i σ H hi p
  by_cases hlt : i < xs.length
  · have ex : xs[i]? = some xs[i] := by simp [hlt]
    refine .inr ⟨wk.go i _ H q ex, Pv (i + 1), fun σ' H' p' => ⟨xs.length - (i + 1), by omega, rfl, hlt, p'⟩, fun v H' y => ?_⟩
    obtain ⟨s1, hv⟩ := wk.yld i _ H v H' q ex y
    exact hs i _ v σ H H' ex p s1 hv
  · have e : i = xs.length := by omega
    subst e
    exact .inl ⟨wk.stop _ H q (Nat.le_refl _), hd σ H p⟩
end
/-! ### dicts as functions on names -/
def kS (x : Str) : Key := .inr x
theorem kS_inj {a b : Str} (h : kS a = kS b) : a = b := Sum.inr.inj h
theorem nodup_kS {ks : List Str} (h : ks.Nodup) : (ks.map kS).Nodup := by
  rw [List.nodup_iff_pairwise_ne] at *
  exact (List.pairwise_map).mpr (h.imp fun n e => n (kS_inj e))
def fdV (ks : List Str) (g : Str → V) : List (Key × V) := ks.map fun k => (kS k, g k)
def up {α : Type} (f : Str → α) (k : Str) (v : α) : Str → α := fun j => if j = k then v else f j
theorem up_same {α : Type} {f : Str → α} {k : Str} {v : α} : up f k v k = v := if_pos rfl
theorem up_ne {α : Type} {f : Str → α} {k j : Str} {v : α} (h : j ≠ k) : up f k v j = f j := if_neg h
theorem fd_get {ks : List Str} {g : Str → V} {k : Str} (h : k ∈ ks) : valV (fdV ks g) (kS k) = some (g k) := by
  unfold valV fdV
  rw [List.find?_map]
  induction ks with
  | nil => cases h
  | cons a r ih =>
    rw [List.find?_cons]
    by_cases e : a = k
    · subst e
      simp
    · have : ((fun kv : Key × V => decide (kv.1 = kS k)) ∘ fun k => (kS k, g k)) a = false := by
        simp only [Function.comp]
        exact decide_eq_false fun z => e (kS_inj z)
      rw [this]
      exact ih ((List.mem_cons.mp h).resolve_left fun z => e z.symm)
theorem fd_none {ks : List Str} {g : Str → V} {k : Str} (h : k ∉ ks) : valV (fdV ks g) (kS k) = none := by
  unfold valV fdV
  rw [List.find?_map]
  have : ks.find? ((fun kv : Key × V => decide (kv.1 = kS k)) ∘ fun k => (kS k, g k)) = none := by
    rw [List.find?_eq_none]
    intro a ha e
    simp only [Function.comp] at e
    exact h (by
      rw [← kS_inj (of_decide_eq_true e)]
      exact ha)
  rw [this]
  rfl
theorem fd_keys {ks : List Str} {g : Str → V} : (fdV ks g).map (·.1) = ks.map kS := by
  unfold fdV
  rw [List.map_map]
  rfl
theorem fd_put {ks : List Str} {g : Str → V} {k : Str} {v : V} (h : k ∈ ks) : putK (fdV ks g) (kS k) v = fdV ks (up g k v) := by
  unfold putK
  have : ((fdV ks g).any fun kv => decide (kv.1 = kS k)) = true := by
    rw [List.any_eq_true]
    exact ⟨(kS k, g k), List.mem_map.mpr ⟨k, h, rfl⟩, decide_eq_true rfl⟩
  rw [if_pos this]
  unfold fdV
  rw [List.map_map]
  refine List.map_congr_left fun a ha => ?_
  simp only [Function.comp]
  by_cases e : a = k
  · subst e
    rw [if_pos rfl, up_same]
  · rw [if_neg fun z => e (kS_inj z), up_ne e]
theorem fd_new {ks : List Str} {g : Str → V} {k : Str} {v : V} (h : k ∉ ks) : putK (fdV ks g) (kS k) v = fdV (ks ++ [k]) (up g k v) := by
  rw [putK_new (by
    rw [fd_keys]
    intro z
    obtain ⟨a, ha, e⟩ := List.mem_map.mp z
    exact h (kS_inj e ▸ ha))]
  unfold fdV
  rw [List.map_append]
  congr 1
  · refine List.map_congr_left fun a ha => ?_
    rw [up_ne fun z => by
      subst z
      exact h ha]
  · show [(kS k, v)] = [(kS k, up g k v k)]
    rw [up_same]
theorem fd_congr {ks : List Str} {g h : Str → V} (e : ∀ k ∈ ks, g k = h k) : fdV ks g = fdV ks h := List.map_congr_left fun k hk => by rw [e k hk]
theorem fd_len {ks : List Str} {g : Str → V} : (fdV ks g).length = ks.length := List.length_map ..
/-- a dict of names and ints -/
def IntD (H : Hp) (d : Addr) (ks : List Str) (f : Str → Int) : Prop := H d = some (.dK (fdV ks fun k => .int (f k)))
/-- a dict of names and pairs of ints, each a tuple -/
structure PrD (H : Hp) (d : Addr) (ks : List Str) (f : Str → Int × Int) : Prop where
  ex : ∃ r : Str → Addr, H d = some (.dK (fdV ks fun k => .ref (r k))) ∧ ∀ k ∈ ks, H (r k) = some (.tup [.int (f k).1, .int (f k).2])
theorem IntD.same {H H' : Hp} {d : Addr} {ks : List Str} {f : Str → Int} (s : Same H H') (h : IntD H d ks f) : IntD H' d ks f := s _ _ h
theorem PrD.same {H H' : Hp} {d : Addr} {ks : List Str} {f : Str → Int × Int} (s : Same H H') (h : PrD H d ks f) : PrD H' d ks f := ⟨h.ex.imp fun r h => ⟨s _ _ h.1, fun k m => s _ _ (h.2 k m)⟩⟩
theorem dget_fd {H : Hp} {d : Addr} {ks : List Str} {g : Str → V} {k : Str} (h : Rd H d (.dK (fdV ks g))) (m : k ∈ ks) : DGet H d (.str k) (some (g k)) := .inl ⟨_, kS k, h, rfl, (fd_get m).symm⟩
theorem dget_fd0 {H : Hp} {d : Addr} {ks : List Str} {g : Str → V} {k : Str} (h : Rd H d (.dK (fdV ks g))) (m : k ∉ ks) : DGet H d (.str k) none := .inl ⟨_, kS k, h, rfl, (fd_none m).symm⟩
theorem dput_fd {H : Hp} {d : Addr} {ks : List Str} {g : Str → V} {k : Str} {v : V} (h : H d = some (.dK (fdV ks g))) (m : k ∈ ks) (l : ks.length ≤ 1000) : DPut H d (.str k) v (upd H d (.dK (fdV ks (up g k v)))) :=
  .inl ⟨_, kS k, h, rfl, small1000 (by rw [fd_len]; exact l), by rw [fd_put m]⟩
theorem dput_new {H : Hp} {d : Addr} {ks : List Str} {g : Str → V} {k : Str} {v : V} (h : H d = some (.dK (fdV ks g))) (m : k ∉ ks) (l : ks.length ≤ 1000) : DPut H d (.str k) v (upd H d (.dK (fdV (ks ++ [k]) (up g k v)))) :=
  .inl ⟨_, kS k, h, rfl, small1000 (by rw [fd_len]; exact l), by rw [fd_new m]⟩
theorem up_int {f : Str → Int} {k : Str} {i : Int} : up (fun j => V.int (f j)) k (.int i) = fun j => .int (up f k i j) := by
  funext j
  unfold up
  split <;> rfl
/-! ### calls by what is known of a def -/
def Has (P : Program) (w : World) (K : PySem.W.Frag) (mg : Str → Option Value) (base : Heap) (CX : CXT) (k : Nat) (f : Addr) (ps : List Str) (dvs : List V) (sp : Sp) : Prop :=
  ∃ fd ds, FnOk P w K mg base CX k f fd ps sp ∧ Binds K fd ps ds ∧ Vals dvs ds ∧ PySem.W.keepIn K (.ref f) = true
section
variable {X : Cx} {CX : CXT} {k : Nat} {f C pa : Addr} {ps : List Str} {dvs : List V} {sp : Sp} {E : XK} {x nm : Str} {e o : Expr} {es : List Expr} {t : TA} {ta : TE} {pos apos npos : Pos}
theorem hc (G : Has X.prog X.w X.K X.mg X.base CX k f ps dvs sp) (hr : Room k X.A) (hm : X.mg x = some (.ref f)) (hx : Passes CX X E) (ha : PA X (e :: es) t) (hg : Gl X x := by rfl)
    (hdb : (x == ("__debug__" : Str)) = false := by decide) (he : starEach (e :: es) X.env = (false, eval e X.env) :: starEach es X.env := by rfl) (hpl : (backTo pos (starEach es X.env)).any (·.1) = false := by rfl) :
    PE X (.Call (.Name x npos) (e :: es) [] pos) (tCall sp dvs E t) := by
  obtain ⟨fd, ds, F, b, v, kp⟩ := G
  exact pe_call F hr hg hm kp b v hx ha hdb he hpl
theorem hmeth {pl : Sem Bool} (G : Has X.prog X.w X.K X.mg X.base CX k f ps dvs sp) (hr : Room k X.A) (c : Cls X.K C) (hm : Meth X.K C nm f) (hx : Passes CX X E) (ho : PE X o ta) (ha : PA X (e :: es) t)
    (hst : starEach (e :: es) X.env = (false, eval e X.env) :: starEach es X.env := by rfl) (hpl : (backTo pos (starEach es X.env)).any (·.1) = false := by rfl)
    (ht : eval (.Call (.Attribute o nm apos) (e :: es) [] pos) X.env = (do
      let ov ← eval o X.env
      standAt apos.atName
      let (f, first) ← holding [ov] (getMethod ov nm pl)
      callWith pos f first (backTo pos (starEach (e :: es) X.env)) (backToKw pos (keywordEach [] X.env))) := by rfl) : PE X (.Call (.Attribute o nm apos) (e :: es) [] pos) (tMeth C nm sp dvs E ta t) := by
  obtain ⟨fd, ds, F, b, v, kp⟩ := G
  exact pe_meth ho c hm F hr b v hx ha hst hpl ht
theorem hmk (G : Has X.prog X.w X.K X.mg X.base CX k f ps dvs sp) (hr : Room (k + 1) X.A) (MM : Mk X.K C f) (hm : X.mg x = some (.ref C)) (hx : Passes CX X E) (ha : PA X (e :: es) t) (hg : Gl X x := by rfl)
    (hdb : (x == ("__debug__" : Str)) = false := by decide) (he : starEach (e :: es) X.env = (false, eval e X.env) :: starEach es X.env := by rfl) (hpl : (backTo pos (starEach es X.env)).any (·.1) = false := by rfl) :
    PE X (.Call (.Name x npos) (e :: es) [] pos) (tMake C sp dvs E t) := by
  obtain ⟨fd, ds, F, b, v, kp⟩ := G
  exact pe_make MM F hr hg hm b v hx ha hdb he hpl
theorem hprop (G : Has X.prog X.w X.K X.mg X.base CX k f ps dvs sp) (hr : Room (k + 1) X.A) (c : Cls X.K C) (hp : PropOf X.K C nm pa f) (hx : Passes CX X.nox E) (ho : PE X o ta)
    (hab : attributeBase o nm X.env (eval o X.env) = eval o X.env := by rfl) : PE X (.Attribute o nm pos) (tProp C sp dvs E ta) := by
  obtain ⟨fd, ds, F, b, v, kp⟩ := G
  exact pe_prop ho c hp F hr b v hx hab
theorem pe_gint {n : Int} (hm : ∃ t, X.mg x = some (.int n t)) (hg : Gl X x := by rfl) (hdb : (x == ("__debug__" : Str)) = false := by decide) : PE X (.Name x pos) (tC (.int n)) := by
  obtain ⟨t, hm⟩ := hm
  exact pe_glob hg hm ⟨t, rfl⟩ hdb
theorem pe_gstr {n : Str} (hm : ∃ t, X.mg x = some (.str n t)) (hg : Gl X x := by rfl) (hdb : (x == ("__debug__" : Str)) = false := by decide) : PE X (.Name x pos) (tC (.str n)) := by
  obtain ⟨t, hm⟩ := hm
  exact pe_glob hg hm ⟨t, rfl⟩ hdb
end
end M
end
-- part Sp
section
set_option Elab.async false
set_option linter.all false
set_option maxRecDepth 100000
set_option maxHeartbeats 4000000
namespace M
open PySem PySem.Spec PyProof.Rows L2
/-! ### the plain things -/
theorem fm_map {α β : Type} {g : α → β} {l : List α} : l.filterMap (fun x => some (g x)) = l.map g := by
  induction l with
  | nil => rfl
  | cons a l ih => simp [ih]
theorem fm_filter {α β : Type} {p : α → Prop} [DecidablePred p] {g : α → β} {l : List α} : l.filterMap (fun x => if p x then some (g x) else none) = (l.filter fun x => decide (p x)).map g := by
  induction l with
  | nil => rfl
  | cons a l ih =>
    by_cases h : p a <;> simp [h, ih]
theorem all_fm {α : Type} {p : α → Bool} {l : List α} : (l.filterMap fun x => some (p x)).all id = l.all p := by
  rw [fm_map, List.all_map]
  rfl
theorem fd_strs {ks : List Str} {g : Str → V} : (fdV ks g).map (fun kv => kV kv.1) = ks.map V.str := by
  unfold fdV
  rw [List.map_map]
  rfl
theorem nw_same {H H' : Hp} {p : Addr} {o : HO} (h : H p = none) (e : upd H p o = H') : Same H H' := e ▸ same_new h
theorem take_snoc {α : Type} {l : List α} {i : Nat} {x : α} (e : l[i]? = some x) : l.take (i + 1) = l.take i ++ [x] := by
  rw [List.take_add_one, e]
  rfl
theorem nw_at {H H' : Hp} {p : Addr} {o : HO} (e : upd H p o = H') : H' p = some o := e ▸ upd_same
theorem same_at {H H' : Hp} {a : Addr} {o : HO} (s : Same H H') (h : H a = some o) : H' a = some o := s _ _ h
structure Strm where
  name : Str
  tail : Str
  head : Str
  low : Int
  high : Int
structure Plt where
  knots : List Str
  ss : List Strm
def Plt.names (p : Plt) : List Str := p.ss.map (·.name)
def letters : Str := "abcdefghijklmnopqrstuvwxyz0123456789"
structure okName (z : Str) : Prop where
  a : 1 ≤ z.length
  b : z.length ≤ 12
  c : ∀ c ∈ z.cps.toList, c ∈ letters.cps.toList
structure PV (p : Plt) : Prop where
  kn : p.knots.Nodup
  k1 : 1 ≤ p.knots.length
  kl : p.knots.length ≤ 24
  nn : p.names.Nodup
  sl : p.ss.length ≤ 30
  tk : ∀ s ∈ p.ss, s.tail ∈ p.knots
  hk : ∀ s ∈ p.ss, s.head ∈ p.knots
  bd : ∀ s ∈ p.ss, 0 ≤ s.low ∧ s.low ≤ s.high ∧ s.high ≤ 1000000
  ok : ∀ k ∈ p.knots, okName k
  on : ∀ n ∈ p.names, okName n
theorem PV.ln {p : Plt} (h : PV p) : p.names.length ≤ 30 := by
  unfold Plt.names
  rw [List.length_map]
  exact h.sl
/-- what comes into k less what leaves it -/
def net (l : List Strm) (f : Str → Int) (k : Str) : Int := (l.map fun s => (if s.head = k then f s.name else 0) - (if s.tail = k then f s.name else 0)).sum
theorem net_nil {f : Str → Int} {k : Str} : net [] f k = 0 := rfl
theorem net_snoc {l : List Strm} {s : Strm} {f : Str → Int} {k : Str} : net (l ++ [s]) f k = net l f k + ((if s.head = k then f s.name else 0) - (if s.tail = k then f s.name else 0)) := by
  unfold net
  rw [List.map_append, List.sum_append]
  simp
def lackL (l : List Strm) (lim : Str → Int × Int) (L : List Str) : Int :=
  ((l.filter fun s => decide (s.tail ∈ L ∧ s.head ∉ L)).map fun s => (lim s.name).1).sum - ((l.filter fun s => decide (s.head ∈ L ∧ s.tail ∉ L)).map fun s => (lim s.name).2).sum
structure Feas (ks : List Str) (l : List Strm) (lim : Str → Int × Int) (f : Str → Int) : Prop where
  lo : ∀ s ∈ l, (lim s.name).1 ≤ f s.name
  hi : ∀ s ∈ l, f s.name ≤ (lim s.name).2
  bal : ∀ k ∈ ks, net l f k = 0
def ov (r : Int × Int) (f : Int) : Int := max 0 ((f - r.1).natAbs - r.2)
/-- an arc of the residual plant (pushes), a move of it (least) -/
structure Mv where
  tail : Str
  head : Str
  most : Int
  price : Int
  name : Str
  sign : Int
def arc1 (lim : Str → Int × Int) (f : Str → Int) (s : Strm) : List Mv :=
  (if f s.name < (lim s.name).2 then [⟨s.tail, s.head, (lim s.name).2 - f s.name, 0, s.name, 1⟩] else []) ++ (if (lim s.name).1 < f s.name then [⟨s.head, s.tail, f s.name - (lim s.name).1, 0, s.name, -1⟩] else [])
def arcsOf (lim : Str → Int × Int) (f : Str → Int) (l : List Strm) : List Mv := l.flatMap (arc1 lim f)
theorem arcs_snoc {lim : Str → Int × Int} {f : Str → Int} {l : List Strm} {s : Strm} : arcsOf lim f (l ++ [s]) = arcsOf lim f l ++ arc1 lim f s := by
  unfold arcsOf
  rw [List.flatMap_append]
  simp
theorem arc1_len {lim : Str → Int × Int} {f : Str → Int} {s : Strm} : (arc1 lim f s).length ≤ 2 := by
  unfold arc1
  rw [List.length_append]
  split <;> split <;> simp
theorem arcs_len {lim : Str → Int × Int} {f : Str → Int} : ∀ {l : List Strm}, (arcsOf lim f l).length ≤ 2 * l.length
  | [] => Nat.le_refl _
  | s :: l => by
    have ih := @arcs_len lim f l
    have h := @arc1_len lim f s
    unfold arcsOf at ih ⊢
    rw [List.flatMap_cons, List.length_append, List.length_cons]
    omega
/-- from s to e, arc by arc -/
def Chain : Str → Str → List Mv → Prop
  | s, e, [] => s = e
  | s, e, m :: l => m.tail = s ∧ Chain m.head e l
/-- a way of arcs of A from s to e; a rank rises along it -/
structure Way (A : List Mv) (s e : Str) (l : List Mv) : Prop where
  ch : Chain s e l
  mem : ∀ m ∈ l, m ∈ A
  rk : ∃ ρ : Str → Int, ∀ m ∈ l, ρ m.tail < ρ m.head
/-- no arc leaves R, which has the starts and no end -/
def Closed (A : List Mv) (S E : List Str) : Prop := ∃ R : List Str, (∀ s ∈ S, s ∈ R) ∧ (∀ e ∈ E, e ∉ R) ∧ ∀ m ∈ A, m.tail ∈ R → m.head ∈ R
def pushes (f : Str → Int) (a : Int) : List Mv → Str → Int
  | [] => f
  | m :: l => pushes (up f m.name (f m.name + m.sign * a)) a l
theorem pushes_snoc {f : Str → Int} {a : Int} : ∀ {l : List Mv} {m : Mv}, pushes f a (l ++ [m]) = up (pushes f a l) m.name (pushes f a l m.name + m.sign * a)
  | [], _ => rfl
  | x :: l, m => pushes_snoc (l := l)
/-! ### as values -/
def sV (s : Strm) : List V := [.str s.name, .str s.tail, .str s.head, .int s.low, .int s.high]
def lineV (s : Strm) : List V := [.str s.name, .str s.tail, .str s.head]
def arcV (m : Mv) : List V := [.str m.tail, .str m.head, .str m.name, .int m.sign, .int m.most]
def moveV (m : Mv) : List V := [.str m.tail, .str m.head, .int m.most, .int m.price, .str m.name, .int m.sign]
def prV (r : Int × Int) : List V := [.int r.1, .int r.2]
def StL (H : Hp) (a : Addr) (xs : List Str) : Prop := H a = some (.lst (xs.map .str))
theorem StL.same {H H' : Hp} {a : Addr} {xs : List Str} (s : Same H H') (h : StL H a xs) : StL H' a xs := s _ _ h
/-- v is a tuple of xs -/
def TupR (xs : List V) (v : V) (H : Hp) : Prop := ∃ t, v = .ref t ∧ H t = some (.tup xs)
theorem TupR.same {xs : List V} {v : V} {H H' : Hp} (s : Same H H') (h : TupR xs v H) : TupR xs v H' := h.imp fun t h => ⟨h.1, s _ _ h.2⟩
theorem TupR.sx {P : HO → Prop} (hp : ∀ xs, P (.tup xs)) {xs : List V} {v : V} {H H' : Hp} (s : SameX P H H') (h : TupR xs v H) : TupR xs v H' := h.imp fun t h => ⟨h.1, s _ _ (hp _) h.2⟩
/-- at a a list of tuples -/
structure LT {α : Type} (m : α → List V) (H : Hp) (a : Addr) (xs : List α) : Prop where
  ex : ∃ vs, H a = some (.lst vs) ∧ A2 (fun x v => TupR (m x) v H) xs vs
theorem LT.same {α : Type} {m : α → List V} {H H' : Hp} {a : Addr} {xs : List α} (s : Same H H') (h : LT m H a xs) : LT m H' a xs := ⟨h.ex.imp fun vs h => ⟨s _ _ h.1, h.2.imp fun x v => TupR.same s⟩⟩
theorem rmL_tup {α : Type} {m : α → List V} : RmL fun (x : α) v H => TupR (m x) v H := fun b v H H' s h => h.sx (fun xs ys e => by cases e) s
theorem rmD_tup {α : Type} {m : α → List V} : RmD fun (x : α) v H => TupR (m x) v H := fun b v H H' s h => h.sx (fun xs ys e => by cases e) s
theorem LT.wk {α : Type} {m : α → List V} {K : PySem.W.Frag} {a : Addr} {vs : List V} {xs : List α} : Wk (Itl K a) (fun H => SqL K H a vs ∧ A2 (fun x v => TupR (m x) v H) xs vs) xs (fun x v H => TupR (m x) v H) := wk_list fun y v H H' s => TupR.same s
theorem A2.sx {α : Type} {m : α → List V} {H H' : Hp} {xs : List α} {vs : List V} (s : SameX ND H H') (h : A2 (fun x v => TupR (m x) v H) xs vs) : A2 (fun x v => TupR (m x) v H') xs vs := h.imp fun x v r => r.sx (fun xs ys e => by cases e) s
theorem LT.sx {α : Type} {m : α → List V} {H H' : Hp} {a : Addr} {xs : List α} (s : SameX ND H H') (h : LT m H a xs) : LT m H' a xs := ⟨h.ex.imp fun vs h => ⟨s _ _ (fun ys e => by cases e) h.1, A2.sx s h.2⟩⟩
theorem ow_x {H H' : Hp} {D : Addr} {ys zs : List (Key × V)} (h : H D = some (.dK ys)) (e : upd H D (.dK zs) = H') : SameX ND H H' := e ▸ sameX_dK h
theorem ow_same {H0 H H' : Hp} {D : Addr} {o : HO} (s : Same H0 H) (n : H0 D = none) (e : upd H D o = H') : Same H0 H' := e ▸ same_put s n
theorem SameX.refl {P : HO → Prop} {H : Hp} : SameX P H H := fun _ _ _ h => h
theorem SameX.trans {P : HO → Prop} {H H1 H2 : Hp} (a : SameX P H H1) (b : SameX P H1 H2) : SameX P H H2 := fun c o n h => b c o n (a c o n h)
theorem StL.sx {H H' : Hp} {a : Addr} {xs : List Str} (s : SameX ND H H') (h : StL H a xs) : StL H' a xs := s _ _ (fun ys e => by cases e) h
theorem dput_int {H : Hp} {d : Addr} {ks : List Str} {f : Str → Int} {k : Str} {z : Int} (h : H d = some (.dK (fdV ks fun k => .int (f k)))) (m : k ∈ ks) (l : ks.length ≤ 1000) : DPut H d (.str k) (.int z) (upd H d (.dK (fdV ks fun j => .int (up f k z j)))) := by
  have := dput_fd (v := .int z) h m l
  rw [up_int] at this
  exact this
theorem rd_upd {H : Hp} {a D : Addr} {o u : HO} (n : a ≠ D) (h : Rd H a u) : Rd (upd H D o) a u := h.elim (fun h => .inl (by rw [upd_ne n]; exact h)) fun ⟨x, h⟩ => .inr ⟨x, by rw [upd_ne n]; exact h⟩
theorem at_upd {H : Hp} {a D : Addr} {o u : HO} (n : a ≠ D) (h : H a = some u) : upd H D o a = some u := by
  rw [upd_ne n]
  exact h
theorem sx_upd {H0 H : Hp} {D : Addr} {ys zs : List (Key × V)} (s : SameX ND H0 H) (h : H D = some (.dK ys)) : SameX ND H0 (upd H D (.dK zs)) := s.trans (sameX_dK h)
theorem intD_upd {H : Hp} {D : Addr} {ks : List Str} {g f : Str → Int} (e : ∀ k ∈ ks, g k = f k) : IntD (upd H D (.dK (fdV ks fun j => .int (g j)))) D ks f := by
  unfold IntD
  rw [upd_same, fd_congr (h := fun k => V.int (f k)) fun k hk => by rw [e k hk]]
theorem up_step {N : Str → Int} {t h k : Str} {x : Int} : up (up N t (N t - x)) h (up N t (N t - x) h + x) k = N k + ((if h = k then x else 0) - (if t = k then x else 0)) := by
  unfold up
  by_cases h1 : k = h
  · subst h1
    by_cases h2 : k = t
    · subst h2
      simp only [if_true]
      omega
    · have h3 : ¬ t = k := fun z => h2 z.symm
      simp only [if_true, if_neg h2, if_neg h3]
      omega
  · have h1' : ¬ h = k := fun z => h1 z.symm
    by_cases h2 : k = t
    · subst h2
      simp only [if_true, if_neg h1, if_neg h1']
      omega
    · have h3 : ¬ t = k := fun z => h2 z.symm
      simp only [if_neg h1, if_neg h1', if_neg h2, if_neg h3]
      omega
theorem app_tup {α : Type} {m : α → List V} {H H4 : Hp} {D t : Addr} {us : List V} {l : List α} {x : α} (s : Same H H4) (e : H D = some (.lst us)) (a : A2 (fun x v => TupR (m x) v H) l us) (et : H4 t = some (.tup (m x))) :
    A2 (fun x v => TupR (m x) v (upd H4 D (.lst (us ++ [.ref t])))) (l ++ [x]) (us ++ [.ref t]) := by
  have sx : SameX NL H4 (upd H4 D (.lst (us ++ [.ref t]))) := sameX_lst (s _ _ e)
  exact (a.imp fun x v r => (r.same s).sx (fun xs ys e => by cases e) sx).snoc ⟨t, rfl, sx _ _ (fun ys e => by cases e) et⟩
/-- a plant's object -/
structure IsP (K : PySem.W.Frag) (H : Hp) (p : Addr) (pl : Plt) (kl sl dx : Addr) : Prop where
  ob : H p = some (.ins (C_Plant K) dx [("_knots", .ref kl), ("_streams", .ref sl)])
  k : H kl = some (.lst (pl.knots.map .str))
  s : LT sV H sl pl.ss
structure IsPl (K : PySem.W.Frag) (H : Hp) (p : Addr) (pl : Plt) : Prop where
  ex : ∃ kl sl dx, IsP K H p pl kl sl dx
theorem IsP.same {K : PySem.W.Frag} {H H' : Hp} {p kl sl dx : Addr} {pl : Plt} (s : Same H H') (h : IsP K H p pl kl sl dx) : IsP K H' p pl kl sl dx := ⟨s _ _ h.ob, s _ _ h.k, h.s.same s⟩
theorem IsPl.same {K : PySem.W.Frag} {H H' : Hp} {p : Addr} {pl : Plt} (s : Same H H') (h : IsPl K H p pl) : IsPl K H' p pl := by
  obtain ⟨a, b, c, h⟩ := h.ex
  exact ⟨a, b, c, h.same s⟩
/-- is the text among the list's items -/
theorem inV_strs {x : Str} : ∀ {xs : List Str}, inV (.str x) (xs.map .str) = decide (x ∈ xs)
  | [] => rfl
  | y :: xs => by
    have ih : inV (.str x) (xs.map .str) = decide (x ∈ xs) := inV_strs
    unfold inV at ih ⊢
    rw [List.map_cons, List.any_cons, ih]
    show ((y == x) || _) = _
    by_cases h : y = x
    · subst h
      simp
    · have h2 : ¬ x = y := fun z => h z.symm
      simp [h, h2]
theorem flat_strs : ∀ {xs : List Str}, (xs.map V.str).all flatV = true
  | [] => rfl
  | _ :: xs => by
    rw [List.map_cons, List.all_cons, flat_strs]
    rfl
def rInSt : R2 := fun x y H Q => ∃ z p xs, x = .str z ∧ y = .ref p ∧ StL H p xs ∧ Q (.bl (decide (z ∈ xs))) H
def rNinSt : R2 := fun x y H Q => ∃ z p xs, x = .str z ∧ y = .ref p ∧ StL H p xs ∧ Q (.bl (decide (z ∉ xs))) H
theorem iteD {p A B : Prop} [Decidable p] (h : p) (a : A) : if decide p = true then A else B := by
  rw [if_pos (decide_eq_true h)]
  exact a
theorem iteN {p A B : Prop} [Decidable p] (h : ¬p) (b : B) : if decide p = true then A else B := by
  rw [if_neg fun e => h (of_decide_eq_true e)]
  exact b
theorem iteD2 {p A B : Prop} [Decidable p] (h : p) (b : B) : if (!decide p) = true then A else B := by
  rw [decide_eq_true h]
  exact b
theorem iteN2 {p A B : Prop} [Decidable p] (h : ¬p) (a : A) : if (!decide p) = true then A else B := by
  rw [decide_eq_false h]
  exact a
theorem ite_d {p A B : Prop} [Decidable p] (h1 : p → A) (h2 : ¬p → B) : if decide p = true then A else B := by
  by_cases h : p
  · exact iteD h (h1 h)
  · exact iteN h (h2 h)
theorem ite_d2 {p A B : Prop} [Decidable p] (h1 : ¬p → A) (h2 : p → B) : if (!decide p) = true then A else B := by
  by_cases h : p
  · exact iteD2 h (h2 h)
  · exact iteN2 h (h1 h)
section
variable {X : Cx}
theorem op_inSt : OpR X (compareOp .In) rInSt := by
  intro pins s σ H x y v u Q I rx ry h
  obtain ⟨z, p, xs, rfl, rfl, hs, q⟩ := h
  exact op_in_seq pins s σ H _ _ v u Q I rx ry ⟨p, _, rfl, .inl (lstOf hs), rfl, flat_strs, by
    rw [inV_strs]
    exact q⟩
theorem op_ninSt : OpR X (compareOp .NotIn) rNinSt := by
  intro pins s σ H x y v u Q I rx ry h
  obtain ⟨z, p, xs, rfl, rfl, hs, q⟩ := h
  exact op_notIn_seq pins s σ H _ _ v u Q I rx ry ⟨p, _, rfl, .inl (lstOf hs), rfl, flat_strs, by
    rw [inV_strs]
    rw [decide_not] at q
    exact q⟩
theorem map_inr_kV {xs : List Str} : (xs.map (Sum.inr : Str → Key)).map kV = xs.map V.str := by
  rw [List.map_map]
  rfl
theorem map_inl_kV {xs : List Int} : (xs.map (Sum.inl : Int → Key)).map kV = xs.map V.int := by
  rw [List.map_map]
  rfl
theorem nodup_inr {xs : List Str} (h : xs.Nodup) : (xs.map (Sum.inr : Str → Key)).Nodup := nodup_kS h
def rSetSt (P : Program) (w : World) : List V → Hp → VK → Prop := fun xs H Q => ∃ (l : Addr) (ks : List Str), xs = [.ref l] ∧ StL H l ks ∧ ks.length ≤ 1000 ∧
  ∀ (p : Addr) (c : Nat), H p = none → c ≤ ks.length → (ks.Nodup → c = ks.length) → Q (.ref p) (upd H p (SGO P w p (ks.map Sum.inr) c))
theorem cr_setSt (hc : X.calm = true) : CallR X (.type "set") (rSetSt X.prog X.w) := by
  intro pins s σ H xs us Q I r h
  obtain ⟨l, ks, rfl, hs, hz, q⟩ := h
  exact cr_setL hc pins s σ H _ us Q I r ⟨l, ks.map Sum.inr, rfl, lstOf (by
    rw [map_inr_kV]
    exact hs), by
      rw [List.length_map]
      exact hz, fun p c hp h1 h2 => q p c hp (by
        rw [List.length_map] at h1
        exact h1) fun n => by
          rw [List.length_map] at h2
          exact h2 (nodup_inr n)⟩
def rSetIn (K : PySem.W.Frag) (P : Program) (w : World) : List V → Hp → VK → Prop := fun xs H Q => ∃ (l : Addr) (ks : List Int), xs = [.ref l] ∧ SqL K H l (ks.map V.int) ∧ ks.length ≤ 1000 ∧
  ∀ (p : Addr) (c : Nat), H p = none → c ≤ ks.length → Q (.ref p) (upd H p (SGO P w p (ks.map Sum.inl) c))
theorem cr_setIn (hc : X.calm = true) : CallR X (.type "set") (rSetIn X.K X.prog X.w) := by
  intro pins s σ H xs us Q I r h
  obtain ⟨l, ks, rfl, hs, hz, q⟩ := h
  exact cr_setL hc pins s σ H _ us Q I r ⟨l, ks.map Sum.inl, rfl, by
    rw [map_inl_kV]
    exact hs, by
      rw [List.length_map]
      exact hz, fun p c hp h1 h2 => q p c hp (by
        rw [List.length_map] at h1
        exact h1)⟩
def rSortSt (K : PySem.W.Frag) : List V → Hp → VK → Prop := fun vs H Q => ∃ (a : Addr) (xs : List Str), vs = [V.ref a] ∧ StL H a xs ∧ xs.length < 64 ∧
  ∀ (ys : List Str) (p : Addr), ys.Perm xs → sortedS ys = true → H p = none → Q (.ref p) (upd H p (.lst (ys.map V.str)))
theorem cr_sortSt : CallR X (.builtin "sorted") (rSortSt X.K) := by
  intro pins s σ H vs us Q I r h
  obtain ⟨a, xs, rfl, hs, h64, q⟩ := h
  exact cr_sortedS pins s σ H _ us Q I r ⟨a, xs, rfl, lstOf hs, h64, q⟩
end
end M
end
-- part RD
section
set_option Elab.async false
set_option linter.all false
set_option maxRecDepth 100000
set_option maxHeartbeats 4000000
namespace M
open PySem PySem.Spec PyProof.Rows L2
/-! ### the layer's rules for things that the heap tracks: their readings name no K -/
section
variable {X : Cx} {e o : Expr} {te to : TE} {pos apos : Pos}
theorem pe_imp {t t' : TE} (h : PE X e t) (i : ∀ σ H Q, t' σ H Q → t σ H Q) : PE X e t' := ⟨fun pins s σ H Q I q => h.run pins s σ H Q I (i σ H Q q)⟩
theorem call_imp {f : Value} {r r' : List V → Hp → VK → Prop} (h : CallR X f r) (i : ∀ xs H Q, r' xs H Q → r xs H Q) : CallR X f r' := fun pins s σ H xs us Q I r q => h pins s σ H xs us Q I r (i _ _ _ q)
theorem op_imp {f : Value → Value → Sem Value} {r r' : R2} (h : OpR X f r) (i : ∀ x y H Q, r' x y H Q → r x y H Q) : OpR X f r' := fun pins s σ H x y v u Q I rx ry q => h pins s σ H x y v u Q I rx ry (i _ _ _ _ q)
theorem ix_imp {r r' : R2} (h : IxR X r) (i : ∀ x y H Q, r' x y H Q → r x y H Q) : IxR X r' := fun value slice pins s σ H x y v u Q I rx ry q hs => h value slice pins s σ H x y v u Q I rx ry (i _ _ _ _ q) hs
theorem sl_imp {r r' : V → Option Int → Option Int → Hp → VK → Prop} (h : SlR X r) (i : ∀ x l u H Q, r' x l u H Q → r x l u H Q) : SlR X r' := fun pins s σ H x v vl vu lo hi sl Q I rx hs pl pu q => h pins s σ H x v vl vu lo hi sl Q I rx hs pl pu (i _ _ _ _ _ q)
def rIxT0 : R2 := fun x y H Q => ∃ p xs i v, x = .ref p ∧ y = .int i ∧ H p = some (.tup xs) ∧ atI xs i = some v ∧ Q v H
def rIxL0 : R2 := fun x y H Q => ∃ p xs i v, x = .ref p ∧ y = .int i ∧ H p = some (.lst xs) ∧ atI xs i = some v ∧ Q v H
theorem ixT : IxR X rIxT0 := ix_imp ix_tup fun x y H Q ⟨p, xs, i, v, a, b, h, c, q⟩ => ⟨p, xs, i, v, a, b, tupOf h, c, q⟩
theorem ixL : IxR X rIxL0 := ix_imp ix_list fun x y H Q ⟨p, xs, i, v, a, b, h, c, q⟩ => ⟨p, xs, i, v, a, b, lstOf h, c, q⟩
def rLenL : List V → Hp → VK → Prop := fun xs H Q => ∃ p ys, xs = [.ref p] ∧ H p = some (.lst ys) ∧ Q (.int ys.length) H
def rLenT : List V → Hp → VK → Prop := fun xs H Q => ∃ p ys, xs = [.ref p] ∧ H p = some (.tup ys) ∧ Q (.int ys.length) H
theorem lenL : CallR X (.builtin "len") rLenL := call_imp call_len_seq fun xs H Q ⟨p, ys, a, h, q⟩ => ⟨p, ys, a, .inl (lstOf h), q⟩
theorem lenT : CallR X (.builtin "len") rLenT := call_imp call_len_seq fun xs H Q ⟨p, ys, a, h, q⟩ => ⟨p, ys, a, .inr (tupOf h), q⟩
def rSum0 : List V → Hp → VK → Prop := fun vs H Q => ∃ (a : Addr) (ns : List Int), vs = [V.ref a] ∧ H a = some (.lst (ns.map V.int)) ∧ Q (.int ns.sum) H
theorem sumL (hc : X.calm = true) : CallR X (.builtin "sum") rSum0 := call_imp (cr_sum hc) fun vs H Q ⟨a, ns, e, h, q⟩ => ⟨a, ns, e, lstOf h, q⟩
def rAll0 : List V → Hp → VK → Prop := fun vs H Q => ∃ (a : Addr) (bs : List Bool), vs = [V.ref a] ∧ H a = some (.lst (bs.map V.bl)) ∧ Q (.bl (bs.all id)) H
theorem allL (hc : X.calm = true) : CallR X (.builtin "all") rAll0 := call_imp (cr_all hc) fun vs H Q ⟨a, ns, e, h, q⟩ => ⟨a, ns, e, lstOf h, q⟩
def rAny0 : List V → Hp → VK → Prop := fun vs H Q => ∃ (a : Addr) (bs : List Bool), vs = [V.ref a] ∧ H a = some (.lst (bs.map V.bl)) ∧ Q (.bl (bs.any id)) H
theorem anyL (hc : X.calm = true) : CallR X (.builtin "any") rAny0 := call_imp (cr_any hc) fun vs H Q ⟨a, ns, e, h, q⟩ => ⟨a, ns, e, lstOf h, q⟩
def rMax0 : List V → Hp → VK → Prop := fun vs H Q => ∃ (a : Addr) (ns : List Int), vs = [V.ref a] ∧ H a = some (.lst (ns.map V.int)) ∧ 0 < ns.length ∧ ∀ m, m ∈ ns → (∀ y, y ∈ ns → y ≤ m) → Q (.int m) H
theorem maxL (hc : X.calm = true) : CallR X (.builtin "max") rMax0 := call_imp (cr_max hc) fun vs H Q ⟨a, ns, e, h, l, q⟩ => ⟨a, ns, e, lstOf h, l, q⟩
def rMin0 : List V → Hp → VK → Prop := fun vs H Q => ∃ (a : Addr) (ns : List Int), vs = [V.ref a] ∧ H a = some (.lst (ns.map V.int)) ∧ 0 < ns.length ∧ ∀ m, m ∈ ns → (∀ y, y ∈ ns → m ≤ y) → Q (.int m) H
theorem minL (hc : X.calm = true) : CallR X (.builtin "min") rMin0 := call_imp (cr_min hc) fun vs H Q ⟨a, ns, e, h, l, q⟩ => ⟨a, ns, e, lstOf h, l, q⟩
def rListL : List V → Hp → VK → Prop := fun xs H Q => ∃ p ys, xs = [.ref p] ∧ H p = some (.lst ys) ∧ ∀ l, H l = none → Q (.ref l) (upd H l (.lst ys))
theorem listL : CallR X (.type "list") rListL := call_imp call_list_of fun xs H Q ⟨p, ys, e, h, q⟩ => ⟨p, ys, e, .inl (lstOf h), q⟩
def rSetI0 (P : Program) (w : World) : List V → Hp → VK → Prop := fun xs H Q => ∃ (l : Addr) (ks : List Int), xs = [.ref l] ∧ H l = some (.lst (ks.map V.int)) ∧ ks.length ≤ 1000 ∧
  ∀ (p : Addr) (c : Nat), H p = none → c ≤ ks.length → Q (.ref p) (upd H p (SGO P w p (ks.map Sum.inl) c))
theorem setI (hc : X.calm = true) : CallR X (.type "set") (rSetI0 X.prog X.w) := call_imp (cr_setIn hc) fun xs H Q ⟨l, ks, e, h, z, q⟩ => ⟨l, ks, e, lstOf h, z, q⟩
def rSlL0 : V → Option Int → Option Int → Hp → VK → Prop := fun x lo hi H Q => ∃ a xs, x = .ref a ∧ H a = some (.lst xs) ∧ ∀ p, H p = none → Q (.ref p) (upd H p (.lst (cutV xs lo hi)))
theorem slL : SlR X rSlL0 := sl_imp sl_list fun x l u H Q ⟨a, xs, e, h, q⟩ => ⟨a, xs, e, lstOf h, q⟩
def rSlT0 : V → Option Int → Option Int → Hp → VK → Prop := fun x lo hi H Q => ∃ a xs, x = .ref a ∧ H a = some (.tup xs) ∧
  (HT.sIx xs.length 0 lo = 0 → HT.sIx xs.length xs.length hi = xs.length → Q (.ref a) H) ∧ ∀ p, H p = none → Q (.ref p) (upd H p (.tup (cutV xs lo hi)))
def tFld0 (C : Addr) (ta : TE) (f : Str) : TE := fun σ H Q => ta σ H fun x H1 => ∃ a dx fs v, x = .ref a ∧ H1 a = some (.ins C dx fs) ∧ fs.lookup f = some v ∧ Q v H1
theorem fld {C : Addr} {f : Str} {ta : TE} (c : Cls X.K C) (n : NoAttr X.K C f) (he : PE X e ta) (hb : attributeBase e f X.env (eval e X.env) = eval e X.env := by rfl) : PE X (.Attribute e f pos) (tFld0 C ta f) := by
  refine ⟨fun pins s σ H Q I h => ?_⟩
  refine attr_of hb (thn (he.run pins s σ H _ I h) fun u s1 ⟨x, H1, I1, rx, a, dx, fs, v, ex, ea, l, q⟩ => ?_)
  subst ex
  obtain rfl : u = Value.ref a := rx
  exact getattr_ok I1 ea c n l fun u' s2 I2 ru => ⟨v, H1, I2, ru, q⟩
theorem slT : SlR X rSlT0 := sl_imp sl_tupA fun x l u H Q ⟨a, xs, e, h, q1, q2⟩ => ⟨a, xs, e, tupOf h, fun z => q1 z.1 z.2, fun _ => q2⟩
def rCatA0 : R2 := fun x y H Q => ∃ a b xs ys, x = .ref a ∧ y = .ref b ∧ H a = some (.tup xs) ∧ H b = some (.tup ys) ∧ xs.length + ys.length ≤ sizeLine ∧ xs ≠ [] ∧ ys ≠ [] ∧ ∀ p, H p = none → Q (.ref p) (upd H p (.tup (xs ++ ys)))
theorem catT : OpR X (binaryOp .Add) rCatA0 := op_imp op_catA fun x y H Q ⟨a, b, xs, ys, e1, e2, h1, h2, z, n1, n2, q⟩ => ⟨a, b, xs, ys, e1, e2, tupOf h1, tupOf h2, z, fun n => absurd n n1, fun _ n => absurd n n2, fun _ _ => q⟩
def rJoin0 : V → List V → Hp → VK → Prop := fun x xs H Q => ∃ a p, ∃ ys : List Str, x = .str a ∧ xs = [.ref p] ∧ H p = some (.lst (ys.map V.str)) ∧ (ys.map (·.length)).sum + ys.length * a.length ≤ 16777216 ∧ Q (.str (Txt.join a ys)) H
theorem mt_joinS : MtR X "str.join" rJoin0 := fun pins s σ H x xs v us Q I rx rs ⟨a, p, ys, e1, e2, h, z, q⟩ => mt_join pins s σ H x xs v us Q I rx rs ⟨a, p, ys, e1, e2, .inl (lstOf h), z, q⟩
theorem joinS (ho : PE X o to) (he : PE X e te) (hs : starEach [e] X.env = [(false, eval e X.env)] := by rfl) (hbase : attributeBase o "join" X.env (eval o X.env) = eval o X.env := by rfl) (hline : (apos.endLine == pos.line) = true := by rfl) :
    PE X (.Call (.Attribute o "join" apos) [e] [] pos) (tM1 rJoin0 to te) := pe_m1 PySem.F.slot_str_join PySem.F.type_str_join mt_joinS ho he hs hbase hline
def rInT0 : R2 := fun x y H Q => ∃ (z : Str) (p : Addr) (xs : List Str), x = .str z ∧ y = .ref p ∧ H p = some (.tup (xs.map V.str)) ∧ Q (.bl (decide (z ∈ xs))) H
theorem inT : OpR X (compareOp .In) rInT0 := op_imp op_in_seq fun x y H Q ⟨z, p, xs, e1, e2, h, q⟩ => by
  subst e1 e2
  refine ⟨p, _, rfl, .inr (tupOf h), rfl, flat_strs, ?_⟩
  rw [inV_strs]
  exact q
theorem dp_strs {K : PySem.W.Frag} {H : Hp} : ∀ xs : List Str, DpAll K H (xs.map V.str) (xs.map PyData.str)
  | [] => .nil
  | x :: xs => .cons (.str x) (dp_strs xs)
theorem shaped_strs {xs : List Str} (hx : ∀ x ∈ xs, PyData.strOk x = true) : SeqAt.shaped (.list (xs.map PyData.str)) = true := by
  unfold SeqAt.shaped
  rw [Bool.and_eq_true]
  constructor
  · show PyData.canLay0 _ = true
    simp only [PyData.canLay0]
    induction xs with
    | nil => simp [PyData.canLayAll0]
    | cons x xs ih =>
      simp only [List.map_cons, PyData.canLayAll0, PyData.canLay0]
      rw [Bool.and_eq_true]
      exact ⟨hx x List.mem_cons_self, ih fun y hy => hx y (List.mem_cons_of_mem _ hy)⟩
  · refine decide_eq_true ?_
    have := PySem.W.Datum.depth_le (α := List Str) xs
    exact Nat.le_trans this (by decide)
theorem eqv_strs (xs ys : List Str) : PyData.eqv (.list (xs.map PyData.str)) (.list (ys.map PyData.str)) = decide (xs = ys) := PySem.W.Datum.eqv (α := List Str) xs ys
theorem strOk_name {x : Str} (h : okName x) : PyData.strOk x = true := by
  unfold PyData.strOk
  have hl : ∀ c ∈ letters.cps.toList, c < 0x110000 := by decide
  rw [← Array.all_toList, List.all_eq_true]
  exact fun c hc => decide_eq_true (hl c (h.c c hc))
def rEqSt : R2 := fun x y H Q => ∃ p q xs ys, x = .ref p ∧ y = .ref q ∧ StL H p xs ∧ StL H q ys ∧ (∀ x ∈ xs, PyData.strOk x = true) ∧ (∀ x ∈ ys, PyData.strOk x = true) ∧ Q (.bl (decide (xs = ys))) H
def rNeSt : R2 := fun x y H Q => ∃ p q xs ys, x = .ref p ∧ y = .ref q ∧ StL H p xs ∧ StL H q ys ∧ (∀ x ∈ xs, PyData.strOk x = true) ∧ (∀ x ∈ ys, PyData.strOk x = true) ∧ Q (.bl (!decide (xs = ys))) H
theorem op_eqSt (hu : X.A.units + 64 < cLine) : OpR X (compareOp .Eq) rEqSt := op_imp (op_eqD hu) fun x y H Q ⟨p, q, xs, ys, e1, e2, h1, h2, o1, o2, h⟩ => by
  subst e1 e2
  refine ⟨_, _, .lst (lstOf h1) (dp_strs xs), .lst (lstOf h2) (dp_strs ys), shaped_strs o1, shaped_strs o2, ?_⟩
  rw [eqv_strs]
  exact h
theorem op_neSt (hu : X.A.units + 64 < cLine) : OpR X (compareOp .NotEq) rNeSt := op_imp (op_neD hu) fun x y H Q ⟨p, q, xs, ys, e1, e2, h1, h2, o1, o2, h⟩ => by
  subst e1 e2
  refine ⟨_, _, .lst (lstOf h1) (dp_strs xs), .lst (lstOf h2) (dp_strs ys), shaped_strs o1, shaped_strs o2, ?_⟩
  rw [eqv_strs]
  exact h
theorem tyV_l {K : PySem.W.Frag} {p : Addr} {H : Hp} {xs : List V} (h : H p = some (.lst xs)) : tyV K "list" (.ref p) H := .inl ⟨rfl, _, lstOf h⟩
/-- an instance's method without arguments -/
theorem hmeth0 {CX : CXT} {k : Nat} {f C : Addr} {ps : List Str} {dvs : List V} {sp : Sp} {E : XK} {nm : Str} {ta : TE} {pl : Sem Bool} (G : Has X.prog X.w X.K X.mg X.base CX k f ps dvs sp) (hr : Room k X.A) (c : Cls X.K C) (hm : Meth X.K C nm f) (hx : Passes CX X E) (ho : PE X o ta)
    (ht : eval (.Call (.Attribute o nm apos) [] [] pos) X.env = (do
      let ov ← eval o X.env
      standAt apos.atName
      let (f, first) ← holding [ov] (getMethod ov nm pl)
      callWith pos f first (backTo pos (starEach [] X.env)) (backToKw pos (keywordEach [] X.env))) := by rfl) : PE X (.Call (.Attribute o nm apos) [] [] pos) (tMeth C nm sp dvs E ta tNil) := by
  obtain ⟨fd, ds, F, b, v, kp⟩ := G
  exact pe_meth0 ho c hm F hr b v hx ht
theorem len2 {α β : Type} {f : α → V} {g : β → V} {a : List α} {b : List β} (h1 : a.length ≤ 400) (h2 : b.length ≤ 400) : (a.map f).length + (b.map g).length ≤ sizeLine := by
  rw [List.length_map, List.length_map]
  exact Nat.le_of_lt (small1000 (by omega))
/-! ### a dict with a name, locked -/
def tLockN (i : Nat) (t : TS) : TS := fun D σ H => ∃ d kvs, σ[i]? = some (some (.ref d)) ∧ H d = some (.dK kvs) ∧ ∀ od, t ⟨fun σ' H' => H' d = some (.frz od (.dK kvs)) ∧ D.nx σ' (upd H' d (.dK kvs)), fun v H' => H' d = some (.frz od (.dK kvs)) ∧ D.rt v (upd H' d (.dK kvs)), fun σ' H' => H' d = some (.frz od (.dK kvs)) ∧ D.bk σ' (upd H' d (.dK kvs)), fun σ' H' => H' d = some (.frz od (.dK kvs)) ∧ D.ct σ' (upd H' d (.dK kvs))⟩ σ (upd H d (.frz od (.dK kvs)))
def tLockNE (i : Nat) (t : TE) : TE := fun σ H Q => ∃ d kvs, σ[i]? = some (some (.ref d)) ∧ H d = some (.dK kvs) ∧ ∀ od, t σ (upd H d (.frz od (.dK kvs))) fun v H' => H' d = some (.frz od (.dK kvs)) ∧ Q v (upd H' d (.dK kvs))
theorem psLockN {st : Stmt} {t : TS} (i : Nat) (h : PS X st t) : PS X st (tLockN i t) := ⟨fun pins s σ H D I ⟨d, kvs, _, hd, q⟩ => (ps_lock h).run pins s σ H D I ⟨d, .dK kvs, hd, trivial, q⟩⟩
theorem peLockN {t : TE} (i : Nat) (h : PE X e t) : PE X e (tLockNE i t) := ⟨fun pins s σ H Q I ⟨d, kvs, _, hd, q⟩ => (pe_lock h).run pins s σ H Q I ⟨d, .dK kvs, hd, trivial, q⟩⟩
/-! ### a cut: what holds behind a statement -/
structure Cut (t : TS) (D : Ends) (σ : L2.St) (H : Hp) : Prop where
  go : ∃ N : L2.St → Hp → Prop, t { D with nx := N } σ H ∧ ∀ σ H, N σ H → D.nx σ H
def tCut (t : TS) : TS := fun D σ H => Cut t D σ H
theorem psCut {st : Stmt} {t : TS} (h : PS X st t) : PS X st (tCut t) := by
  refine ⟨fun pins s σ H D I hw => ?_⟩
  obtain ⟨N, q, i⟩ := hw.go
  refine thn (h.run pins s σ H { D with nx := N } I q) fun f s1 z => ?_
  cases f with
  | next => obtain ⟨σ', H', I2, n⟩ := z; exact ⟨σ', H', I2, i _ _ n⟩
  | brk => exact z
  | cont => exact z
  | ret v => exact z
theorem Cut.of {t : TS} {D : Ends} {σ : L2.St} {H : Hp} (N : L2.St → Hp → Prop) (a : t { D with nx := N } σ H) (b : ∀ σ H, N σ H → D.nx σ H) : Cut t D σ H := ⟨N, a, b⟩
/-! ### loops, held -/
structure Hold (P : Prop) : Prop where
  go : P
def upI (wi : TI) : TI := fun σ H R => ∃ R', wi σ H R' ∧ ∀ J H1, R' J H1 → R J H1
theorem pi_up {tg iter : Expr} {wi : TI} (h : PI X tg iter wi) : PI X tg iter (upI wi) := by
  refine ⟨fun pins s σ H R I ⟨R', q, i⟩ => ?_⟩
  refine thn (h.run pins s σ H R' I q) fun v s1 h1 => thn h1 fun itv s2 h2 => ?_
  obtain ⟨it, fp, tn, J, H', e, I2, T, st, f, r⟩ := h2
  exact ⟨it, fp, tn, J, H', e, I2, T, st, f, i _ _ r⟩
def tForH (wi : TI) (g : TG) (tb : TS) : TS := fun D σ H => wi σ H fun J H1 => Hold (∃ W : Nat → Nat → L2.St → Hp → Prop, (∃ m, W 0 m σ H1) ∧ ∀ i m σ H, W i m σ H →
  (J.stop i H ∧ D.nx σ H) ∨ (J.go i H ∧ ∃ N : L2.St → Hp → Prop, (∀ σ' H', N σ' H' → ∃ m', m' < m ∧ W (i + 1) m' σ' H') ∧ ∀ x H', J.yld i H x H' → g x σ H' fun σ2 H2 => tb { D with nx := N, ct := N, bk := D.nx } σ2 H2))
theorem psFor {tg iter : Expr} {body : List Stmt} {wi : TI} {g : TG} {tb : TS} {pos : Pos} (hp : PassesOwn (model X.prog X.w) X.A X.env X.xe) (hc : X.calm = true) (hi : PI X tg iter wi) (hg : PG X tg g) (hb : PSs X body tb)
    (hs : ∀ x, foldedSetIterable iter X.env x = pure x := by intro _; rfl) : PS X (.For tg iter body [] pos) (tForH wi g tb) :=
  ⟨fun pins s σ H D I h => (ps_for hp hc (pi_up hi) hg hb hs).run pins s σ H D I ⟨_, h, fun J H1 z => z.go⟩⟩
def tWhileH (c : TT) (tb : TS) : TS := fun D σ H => Hold (tWhile c tb D σ H)
theorem psWhile {c : Expr} {body : List Stmt} {tc : TT} {tb : TS} {pos : Pos} (hp : PassesOwn (model X.prog X.w) X.A X.env X.xe) (hc : PT X c tc) (hb : PSs X body tb) : PS X (.While c body [] pos) (tWhileH tc tb) :=
  ⟨fun pins s σ H D I h => (ps_while hp hc hb).run pins s σ H D I h.go⟩
end
end M
end
-- part RE
section
set_option Elab.async false
set_option linter.all false
set_option maxRecDepth 100000
set_option maxHeartbeats 4000000
namespace M
open PySem PySem.Spec PyProof.Rows L2
/-! ### more heaps -/
/-- all stays but what is at d -/
def SameE (d : Addr) (H H' : Hp) : Prop := ∀ b o, b ≠ d → H b = some o → H' b = some o
theorem SameE.refl {d : Addr} {H : Hp} : SameE d H H := fun _ _ _ h => h
theorem SameE.of {d : Addr} {H H' : Hp} (h : Same H H') : SameE d H H' := fun b o _ e => h b o e
theorem SameE.trans {d : Addr} {H H1 H2 : Hp} (a : SameE d H H1) (b : SameE d H1 H2) : SameE d H H2 := fun c o n h => b c o n (a c o n h)
theorem SameE.upd {d : Addr} {H H' : Hp} {o : HO} (h : SameE d H H') : SameE d H (upd H' d o) := fun b u n e => by
  rw [upd_ne n]
  exact h b u n e
theorem ow_e {d : Addr} {H0 H H' : Hp} {o : HO} (h : SameE d H0 H) (e : upd H d o = H') : SameE d H0 H' := e ▸ h.upd
/-! ### while -/
structure Dec (W : Nat → L2.St → Hp → Prop) (m : Nat) (σ : L2.St) (H : Hp) : Prop where
  go : ∃ m', m' < m ∧ W m' σ H
theorem Dec.of {W : Nat → L2.St → Hp → Prop} {m : Nat} {σ : L2.St} {H : Hp} (m' : Nat) (h : m' < m) (w : W m' σ H) : Dec W m σ H := ⟨m', h, w⟩
section
variable {X : Cx}
theorem pt_up {e : Expr} {t : TT} (h : PT X e t) : PT X e (fun σ H Q => ∃ Q', t σ H Q' ∧ ∀ b H1, Q' b H1 → Q b H1) :=
  ⟨fun pins s σ H Q I ⟨Q', q, i⟩ => thn (h.run pins s σ H Q' I q) fun b s1 ⟨H1, I1, q1⟩ => ⟨H1, I1, i _ _ q1⟩⟩
/-- a list's truth -/
def tTruL (te : TE) : TT := fun σ H Q => te σ H fun x H' => ∃ p xs, x = .ref p ∧ H' p = some (.lst xs) ∧ Q (!xs.isEmpty) H'
theorem ptTruL {e : Expr} {te : TE} (h : PE X e te) (he : ∀ whole, isTrue e X.env whole = (do let v ← whole; standAt e.pos; holding [v] (truthy v))) : PT X e (tTruL te) := by
  refine ⟨fun pins s σ H Q I q => ?_⟩
  exact isTrue_plain (thn (h.run pins s σ H _ I q) fun v s1 ⟨x, H1, I1, r1, p, xs, e, h1, q1⟩ => tru_ok pins s1 σ H1 x v Q I1 r1 ⟨_, by
    subst e
    exact .inl ⟨xs, lstOf h1, rfl⟩, q1⟩) (he _)
def tWhl (c : TT) (tb : TS) : TS := fun D σ H => Hold (∃ W : Nat → L2.St → Hp → Prop, (∃ m, W m σ H) ∧ ∀ m σ H, W m σ H → c σ H fun b H1 => if b = true then tb { D with nx := Dec W m, ct := Dec W m, bk := D.nx } σ H1 else D.nx σ H1)
theorem psWhl {c : Expr} {body : List Stmt} {tc : TT} {tb : TS} {pos : Pos} (hp : PassesOwn (model X.prog X.w) X.A X.env X.xe) (hc : PT X c tc) (hb : PSs X body tb) : PS X (.While c body [] pos) (tWhl tc tb) := by
  refine ⟨fun pins s σ H D I h => (ps_while hp (pt_up hc) hb).run pins s σ H D I ?_⟩
  obtain ⟨W, w0, turn⟩ := h.go
  refine ⟨W, w0, fun m σ H w => ⟨_, turn m σ H w, fun b H1 q => ?_⟩⟩
  cases b with
  | true =>
    rw [if_pos rfl] at q ⊢
    exact ⟨Dec W m, fun σ' H' d => d.go, q⟩
  | false =>
    rw [if_neg Bool.false_ne_true] at q ⊢
    exact q
theorem whileG {c : TT} {tb : TS} {D : Ends} {σ : L2.St} {H : Hp} (W : Nat → L2.St → Hp → Prop) (m0 : Nat) (h0 : W m0 σ H)
    (hs : ∀ m σ H, W m σ H → c σ H fun b H1 => if b = true then tb { D with nx := Dec W m, ct := Dec W m, bk := D.nx } σ H1 else D.nx σ H1) :
    ∃ W : Nat → L2.St → Hp → Prop, (∃ m, W m σ H) ∧ ∀ m σ H, W m σ H → c σ H fun b H1 => if b = true then tb { D with nx := Dec W m, ct := Dec W m, bk := D.nx } σ H1 else D.nx σ H1 := ⟨W, ⟨m0, h0⟩, hs⟩
end
theorem cmulL {i j : Int} (h1 : -1000000000 ≤ i) (h2 : i ≤ 1000000000) : CMul i j := .inl ⟨by omega, by omega⟩
theorem cmulR {i j : Int} (h1 : -1000000000 ≤ j) (h2 : j ≤ 1000000000) : CMul i j := .inr ⟨by omega, by omega⟩
theorem dget_ne {H : Hp} {a D : Addr} {k : Str} {r : Option V} {o : HO} (n : a ≠ D) (h : DGet H a (.str k) r) : DGet (upd H D o) a (.str k) r := by
  rcases h with ⟨kvs, j, h, e, q⟩ | ⟨kvs, j, b, h, e, _⟩
  · exact .inl ⟨kvs, j, rd_upd n h, e, q⟩
  · cases e
theorem A2_rev {α β : Type} {R : α → β → Prop} : ∀ {as : List α} {bs : List β}, A2 R as bs → A2 R as.reverse bs.reverse
  | _, _, .nil => .nil
  | _, _, .cons r t => by
    rw [List.reverse_cons, List.reverse_cons]
    exact (A2_rev t).snoc r
/-! ### lists -/
theorem nodup_le : ∀ {l u : List Str}, l.Nodup → (∀ x ∈ l, x ∈ u) → l.length ≤ u.length
  | [], _, _, _ => Nat.zero_le _
  | a :: l, u, n, h => by
    have n2 := List.nodup_cons.mp n
    have ha : a ∈ u := h a List.mem_cons_self
    have ih := nodup_le (l := l) (u := u.erase a) n2.2 fun x hx => by
      refine (List.mem_erase_of_ne fun e => n2.1 ?_).mpr (h x (List.mem_cons_of_mem _ hx))
      subst e
      exact hx
    rw [List.length_erase_of_mem ha] at ih
    have : 0 < u.length := List.length_pos_of_mem ha
    rw [List.length_cons]
    omega
def prsV (p : Str × Str) : List V := [.str p.1, .str p.2]
theorem nodup_snoc {l : List Str} {x : Str} (n : l.Nodup) (h : x ∉ l) : (l ++ [x]).Nodup := by
  rw [List.nodup_append]
  refine ⟨n, by simp, fun a ha b hb e => ?_⟩
  rw [List.mem_singleton] at hb
  subst hb e
  exact h ha
end M
end
-- part Tg
section
set_option Elab.async false
set_option linter.all false
set_option maxRecDepth 100000
set_option maxHeartbeats 4000000
namespace M
open PySem PySem.Spec PyProof.Rows L2
theorem gEq {α : Type} {a b : α} (h : a = b) : a = b := h
theorem gLe {α : Type} [_root_.LE α] {a b : α} (h : a ≤ b) : a ≤ b := h
theorem gLt {α : Type} [_root_.LT α] {a b : α} (h : a < b) : a < b := h
theorem gNot {a : Prop} (h : ¬ a) : ¬ a := h
theorem gCls {K : PySem.W.Frag} {C : Addr} (h : Cls K C) : Cls K C := h
theorem gNoAttr {K : PySem.W.Frag} {C : Addr} {f : Str} (h : NoAttr K C f) : NoAttr K C f := h
theorem gIsPl {K : PySem.W.Frag} {H : Hp} {p : Addr} {pl : Plt} (h : IsPl K H p pl) : IsPl K H p pl := h
theorem gStL {H : Hp} {a : Addr} {xs : List Str} (h : StL H a xs) : StL H a xs := h
theorem gIntD {H : Hp} {a : Addr} {xs : List Str} {f : Str → Int} (h : IntD H a xs f) : IntD H a xs f := h
theorem gSqT {K : PySem.W.Frag} {H : Hp} {a : Addr} {xs : List V} (h : SqT K H a xs) : SqT K H a xs := h
theorem gSqL {K : PySem.W.Frag} {H : Hp} {a : Addr} {xs : List V} (h : SqL K H a xs) : SqL K H a xs := h
theorem cmulLg {i j : Int} (h1 : -1000000000 ≤ i) (h2 : i ≤ 1000000000) : CMul i j := .inl ⟨by omega, by omega⟩
theorem cmulRg {i j : Int} (h1 : -1000000000 ≤ j) (h2 : j ≤ 1000000000) : CMul i j := .inr ⟨by omega, by omega⟩
end M
end
-- part RF
section
set_option Elab.async false
set_option linter.all false
set_option maxRecDepth 100000
set_option maxHeartbeats 4000000
namespace M
open PySem PySem.Spec PyProof.Rows L2
theorem pe_up {X : Cx} {e : Expr} {t : TE} (h : PE X e t) : PE X e (fun σ H Q => ∃ Q' : VK, t σ H Q' ∧ ∀ x H1, Q' x H1 → Q x H1) :=
  ⟨fun pins s σ H Q I ⟨Q', q, i⟩ => thn (h.run pins s σ H Q' I q) fun v s1 ⟨x, H1, I1, r, q1⟩ => ⟨x, H1, I1, r, i _ _ q1⟩⟩
theorem piKeys {X : Cx} {tg e : Expr} {td : TE} (he : PE X e td) : PI X tg e (iKeysM td) :=
  ⟨fun pins s σ H R I h => (pi_keys (pe_up he)).run pins s σ H R I ⟨_, h, fun x H1 ⟨d, o, kvs, e, h1, q⟩ => ⟨d, o, e, .inl ⟨kvs, h1, q⟩⟩⟩⟩
theorem made {H H' : Hp} {x dx : Addr} {o1 o2 : HO} (nx : H x = none) (nd : H dx = none) (s : SameE x (upd (upd H dx o1) x o2) H') : Same H H' := fun b o e => by
  have h1 := ne_of_none e nx
  exact s b o h1 (by
    rw [upd_ne h1, upd_ne (ne_of_none e nd)]
    exact e)
theorem SameE.free {d a : Addr} {H H' : Hp} (s : SameE d H H') (n : a ≠ d) (h : H' a = none) : H a = none := by
  cases z : H a with
  | none => rfl
  | some o =>
    rw [s _ _ n z] at h
    cases h
end M
end
-- part RG
section
set_option Elab.async false
set_option linter.all false
set_option maxRecDepth 100000
set_option maxHeartbeats 4000000
namespace M
open PySem PySem.Spec PyProof.Rows L2
theorem a2_fd {g : Str → V} {R : Str → V → Prop} : ∀ {ks : List Str} {kvs : List (Key × V)}, ks.Nodup → A2 (fun (x : Key × V) kv => kv.1 = x.1 ∧ ∀ n, x.1 = kS n → R n kv.2) (fdV ks g) kvs → ∃ r : Str → V, kvs = fdV ks r ∧ ∀ n ∈ ks, R n (r n)
  | [], _, _, .nil => ⟨fun _ => .non, rfl, fun n h => nomatch h⟩
  | k :: ks, _ :: kvs, n, .cons (b := kv) h t => by
    have n2 := List.nodup_cons.mp n
    obtain ⟨r, e, q⟩ := a2_fd n2.2 t
    have ne : ∀ j ∈ ks, j ≠ k := fun j hj z => n2.1 (z ▸ hj)
    refine ⟨up r k kv.2, ?_, fun j hj => ?_⟩
    · show kv :: kvs = (kS k, up r k kv.2 k) :: fdV ks (up r k kv.2)
      rw [up_same, fd_congr (h := r) fun j hj => up_ne (ne j hj), ← e]
      exact congrArg (· :: kvs) (Prod.ext h.1 rfl)
    · rcases List.mem_cons.mp hj with rfl | hj
      · rw [up_same]
        exact h.2 _ rfl
      · rw [up_ne (ne j hj)]
        exact q j hj
section
variable {d : Addr} {od : Obj} {ks : List Str} {g0 : Str → V}
/-- {name: .. for name in d}, d a dict by names -/
theorem dcKR {g : TG} {tt : TT} {tk tv : TE} {vs : List Nat} {σ : L2.St} {H1 : Hp} {D : Addr} {Qd : Hp → Prop} (R : Str → V → Hp → Prop) (Rm : ∀ n v H H', SameX ND H H' → R n v H → R n v H')
    (nd : ks.Nodup) (hD : H1 D = none) (hS : H1 d = some (.frz od (.dK (fdV ks g0)))) (hl : ks.length ≤ 1000)
    (step : ∀ (n : Str) (v : V) (H : Hp) (Ky : V → V → Hp → Prop) (Kn : Hp → Prop), n ∈ ks → Same H1 H → H d = some (.frz od (.dK (fdV ks g0))) → v = .str n → (∀ z H5, Same H H5 → R n z H5 → Ky (.str n) z H5) →
      g v (wipe σ vs) H fun σ2 H2 => wipe σ2 vs = wipe σ vs ∧ tt σ2 H2 fun b H3 => if b = true then tk σ2 H3 fun y H4 => tv σ2 H4 fun z H5 => Ky y z H5 else Kn H3)
    (fin : ∀ H' r, Same H1 H' → H' D = some (.dK (fdV ks r)) → (∀ n ∈ ks, R n (r n) H') → Qd H') :
    ∃ W : Nat → Nat → Hp → Prop, (∃ m, W 0 m (upd H1 D (.dK []))) ∧ ∀ i m H, W i m H →
      ((Itk d od (fdV ks g0)).stop i H ∧ Qd H) ∨ ((Itk d od (fdV ks g0)).go i H ∧ ∃ Nx : Hp → Prop, (∀ H', Nx H' → ∃ m', m' < m ∧ W (i + 1) m' H') ∧ ∀ x H', (Itk d od (fdV ks g0)).yld i H x H' → g x (wipe σ vs) H' fun σ2 H2 => wipe σ2 vs = wipe σ vs ∧ tt σ2 H2 fun b H3 =>
        if b = true then tk σ2 H3 fun y H4 => tv σ2 H4 fun z H5 => ∃ kvs k, y = kV k ∧ H5 D = some (.dK kvs) ∧ kvs.length < sizeLine ∧ Nx (upd H5 D (.dK (putK kvs k z))) else Nx H3) := by
  refine dcG wk_keys (fun kv => kv.1) (fun kv v H => ∀ n, kv.1 = kS n → R n v H) (fun b v H H' s r n e => Rm _ _ _ _ s (r n e)) (by
    rw [fd_keys]
    exact nodup_kS nd) hD hS (by rw [fd_len]; exact hl) (fun i x v H' Ky Kn ex s hf hv ky => ?_) (fun H' kvs s e a => ?_)
  · obtain ⟨n, hn, rfl⟩ := List.mem_map.mp (List.mem_of_getElem? ex)
    exact step n v H' Ky Kn hn s hf hv fun z H5 s5 r => ky z H5 s5 fun m e => by
      rw [← kS_inj e]
      exact r
  · obtain ⟨r, e2, q⟩ := a2_fd (R := fun n v => R n v H') nd a
    subst e2
    exact fin H' r s e q
theorem dcK {g : TG} {tt : TT} {tk tv : TE} {vs : List Nat} {σ : L2.St} {H1 : Hp} {D : Addr} {Qd : Hp → Prop} (m : Str → V)
    (nd : ks.Nodup) (hD : H1 D = none) (hS : H1 d = some (.frz od (.dK (fdV ks g0)))) (hl : ks.length ≤ 1000)
    (step : ∀ (n : Str) (v : V) (H : Hp) (Ky : V → V → Hp → Prop) (Kn : Hp → Prop), n ∈ ks → Same H1 H → H d = some (.frz od (.dK (fdV ks g0))) → v = .str n → (∀ H5, Same H H5 → Ky (.str n) (m n) H5) →
      g v (wipe σ vs) H fun σ2 H2 => wipe σ2 vs = wipe σ vs ∧ tt σ2 H2 fun b H3 => if b = true then tk σ2 H3 fun y H4 => tv σ2 H4 fun z H5 => Ky y z H5 else Kn H3)
    (fin : ∀ H', Same H1 H' → H' D = some (.dK (fdV ks m)) → Qd H') :
    ∃ W : Nat → Nat → Hp → Prop, (∃ m, W 0 m (upd H1 D (.dK []))) ∧ ∀ i m H, W i m H →
      ((Itk d od (fdV ks g0)).stop i H ∧ Qd H) ∨ ((Itk d od (fdV ks g0)).go i H ∧ ∃ Nx : Hp → Prop, (∀ H', Nx H' → ∃ m', m' < m ∧ W (i + 1) m' H') ∧ ∀ x H', (Itk d od (fdV ks g0)).yld i H x H' → g x (wipe σ vs) H' fun σ2 H2 => wipe σ2 vs = wipe σ vs ∧ tt σ2 H2 fun b H3 =>
        if b = true then tk σ2 H3 fun y H4 => tv σ2 H4 fun z H5 => ∃ kvs k, y = kV k ∧ H5 D = some (.dK kvs) ∧ kvs.length < sizeLine ∧ Nx (upd H5 D (.dK (putK kvs k z))) else Nx H3) :=
  dcKR (fun n v _ => v = m n) (fun n v H H' _ r => r) nd hD hS hl (fun n v H Ky Kn hn s hf hv ky => step n v H Ky Kn hn s hf hv fun H5 s5 => ky _ H5 s5 rfl) fun H' r s e q => fin H' s (by rw [e, fd_congr q])
/-- [.. for name in d ..] of plain values -/
theorem lcK {β : Type} {g : TG} {tt : TT} {te : TE} {vs : List Nat} {σ : L2.St} {H1 : Hp} {D : Addr} {Qd : Hp → Prop} (f : Str → Option β) (m : β → V)
    (hD : H1 D = none) (hS : H1 d = some (.frz od (.dK (fdV ks g0)))) (hl : ks.length ≤ 1000)
    (step : ∀ (n : Str) (v : V) (H : Hp) (Ky : V → Hp → Prop) (Kn : Hp → Prop), n ∈ ks → Same H1 H → H d = some (.frz od (.dK (fdV ks g0))) → v = .str n → (∀ H4 z, Same H H4 → f n = some z → Ky (m z) H4) → (∀ H3, Same H H3 → f n = none → Kn H3) →
      g v (wipe σ vs) H fun σ2 H2 => wipe σ2 vs = wipe σ vs ∧ tt σ2 H2 fun b H3 => if b = true then te σ2 H3 Ky else Kn H3)
    (fin : ∀ H', Same H1 H' → H' D = some (.lst ((ks.filterMap f).map m)) → Qd H') :
    ∃ W : Nat → Nat → Hp → Prop, (∃ m, W 0 m (upd H1 D (.lst []))) ∧ ∀ i m H, W i m H →
      ((Itk d od (fdV ks g0)).stop i H ∧ Qd H) ∨ ((Itk d od (fdV ks g0)).go i H ∧ ∃ Nx : Hp → Prop, (∀ H', Nx H' → ∃ m', m' < m ∧ W (i + 1) m' H') ∧ ∀ x H', (Itk d od (fdV ks g0)).yld i H x H' → g x (wipe σ vs) H' fun σ2 H2 => wipe σ2 vs = wipe σ vs ∧ tt σ2 H2 fun b H3 =>
        if b = true then te σ2 H3 fun y H4 => ∃ acc, H4 D = some (.lst acc) ∧ acc.length < sizeLine ∧ Nx (upd H4 D (.lst (acc ++ [y]))) else Nx H3) := by
  have kn : ∀ n, (match kS n with | .inr n => f n | _ => none) = f n := fun n => rfl
  refine lcV wk_keys (fun kv => match kv.1 with | .inr n => f n | _ => none) m hD hS (by rw [fd_len]; exact hl) (fun i x v H' Ky Kn ex s hf hv ky kn => ?_) (fun H' s e => ?_)
  · obtain ⟨n, hn, rfl⟩ := List.mem_map.mp (List.mem_of_getElem? ex)
    exact step n v H' Ky Kn hn s hf hv ky kn
  · refine fin H' s ?_
    rw [e]
    unfold fdV
    rw [List.filterMap_map]
    rfl
end
end M
end
-- part W1
section
set_option Elab.async false
set_option linter.all false
set_option maxRecDepth 100000
set_option maxHeartbeats 4000000
namespace M
open PySem PySem.Spec PyProof.Rows L2
local macro_rules | `(tactic| walk_at "e") => `(tactic| (first
  | exact rfl
  | assumption
  | exact upd_same
  | exact flat_strs
  | exact fd_keys
  | ((with_reducible apply same_at); assumption; walk_at "f")
  | ((with_reducible apply at_upd); assumption; walk_at "f")
  | omega))
local macro_rules | `(tactic| walk_at "n") => `(tactic| (first
  | assumption
  | omega
  | exact Nat.le_of_lt (small1000 (by first | assumption | omega))
  | exact (Nat.zero_le _ : 0 ≤ sizeLine)
  | exact (by decide : 1 ≤ sizeLine)
  | exact (by decide : 2 ≤ sizeLine)
  | exact (by decide : 3 ≤ sizeLine)
  | exact (by decide : 5 ≤ sizeLine)
  | exact (by decide : 6 ≤ sizeLine)
  | (show _ < 1000; exact of_decide_eq_true rfl)
  | exact len2 (by omega) (by omega)
  | exact small1000 (by first | assumption | omega)))
local macro_rules | `(tactic| walk_at "f") => `(tactic| (first
  | with_reducible assumption
  | ((with_reducible apply gEq); walk_at "e")
  | ((with_reducible apply gLe); walk_at "n")
  | ((with_reducible apply gLt); walk_at "n")
  | ((with_reducible apply gNot); (first | assumption | omega))
  | with_reducible exact Same.refl _
  | ((with_reducible apply tupOf); walk_at "f")
  | ((with_reducible apply lstOf); walk_at "f")
  | ((with_reducible apply gCls); assumption)
  | ((with_reducible apply gNoAttr); assumption)
  | ((with_reducible apply gIsPl); assumption)
  | ((with_reducible apply gStL); assumption)
  | ((with_reducible apply gIntD); assumption)
  | ((with_reducible apply gSqT); assumption)
  | ((with_reducible apply gSqL); assumption)
  | ((with_reducible apply tyV_l); walk_at "f")
  | ((with_reducible apply Rd.of); walk_at "f")
  | ((with_reducible apply dget_ne); assumption; assumption)
  | ((with_reducible apply dget_fd) <;> walk_at "f")
  | ((with_reducible apply dput_int) <;> walk_at "f")
  | ((with_reducible apply dput_fd) <;> walk_at "f")
  | ((with_reducible apply rd_upd); assumption; walk_at "f")
  | ((with_reducible apply same_put); walk_at "f"; assumption)
  | ((with_reducible apply sx_upd) <;> walk_at "f")
  | ((with_reducible refine Same.trans ?_ (by assumption)); walk_at "f")
  | ((with_reducible apply cmulLg); omega; omega)
  | ((with_reducible apply cmulRg); omega; omega)
  | ((with_reducible apply SameE.upd); walk_at "f")
  | ((with_reducible apply StL.same); assumption; walk_at "f")
  | ((with_reducible apply LT.same); assumption; walk_at "f")
  | ((with_reducible apply IsP.same); assumption; walk_at "f")
  | ((with_reducible apply IsPl.same); assumption; walk_at "f")
  | ((with_reducible apply IntD.same); assumption; walk_at "f")
  | ((with_reducible apply PrD.same); assumption; walk_at "f")
  | ((with_reducible apply Or.inl); walk_at "f")
  | ((with_reducible apply Or.inr); walk_at "f")))
local macro_rules | `(tactic| walk_at "g") => `(tactic| repeat (first
  | with_reducible apply And.intro
  | with_reducible apply Exists.intro
  | walk_at "f"
  | ((with_reducible apply iteT); assumption)
  | ((with_reducible apply iteF); assumption)
  | ((with_reducible apply iteD); (first | assumption | omega))
  | ((with_reducible apply iteN); (first | assumption | omega))
  | ((with_reducible apply iteD2); (first | assumption | omega))
  | ((with_reducible apply iteN2); (first | assumption | omega))
  | apply And.intro
  | apply Exists.intro))
section
variable {P : Program} {w : World} {K : PySem.W.Frag} {mg : Str → Option Value} {base : Heap}
def sp_is_name (K : PySem.W.Frag) : Sp := fun vs H Q _ => ∃ z, vs = [.str z] ∧ okName z ∧ ∀ H', Same H H' → Q (.bl true) H'
theorem sc_is_name : FnScope ["text", "sign"] ["text"] (defScope s_is_name) := ⟨rfl, rfl, rfl, by decide +kernel, rfl, by decide +kernel, by decide +kernel⟩
theorem ok_is_name (T : Tx K mg) : Has P w K mg base CX0 1 (A_is_name K) ["text"] [] (sp_is_name K) := by
  obtain ⟨fd, F⟩ := T.F_is_name
  refine ⟨fd, [], F.ok sc_is_name (fun vs H Q E h => by
    obtain ⟨_, rfl, _⟩ := h
    rfl) (fun cdv A outer s H vs Q E hr h => ?_), F.bindsN (fun _ _ _ _ _ _ us hl => match us, hl with | [_], _ => rfl), .nil, F.kp⟩
  obtain ⟨z, rfl, hz, q⟩ := h
  refine ⟨_, (pss_one (ps_ret (pe_and (pe_chain op_le op_le (pe_int) (pe_callB call_len_str (by rfl) T.b_len (by decide +kernel) (pa_cons (pv 0) pa_nil)) (pe_int)) (pe_one (pe_callB (allL rfl) (by rfl) T.b_all (by decide +kernel) (pa_cons (pe_lc (own := [("sign", 1)]) (g := (gName 1)) rfl sc_is_name.nd (pi_str (pv 0)) (blkOk_by (own := [("sign", 1)]) (N := ["text", "sign"]) (sc := defScope s_is_name) (by decide +kernel)) (fun _ _ _ _ _ => (pg_name (i := 1) sc_is_name.nd rfl (Or.inl rfl))) (fun _ _ _ _ _ => pts_nil) (fun _ _ _ _ _ => (pe_cmpR op_in_sign (pv 1) (pe_gstr T.i_LETTERS) (by rfl)))) pa_nil)))))), ?_⟩
  have h1 := hz.a
  have h2 := hz.b
  walk_at "g"
  intro D hD
  refine lcV wk_str (fun _ => some true) V.bl hD trivial (by rw [Array.length_toList]; show z.length ≤ 1000; omega) (fun i c v H1 Ky Kn ex s1 _ hv ky kn => ?_) (fun H1 s1 eD => ?_)
  · subst hv
    walk_at "g"
    have e2 : decide (c ∈ letters.cps.toList) = true := decide_eq_true (hz.c _ (List.mem_of_getElem? ex))
    show Ky (V.bl (decide (c ∈ letters.cps.toList))) H1
    rw [e2]
    exact ky _ true (Same.refl _) rfl
  · walk_at "g"
    rw [show (List.filterMap (fun x => some true) z.cps.toList).all id = true by simp]
    exact q _ s1
def sp_are_names (K : PySem.W.Frag) : Sp := fun vs H Q _ => ∃ a ks, vs = [.ref a] ∧ StL H a ks ∧ (∀ k ∈ ks, okName k) ∧ ks.Nodup ∧ ks.length ≤ 60 ∧ ∀ H', Same H H' → Q (.bl true) H'
theorem sc_are_names : FnScope ["texts", "text"] ["texts"] (defScope s_are_names) := ⟨rfl, rfl, rfl, by decide +kernel, rfl, by decide +kernel, by decide +kernel⟩
theorem ok_are_names (T : Tx K mg) : Has P w K mg base CX0 2 (A_are_names K) ["texts"] [] (sp_are_names K) := by
  obtain ⟨fd, F⟩ := T.F_are_names
  refine ⟨fd, [], F.ok sc_are_names (fun vs H Q E h => by
    obtain ⟨_, _, rfl, _⟩ := h
    rfl) (fun cdv A outer s H vs Q E hr h => ?_), F.bindsN (fun _ _ _ _ _ _ us hl => match us, hl with | [_], _ => rfl), .nil, F.kp⟩
  obtain ⟨a, ks, rfl, ha, hk, hn, hl, q⟩ := h
  refine ⟨_, (pss_one (ps_ret (pe_and (pe_callB (allL rfl) (by rfl) T.b_all (by decide +kernel) (pa_cons (pe_lc (own := [("text", 1)]) (g := (gName 1)) rfl sc_are_names.nd (pi_list (pv 0)) (blkOk_by (own := [("text", 1)]) (N := ["texts", "text"]) (sc := defScope s_are_names) (by decide +kernel)) (fun _ _ _ _ _ => (pg_name (i := 1) sc_are_names.nd rfl (Or.inl rfl))) (fun _ _ _ _ _ => pts_nil) (fun _ _ _ _ _ => (hc (ok_is_name (K := K) T) (hr.mono (by decide)) T.g_is_name pass0 (pa_cons (pv 1) pa_nil)))) pa_nil)) (pe_one (pe_cmpR op_eq (pe_callB cr_lenSG (by rfl) T.b_len (by decide +kernel) (pa_cons (pe_callTy (cr_setSt rfl) (by rfl) T.b_set (by decide +kernel) (pa_cons (pv 0) pa_nil)) pa_nil)) (pe_callB lenL (by rfl) T.b_len (by decide +kernel) (pa_cons (pv 0) pa_nil)) (nomark _)))))), ?_⟩
  walk_at "g"
  intro D hD
  refine lcV wk_listM (fun _ => some true) V.bl hD (lstOf ha) (by omega) (fun i c v H1 Ky Kn ex s1 _ hv ky kn => ?_) (fun H1 s1 eD => ?_)
  · subst hv
    have hc := hk _ (List.mem_of_getElem? ex)
    walk_at "g"
    intro H2 s2
    exact ky _ true s2 rfl
  · walk_at "g"
    rw [show (List.filterMap (fun x => some true) ks).all id = true by simp]
    walk_at "g"
    intro p c n_p _ hc
    have ec := hc hn
    generalize hG : upd H1 p _ = H2
    have s_H2 := nw_same n_p hG
    have e_p := nw_at hG
    clear hG
    walk_at "g"
    rw [ec, List.length_map, decide_eq_true rfl]
    exact q _ (s1.trans s_H2)
def sp_is_stream (K : PySem.W.Frag) : Sp := fun vs H Q _ => ∃ t a s ks, vs = [.ref t, .ref a] ∧ H t = some (.tup (sV s)) ∧ StL H a ks ∧ s.tail ∈ ks ∧ s.head ∈ ks ∧ 0 ≤ s.low ∧ s.low ≤ s.high ∧ s.high ≤ 1000000 ∧ Q (.bl true) H
theorem sc_is_stream : FnScope ["stream", "knots", "_", "tail", "head", "low", "high"] ["stream", "knots"] (defScope s_is_stream) := ⟨rfl, rfl, rfl, by decide +kernel, rfl, by decide +kernel, by decide +kernel⟩
theorem ok_is_stream (T : Tx K mg) : Has P w K mg base CX0 1 (A_is_stream K) ["stream", "knots"] [] (sp_is_stream K) := by
  obtain ⟨fd, F⟩ := T.F_is_stream
  refine ⟨fd, [], F.ok sc_is_stream (fun vs H Q E h => by
    obtain ⟨_, _, _, _, rfl, _⟩ := h
    rfl) (fun cdv A outer s H vs Q E hr h => ?_), F.bindsN (fun _ _ _ _ _ _ us hl => match us, hl with | [_, _], _ => rfl), .nil, F.kp⟩
  obtain ⟨t, a, s, ks, rfl, ht, ha, h1, h2, h3, h4, h5, q⟩ := h
  refine ⟨_, (pss_cons (ps_if (pt_cmpR op_ne (pe_callB lenT (by rfl) T.b_len (by decide +kernel) (pa_cons (pv 0) pa_nil)) (pe_int) (nomark _))
      (pss_one (ps_ret (pe_bl)))
      pss_nil)
      (pss_cons (ps_asg (pv 0) (pg_tup (by rfl) (pgs_cons (pg_name (i := 2) sc_is_stream.nd rfl (Or.inl rfl)) (pgs_cons (pg_name (i := 3) sc_is_stream.nd rfl (Or.inl rfl)) (pgs_cons (pg_name (i := 4) sc_is_stream.nd rfl (Or.inl rfl)) (pgs_cons (pg_name (i := 5) sc_is_stream.nd rfl (Or.inl rfl)) (pgs_cons (pg_name (i := 6) sc_is_stream.nd rfl (Or.inl rfl)) pgs_nil)))))))
      (pss_one (ps_ret (pe_and (pe_cmpR op_inSt (pv 3) (pv 1) (by rfl)) (pe_and (pe_cmpR op_inSt (pv 4) (pv 1) (by rfl)) (pe_one (pe_chain3 op_le op_le op_le (pe_int) (pv 5) (pv 6) (pe_gint T.i_MOST_FLOW))))))))), ?_⟩
  walk_at "g"
  have e5 : decide (s.high ≤ 1000000) = true := decide_eq_true h5
  show Q (.bl (decide (s.high ≤ 1000000))) H
  rw [e5]
  exact q
def sp_Plant_knots (K : PySem.W.Frag) : Sp := fun vs H Q _ => ∃ p pl, vs = [.ref p] ∧ IsPl K H p pl ∧ ∀ H' a, Same H H' → H a = none → StL H' a pl.knots → Q (.ref a) H'
theorem sc_Plant_knots : FnScope ["self"] ["self"] (defScope s_Plant_knots) := ⟨rfl, rfl, rfl, by decide +kernel, rfl, by decide +kernel, by decide +kernel⟩
theorem ok_Plant_knots (T : Tx K mg) : Has P w K mg base CX0 1 (A_Plant_knots K) ["self"] [] (sp_Plant_knots K) := by
  obtain ⟨fd, F⟩ := T.F_Plant_knots
  refine ⟨fd, [], F.ok sc_Plant_knots (fun vs H Q E h => by
    obtain ⟨_, _, rfl, _⟩ := h
    rfl) (fun cdv A outer s H vs Q E hr h => ?_), F.bindsN (fun _ _ _ _ _ _ us hl => match us, hl with | [_], _ => rfl), .nil, F.kp⟩
  obtain ⟨p, pl, rfl, hP, q⟩ := h
  obtain ⟨kl, sl, dx, hO⟩ := hP.ex
  have h1 := hO.ob
  have h2 := hO.k
  have h3 := T.c_Plant
  have h4 := T.n_Plant__knots
  refine ⟨_, (pss_one (ps_ret (pe_callTy listL (by rfl) T.b_list (by decide +kernel) (pa_cons (fld T.c_Plant T.n_Plant__knots (pv 0)) pa_nil)))), ?_⟩
  walk_at "g"
  intro a n_a; generalize hG : upd H a _ = H1; have s_H1 : Same H H1 := nw_same n_a hG; have e_a := nw_at hG; clear hG
  exact q _ _ s_H1 n_a e_a
def sp_Plant_streams (K : PySem.W.Frag) : Sp := fun vs H Q _ => ∃ p pl, vs = [.ref p] ∧ IsPl K H p pl ∧ ∀ H' a, Same H H' → H a = none → LT sV H' a pl.ss → Q (.ref a) H'
theorem sc_Plant_streams : FnScope ["self"] ["self"] (defScope s_Plant_streams) := ⟨rfl, rfl, rfl, by decide +kernel, rfl, by decide +kernel, by decide +kernel⟩
theorem ok_Plant_streams (T : Tx K mg) : Has P w K mg base CX0 1 (A_Plant_streams K) ["self"] [] (sp_Plant_streams K) := by
  obtain ⟨fd, F⟩ := T.F_Plant_streams
  refine ⟨fd, [], F.ok sc_Plant_streams (fun vs H Q E h => by
    obtain ⟨_, _, rfl, _⟩ := h
    rfl) (fun cdv A outer s H vs Q E hr h => ?_), F.bindsN (fun _ _ _ _ _ _ us hl => match us, hl with | [_], _ => rfl), .nil, F.kp⟩
  obtain ⟨p, pl, rfl, hP, q⟩ := h
  obtain ⟨kl, sl, dx, hO⟩ := hP.ex
  have h1 := hO.ob
  obtain ⟨vs, h2, h5⟩ := hO.s.ex
  have h3 := T.c_Plant
  have h4 := T.n_Plant__streams
  refine ⟨_, (pss_one (ps_ret (pe_callTy listL (by rfl) T.b_list (by decide +kernel) (pa_cons (fld T.c_Plant T.n_Plant__streams (pv 0)) pa_nil)))), ?_⟩
  walk_at "g"
  intro a n_a; generalize hG : upd H a _ = H1; have s_H1 : Same H H1 := nw_same n_a hG; have e_a := nw_at hG; clear hG
  exact q _ _ s_H1 n_a ⟨vs, e_a, h5.imp fun x v r => r.same s_H1⟩
def sp_Plant_stream_names (K : PySem.W.Frag) : Sp := fun vs H Q _ => ∃ p pl, vs = [.ref p] ∧ IsPl K H p pl ∧ PV pl ∧ ∀ H' a, Same H H' → H a = none → StL H' a pl.names → Q (.ref a) H'
theorem sc_Plant_stream_names : FnScope ["self", "stream"] ["self"] (defScope s_Plant_stream_names) := ⟨rfl, rfl, rfl, by decide +kernel, rfl, by decide +kernel, by decide +kernel⟩
theorem ok_Plant_stream_names (T : Tx K mg) : Has P w K mg base CX0 1 (A_Plant_stream_names K) ["self"] [] (sp_Plant_stream_names K) := by
  obtain ⟨fd, F⟩ := T.F_Plant_stream_names
  refine ⟨fd, [], F.ok sc_Plant_stream_names (fun vs H Q E h => by
    obtain ⟨_, _, rfl, _⟩ := h
    rfl) (fun cdv A outer s H vs Q E hr h => ?_), F.bindsN (fun _ _ _ _ _ _ us hl => match us, hl with | [_], _ => rfl), .nil, F.kp⟩
  obtain ⟨p, pl, rfl, hP, hpv, q⟩ := h
  obtain ⟨kl, sl, dx, hO⟩ := hP.ex
  have h1 := hO.ob
  obtain ⟨vs, h2, h5⟩ := hO.s.ex
  have h3 := T.c_Plant
  have h4 := T.n_Plant__streams
  have hl := hpv.sl
  refine ⟨_, (pss_one (ps_ret (pe_lc (own := [("stream", 1)]) (g := (gName 1)) rfl sc_Plant_stream_names.nd (pi_list (fld T.c_Plant T.n_Plant__streams (pv 0))) (blkOk_by (own := [("stream", 1)]) (N := ["self", "stream"]) (sc := defScope s_Plant_stream_names) (by decide +kernel)) (fun _ _ _ _ _ => (pg_name (i := 1) sc_Plant_stream_names.nd rfl (Or.inl rfl))) (fun _ _ _ _ _ => pts_nil) (fun _ _ _ _ _ => (pe_ix ixT (pv 1) (pe_int) (fun _ _ => rfl)))))), ?_⟩
  walk_at "g"
  intro D hD
  refine lcV LT.wk (fun s => some s.name) V.str hD ⟨lstOf h2, h5⟩ (by omega) (fun i x v H1 Ky Kn ex s1 _ hv ky kn => ?_) (fun H1 s1 eD => ?_)
  · obtain ⟨t, rfl, ht⟩ := hv
    walk_at "g"
    exact ky _ _ (Same.refl _) rfl
  · rw [fm_map] at eD
    have e2 : StL H1 D pl.names := by
      unfold StL Plt.names
      exact eD
    exact q _ _ s1 hD e2
def sp_Plant_check_knot (K : PySem.W.Frag) : Sp := fun vs H Q _ => ∃ p pl k, vs = [.ref p, .str k] ∧ IsPl K H p pl ∧ k ∈ pl.knots ∧ Q .non H
theorem sc_Plant_check_knot : FnScope ["self", "knot"] ["self", "knot"] (defScope s_Plant_check_knot) := ⟨rfl, rfl, rfl, by decide +kernel, rfl, by decide +kernel, by decide +kernel⟩
theorem ok_Plant_check_knot (T : Tx K mg) : Has P w K mg base CX0 1 (A_Plant_check_knot K) ["self", "knot"] [] (sp_Plant_check_knot K) := by
  obtain ⟨fd, F⟩ := T.F_Plant_check_knot
  refine ⟨fd, [], F.ok sc_Plant_check_knot (fun vs H Q E h => by
    obtain ⟨_, _, _, rfl, _⟩ := h
    rfl) (fun cdv A outer s H vs Q E hr h => ?_), F.bindsN (fun _ _ _ _ _ _ us hl => match us, hl with | [_, _], _ => rfl), .nil, F.kp⟩
  obtain ⟨p, pl, k, rfl, hP, hk, q⟩ := h
  obtain ⟨kl, sl, dx, hO⟩ := hP.ex
  have h1 := hO.ob
  have h2 : StL H kl pl.knots := hO.k
  refine ⟨_, (pss_one (ps_if (pt_cmpR op_ninSt (pv 1) (fld T.c_Plant T.n_Plant__knots (pv 0)) (by rfl))
      (pss_one (ps_never))
      pss_nil)), ?_⟩
  walk_at "g"
  refine ite_d (fun e => absurd hk e) (fun e => ?_)
  exact q
end
end M
end
-- part W2
section
set_option Elab.async false
set_option linter.all false
set_option maxRecDepth 100000
set_option maxHeartbeats 4000000
namespace M
open PySem PySem.Spec PyProof.Rows L2
local macro_rules | `(tactic| walk_at "e") => `(tactic| (first
  | exact rfl
  | assumption
  | exact upd_same
  | exact flat_strs
  | exact fd_keys
  | ((with_reducible apply same_at); assumption; walk_at "f")
  | ((with_reducible apply at_upd); assumption; walk_at "f")
  | omega))
local macro_rules | `(tactic| walk_at "n") => `(tactic| (first
  | assumption
  | omega
  | exact Nat.le_of_lt (small1000 (by first | assumption | omega))
  | exact (Nat.zero_le _ : 0 ≤ sizeLine)
  | exact (by decide : 1 ≤ sizeLine)
  | exact (by decide : 2 ≤ sizeLine)
  | exact (by decide : 3 ≤ sizeLine)
  | exact (by decide : 5 ≤ sizeLine)
  | exact (by decide : 6 ≤ sizeLine)
  | (show _ < 1000; exact of_decide_eq_true rfl)
  | exact len2 (by omega) (by omega)
  | exact small1000 (by first | assumption | omega)))
local macro_rules | `(tactic| walk_at "f") => `(tactic| (first
  | with_reducible assumption
  | ((with_reducible apply gEq); walk_at "e")
  | ((with_reducible apply gLe); walk_at "n")
  | ((with_reducible apply gLt); walk_at "n")
  | ((with_reducible apply gNot); (first | assumption | omega))
  | with_reducible exact Same.refl _
  | ((with_reducible apply tupOf); walk_at "f")
  | ((with_reducible apply lstOf); walk_at "f")
  | ((with_reducible apply gCls); assumption)
  | ((with_reducible apply gNoAttr); assumption)
  | ((with_reducible apply gIsPl); assumption)
  | ((with_reducible apply gStL); assumption)
  | ((with_reducible apply gIntD); assumption)
  | ((with_reducible apply gSqT); assumption)
  | ((with_reducible apply gSqL); assumption)
  | ((with_reducible apply tyV_l); walk_at "f")
  | ((with_reducible apply Rd.of); walk_at "f")
  | ((with_reducible apply dget_ne); assumption; assumption)
  | ((with_reducible apply dget_fd) <;> walk_at "f")
  | ((with_reducible apply dput_int) <;> walk_at "f")
  | ((with_reducible apply dput_fd) <;> walk_at "f")
  | ((with_reducible apply rd_upd); assumption; walk_at "f")
  | ((with_reducible apply same_put); walk_at "f"; assumption)
  | ((with_reducible apply sx_upd) <;> walk_at "f")
  | ((with_reducible refine Same.trans ?_ (by assumption)); walk_at "f")
  | ((with_reducible apply cmulLg); omega; omega)
  | ((with_reducible apply cmulRg); omega; omega)
  | ((with_reducible apply SameE.upd); walk_at "f")
  | ((with_reducible apply StL.same); assumption; walk_at "f")
  | ((with_reducible apply LT.same); assumption; walk_at "f")
  | ((with_reducible apply IsP.same); assumption; walk_at "f")
  | ((with_reducible apply IsPl.same); assumption; walk_at "f")
  | ((with_reducible apply IntD.same); assumption; walk_at "f")
  | ((with_reducible apply PrD.same); assumption; walk_at "f")
  | ((with_reducible apply Or.inl); walk_at "f")
  | ((with_reducible apply Or.inr); walk_at "f")))
local macro_rules | `(tactic| walk_at "g") => `(tactic| repeat (first
  | with_reducible apply And.intro
  | with_reducible apply Exists.intro
  | walk_at "f"
  | ((with_reducible apply iteT); assumption)
  | ((with_reducible apply iteF); assumption)
  | ((with_reducible apply iteD); (first | assumption | omega))
  | ((with_reducible apply iteN); (first | assumption | omega))
  | ((with_reducible apply iteD2); (first | assumption | omega))
  | ((with_reducible apply iteN2); (first | assumption | omega))
  | apply And.intro
  | apply Exists.intro))
section
variable {P : Program} {w : World} {K : PySem.W.Frag} {mg : Str → Option Value} {base : Heap}
def sp_check_flows (K : PySem.W.Frag) : Sp := fun vs H Q _ => ∃ p pl d g, vs = [.ref p, .ref d] ∧ IsPl K H p pl ∧ PV pl ∧ H d = some (.dK (fdV pl.names g)) ∧ ∀ H', Same H H' → Q .non H'
theorem sc_check_flows : FnScope ["plant", "flows", "names", "name"] ["plant", "flows"] (defScope s_check_flows) := ⟨rfl, rfl, rfl, by decide +kernel, rfl, by decide +kernel, by decide +kernel⟩
theorem ok_check_flows (T : Tx K mg) : Has P w K mg base CX0 2 (A_check_flows K) ["plant", "flows"] [] (sp_check_flows K) := by
  obtain ⟨fd, F⟩ := T.F_check_flows
  refine ⟨fd, [], F.ok sc_check_flows (fun vs H Q E h => by
    obtain ⟨_, _, _, _, rfl, _⟩ := h
    rfl) (fun cdv A outer s H vs Q E hr h => ?_), F.bindsN (fun _ _ _ _ _ _ us hl => match us, hl with | [_, _], _ => rfl), .nil, F.kp⟩
  obtain ⟨p, pl, d, g, rfl, hP, hpv, hd, q⟩ := h
  have hl := hpv.ln
  obtain ⟨kl, sl, dx, hO⟩ := hP.ex
  have hob := hO.ob
  refine ⟨_, (pss_cons (ps_set (i := 2) sc_check_flows.nd rfl (Or.inl rfl) (hmeth0 (ok_Plant_stream_names (K := K) T) (hr.mono (by decide)) T.c_Plant T.m_Plant_stream_names pass0 (pv 0)))
      (pss_one (psFor (passes_of rfl) rfl (pi_list (pe_callB (cr_sortSGS rfl) (by rfl) T.b_sorted (by decide +kernel) (pa_cons (pe_callTy (cr_setSt rfl) (by rfl) T.b_set (by decide +kernel) (pa_cons (pe_op op_cat (pv 2) (pe_callTy (call_listD rfl) (by rfl) T.b_list (by decide +kernel) (pa_cons (pv 1) pa_nil))) pa_nil)) pa_nil))) (pg_name (i := 3) sc_check_flows.nd rfl (Or.inl rfl))
      (pss_one (ps_if (PW.pt (pw_or (pt_cmpR op_ninSt (pv 3) (pv 2) (by rfl)) (pw_or1 (pt_cmp (pc_dnotin (hu_of hr) (pv 3) (pv 1))))))
      (pss_one (ps_never))
      pss_nil))))), ?_⟩
  walk_at "g"
  intro H1 a s1 na ea
  walk_at "g"
  intro b n_b; generalize hG : upd H1 b _ = H2; have s_H2 : Same H1 H2 := nw_same n_b hG; have e_b := nw_at hG; clear hG
  rw [fd_strs] at e_b
  walk_at "g"
  intro c n_c; generalize hG : upd H2 c _ = H3; have s_H3 : Same H2 H3 := nw_same n_c hG; have e_c := nw_at hG; clear hG
  rw [← List.map_append] at e_c
  have e_c2 : StL H3 c (pl.names ++ pl.names) := e_c
  have hl2 : (pl.names ++ pl.names).length ≤ 60 := by
    rw [List.length_append]
    omega
  walk_at "g"
  intro u n n_u hn _
  generalize hG : upd H3 u _ = H4
  have s_H4 := nw_same n_u hG
  have e_u := nw_at hG
  clear hG
  walk_at "g"
  intro ys v y1 y2 y3 n_v
  generalize hG : upd H4 v _ = H5
  have s_H5 := nw_same n_v hG
  have e_v := nw_at hG
  clear hG
  walk_at "g"
  have sm : Same H H5 := s1.trans (s_H2.trans (s_H3.trans (s_H4.trans s_H5)))
  have ha5 : StL H5 a pl.names := s_H5 _ _ (s_H4 _ _ (s_H3 _ _ (s_H2 _ _ ea)))
  refine ⟨forG (wk_listM (ys := ys) (m := V.str)) (fun i σ H' => ∃ y, σ = [some (.ref p), some (.ref d), some (.ref a), y] ∧ Same H5 H') ⟨_, rfl, Same.refl _⟩ (fun i σ H' _ h => ?_) (fun i x v σ H' H'' ex h s2 hv => ?_) (fun σ H' h => ?_)⟩
  · obtain ⟨y, rfl, s3⟩ := h
    exact lstOf (s3 _ _ e_v)
  · obtain ⟨y, rfl, s3⟩ := h
    subst hv
    have hm : x ∈ pl.names := by
      have := (y2 x).mp (List.mem_of_getElem? ex)
      rw [List.mem_append] at this
      exact this.elim id id
    have hd2 : Rd H'' d (.dK (fdV pl.names g)) := .inl (s2 _ _ (s3 _ _ (sm _ _ hd)))
    have ha2 : StL H'' a pl.names := s2 _ _ (s3 _ _ ha5)
    have hm2 : ¬ x ∉ pl.names := fun z => z hm
    walk_at "g"
  · obtain ⟨y, rfl, s3⟩ := h
    exact q _ (sm.trans s3)
def sp_lacks (K : PySem.W.Frag) : Sp := fun vs H Q _ => ∃ p pl d f, vs = [.ref p, .ref d] ∧ IsPl K H p pl ∧ PV pl ∧ IntD H d pl.names f ∧ ∀ H' a, Same H H' → H a = none → IntD H' a pl.knots (net pl.ss f) → Q (.ref a) H'
theorem sc_lacks : FnScope ["plant", "flows", "found", "name", "tail", "head", "_", "knot"] ["plant", "flows"] (defScope s_lacks) := ⟨rfl, rfl, rfl, by decide +kernel, rfl, by decide +kernel, by decide +kernel⟩
theorem ok_lacks (T : Tx K mg) : Has P w K mg base CX0 3 (A_lacks K) ["plant", "flows"] [] (sp_lacks K) := by
  obtain ⟨fd, F⟩ := T.F_lacks
  refine ⟨fd, [], F.ok sc_lacks (fun vs H Q E h => by
    obtain ⟨_, _, _, _, rfl, _⟩ := h
    rfl) (fun cdv A outer s H vs Q E hr h => ?_), F.bindsN (fun _ _ _ _ _ _ us hl => match us, hl with | [_, _], _ => rfl), .nil, F.kp⟩
  obtain ⟨p, pl, d, f, rfl, hP, hpv, hd, q⟩ := h
  obtain ⟨kl, sl, dx, hO⟩ := hP.ex
  have hob := hO.ob
  have hkl := hpv.kl
  have hsl := hpv.sl
  have hln := hpv.ln
  refine ⟨_, (pss_cons (ps_expr (hc (ok_check_flows (K := K) T) (hr.mono (by decide)) T.g_check_flows pass0 (pa_cons (pv 0) (pa_cons (pv 1) pa_nil))))
      (pss_cons (ps_setDc (i := 2) (own := [("knot", 7)]) (g := (gName 7)) rfl sc_lacks.nd rfl rfl (sw_dict rfl rfl rfl (by decide +kernel)) (pi_list (hprop (ok_Plant_knots (K := K) T) (hr.mono (by decide)) T.c_Plant T.p_Plant_knots pass0 (pv 0))) (blkOk_by (own := [("knot", 7)]) (N := ["plant", "flows", "found", "name", "tail", "head", "_", "knot"]) (sc := defScope s_lacks) (by decide +kernel)) (fun _ _ _ _ _ => (pg_name (i := 7) sc_lacks.nd rfl (Or.inl rfl))) (fun _ _ _ _ _ => pts_nil) (fun _ _ _ _ _ => (pv 7)) (fun _ _ _ _ _ => (pe_int)))
      (pss_cons (psFor (passes_of rfl) rfl (pi_list (hprop (ok_Plant_streams (K := K) T) (hr.mono (by decide)) T.c_Plant T.p_Plant_streams pass0 (pv 0))) (pg_tup (by rfl) (pgs_cons (pg_name (i := 3) sc_lacks.nd rfl (Or.inl rfl)) (pgs_cons (pg_name (i := 4) sc_lacks.nd rfl (Or.inl rfl)) (pgs_cons (pg_name (i := 5) sc_lacks.nd rfl (Or.inl rfl)) (pgs_cons (pg_name (i := 6) sc_lacks.nd rfl (Or.inl rfl)) (pgs_cons (pg_name (i := 6) sc_lacks.nd rfl (Or.inl rfl)) pgs_nil))))))
      (pss_cons (ps_daug (hu_of hr) (pv 2) (pv 4) (pe_dget (hu_of hr) (pv 1) (pv 3) (fun _ _ => rfl)) in_sub (fun _ _ _ => rfl))
      (pss_one (ps_daug (hu_of hr) (pv 2) (pv 5) (pe_dget (hu_of hr) (pv 1) (pv 3) (fun _ _ => rfl)) in_add (fun _ _ _ => rfl)))))
      (pss_one (ps_ret (pv 2)))))), ?_⟩
  walk_at "g"
  intro H1 s1
  walk_at "g"
  intro H2 a s2 na ea
  walk_at "g"
  intro D hD
  refine dcV (wk_listM (ys := pl.knots) (m := V.str)) kS (fun _ => V.int 0) (nodup_kS hpv.kn) hD (lstOf ea) (by omega) (fun i x v H' Ky Kn ex s _ hv ky => ?_) (fun H3 s3 e3 => ?_)
  · subst hv
    walk_at "g"
    exact ky _ (Same.refl _)
  have nD : H D = none := (s1.trans s2).free hD
  have ndD : d ≠ D := ne_of_none hd nD
  walk_at "g"
  intro H4 b s4 nb eb
  obtain ⟨vs, eb1, eb2⟩ := eb.ex
  walk_at "g"
  have sm : Same H H4 := s1.trans (s2.trans (s3.trans s4))
  refine ⟨forG (LT.wk (m := sV) (vs := vs) (xs := pl.ss)) (fun i σ H' => ∃ y0 y1 y2 y3 y4, σ = [some (.ref p), some (.ref d), some (.ref D), y0, y1, y2, y3, y4] ∧ Same H H' ∧ SameX ND H4 H' ∧ IntD H' D pl.knots (net (pl.ss.take i) f)) ⟨_, _, _, _, _, rfl, sm, SameX.refl, ?_⟩ (fun i σ H' _ h => ?_) (fun i x v σ H' H'' ex h s5 hv => ?_) (fun σ H' h => ?_)⟩
  · exact s4 _ _ e3
  · obtain ⟨y0, y1, y2, y3, y4, rfl, t1, t2, t3⟩ := h
    exact ⟨lstOf (t2 _ _ (fun ys e => by cases e) eb1), A2.sx t2 eb2⟩
  · obtain ⟨y0, y1, y2, y3, y4, rfl, t1, t2, t3⟩ := h
    obtain ⟨t, rfl, ht⟩ := hv
    have hx : x ∈ pl.ss := List.mem_of_getElem? ex
    have h1 := hpv.tk x hx
    have h2 := hpv.hk x hx
    have h3 : x.name ∈ pl.names := List.mem_map.mpr ⟨x, hx, rfl⟩
    have u1 : Same H H'' := t1.trans s5
    have u2 : SameX ND H4 H'' := t2.trans (.of s5)
    have u3 := s5 _ _ t3
    have u4 : Rd H'' d (.dK (fdV pl.names fun k => .int (f k))) := .inl (u1 _ _ hd)
    have u5 : Rd H'' D (.dK (fdV pl.knots fun k => .int (net (pl.ss.take i) f k))) := .inl u3
    walk_at "g"
    exact intD_upd fun k _ => by rw [up_step, take_snoc ex, net_snoc]
  · obtain ⟨y0, y1, y2, y3, y4, rfl, t1, t2, t3⟩ := h
    walk_at "g"
    refine q _ D t1 nD ?_
    rw [List.take_length] at t3
    exact t3
def sp_is_balanced (K : PySem.W.Frag) : Sp := fun vs H Q _ => ∃ p pl d f, vs = [.ref p, .ref d] ∧ IsPl K H p pl ∧ PV pl ∧ IntD H d pl.names f ∧ ∀ H', Same H H' → Q (.bl (pl.knots.all fun k => decide (net pl.ss f k = 0))) H'
theorem sc_is_balanced : FnScope ["plant", "flows", "number"] ["plant", "flows"] (defScope s_is_balanced) := ⟨rfl, rfl, rfl, by decide +kernel, rfl, by decide +kernel, by decide +kernel⟩
theorem ok_is_balanced (T : Tx K mg) : Has P w K mg base CX0 4 (A_is_balanced K) ["plant", "flows"] [] (sp_is_balanced K) := by
  obtain ⟨fd, F⟩ := T.F_is_balanced
  refine ⟨fd, [], F.ok sc_is_balanced (fun vs H Q E h => by
    obtain ⟨_, _, _, _, rfl, _⟩ := h
    rfl) (fun cdv A outer s H vs Q E hr h => ?_), F.bindsN (fun _ _ _ _ _ _ us hl => match us, hl with | [_, _], _ => rfl), .nil, F.kp⟩
  obtain ⟨p, pl, d, f, rfl, hP, hpv, hd, q⟩ := h
  obtain ⟨kl, sl, dx, hO⟩ := hP.ex
  have hob := hO.ob
  have hkl := hpv.kl
  have hsl := hpv.sl
  have hln := hpv.ln
  refine ⟨_, (pss_one (ps_ret (pe_callB (allL rfl) (by rfl) T.b_all (by decide +kernel) (pa_cons (pe_lc (own := [("number", 2)]) (g := (gName 2)) rfl sc_is_balanced.nd (pi_values (pe_frz (hc (ok_lacks (K := K) T) (hr.mono (by decide)) T.g_lacks pass0 (pa_cons (pv 0) (pa_cons (pv 1) pa_nil))))) (blkOk_by (own := [("number", 2)]) (N := ["plant", "flows", "number"]) (sc := defScope s_is_balanced) (by decide +kernel)) (fun _ _ _ _ _ => (pg_name (i := 2) sc_is_balanced.nd rfl (Or.inl rfl))) (fun _ _ _ _ _ => pts_nil) (fun _ _ _ _ _ => (pe_cmpR op_eq (pv 2) (pe_int) (nomark _)))) pa_nil)))), ?_⟩
  walk_at "g"
  intro H1 a s1 na ea
  have ea2 : H1 a = some (.dK (fdV pl.knots fun k => .int (net pl.ss f k))) := ea
  refine ⟨a, _, rfl, ea2, trivial, fun od => ?_⟩
  generalize hG : upd H1 a _ = H2
  have s_H2 := ow_same s1 na hG
  have e_a := nw_at hG
  clear hG
  walk_at "g"
  intro D hD
  refine lcV wk_vals (fun kv => some (decide (kv.2 = .int 0))) V.bl hD e_a (by rw [fd_len]; omega) (fun i x v H' Ky Kn ex s _ hv ky kn => ?_) (fun H3 s3 eD => ?_)
  · subst hv
    obtain ⟨k, hk, rfl⟩ := List.mem_map.mp (List.mem_of_getElem? ex)
    walk_at "g"
    exact ky _ _ (Same.refl _) rfl
  · walk_at "g"
    rw [all_fm]
    unfold fdV
    rw [List.all_map]
    have e5 : ((fun kv : Key × V => decide (kv.2 = .int 0)) ∘ fun k => (kS k, V.int (net pl.ss f k))) = fun k => decide (net pl.ss f k = 0) := by
      funext k
      exact decide_eq_decide.mpr ⟨fun z => V.int.inj z, fun z => congrArg V.int z⟩
    rw [e5]
    exact q _ (s_H2.trans s3)
def sp_is_within (K : PySem.W.Frag) : Sp := fun vs H Q _ => ∃ p pl d f, vs = [.ref p, .ref d] ∧ IsPl K H p pl ∧ PV pl ∧ IntD H d pl.names f ∧ ∀ H', Same H H' → Q (.bl (pl.ss.all fun s => decide (s.low ≤ f s.name ∧ f s.name ≤ s.high))) H'
theorem sc_is_within : FnScope ["plant", "flows", "name", "_", "low", "high"] ["plant", "flows"] (defScope s_is_within) := ⟨rfl, rfl, rfl, by decide +kernel, rfl, by decide +kernel, by decide +kernel⟩
theorem ok_is_within (T : Tx K mg) : Has P w K mg base CX0 3 (A_is_within K) ["plant", "flows"] [] (sp_is_within K) := by
  obtain ⟨fd, F⟩ := T.F_is_within
  refine ⟨fd, [], F.ok sc_is_within (fun vs H Q E h => by
    obtain ⟨_, _, _, _, rfl, _⟩ := h
    rfl) (fun cdv A outer s H vs Q E hr h => ?_), F.bindsN (fun _ _ _ _ _ _ us hl => match us, hl with | [_, _], _ => rfl), .nil, F.kp⟩
  obtain ⟨p, pl, d, f, rfl, hP, hpv, hd, q⟩ := h
  obtain ⟨kl, sl, dx, hO⟩ := hP.ex
  have hob := hO.ob
  have hkl := hpv.kl
  have hsl := hpv.sl
  have hln := hpv.ln
  refine ⟨_, (pss_cons (ps_expr (hc (ok_check_flows (K := K) T) (hr.mono (by decide)) T.g_check_flows pass0 (pa_cons (pv 0) (pa_cons (pv 1) pa_nil))))
      (pss_one (ps_ret (pe_callB (allL rfl) (by rfl) T.b_all (by decide +kernel) (pa_cons (pe_lc (own := [("name", 2), ("_", 3), ("low", 4), ("high", 5)]) (g := (gTup K 5 (gCons (gName 2) (gCons (gName 3) (gCons (gName 3) (gCons (gName 4) (gCons (gName 5) gNil))))))) rfl sc_is_within.nd (pi_list (hprop (ok_Plant_streams (K := K) T) (hr.mono (by decide)) T.c_Plant T.p_Plant_streams pass0 (pv 0))) (blkOk_by (own := [("name", 2), ("_", 3), ("low", 4), ("high", 5)]) (N := ["plant", "flows", "name", "_", "low", "high"]) (sc := defScope s_is_within) (by decide +kernel)) (fun _ _ _ _ _ => (pg_tup (by rfl) (pgs_cons (pg_name (i := 2) sc_is_within.nd rfl (Or.inl rfl)) (pgs_cons (pg_name (i := 3) sc_is_within.nd rfl (Or.inl rfl)) (pgs_cons (pg_name (i := 3) sc_is_within.nd rfl (Or.inl rfl)) (pgs_cons (pg_name (i := 4) sc_is_within.nd rfl (Or.inl rfl)) (pgs_cons (pg_name (i := 5) sc_is_within.nd rfl (Or.inl rfl)) pgs_nil))))))) (fun _ _ _ _ _ => pts_nil) (fun _ _ _ _ _ => (pe_chain op_le op_le (pv 4) (pe_dget (hu_of hr) (pv 1) (pv 2) (fun _ _ => rfl)) (pv 5)))) pa_nil))))), ?_⟩
  walk_at "g"
  intro H1 s1
  walk_at "g"
  intro H2 a s2 na ea
  obtain ⟨vs, ea1, ea2⟩ := ea.ex
  walk_at "g"
  intro D hD
  refine lcV (LT.wk (m := sV) (vs := vs) (xs := pl.ss)) (fun s => some (decide (s.low ≤ f s.name ∧ f s.name ≤ s.high))) V.bl hD ⟨lstOf ea1, ea2⟩ (by omega) (fun i x v H' Ky Kn ex s _ hv ky kn => ?_) (fun H3 s3 eD => ?_)
  · obtain ⟨t, rfl, ht⟩ := hv
    have h3 : x.name ∈ pl.names := List.mem_map.mpr ⟨x, List.mem_of_getElem? ex, rfl⟩
    have u4 : Rd H' d (.dK (fdV pl.names fun k => .int (f k))) := .inl (s _ _ (s2 _ _ (s1 _ _ hd)))
    walk_at "g"
    refine ite_d (fun e1 => ?_) (fun e1 => ?_)
    · walk_at "g"
      have e3 : decide (f x.name ≤ x.high) = decide (x.low ≤ f x.name ∧ f x.name ≤ x.high) := decide_eq_decide.mpr ⟨fun z => ⟨e1, z⟩, fun z => z.2⟩
      show Ky (.bl (decide (f x.name ≤ x.high))) H'
      rw [e3]
      exact ky _ _ (Same.refl _) rfl
    · walk_at "g"
      have e3 : false = decide (x.low ≤ f x.name ∧ f x.name ≤ x.high) := (decide_eq_false fun z => e1 z.1).symm
      show Ky (.bl false) H'
      rw [e3]
      exact ky _ _ (Same.refl _) rfl
  · walk_at "g"
    rw [all_fm]
    exact q _ (s1.trans (s2.trans s3))
def sp_is_lot (K : PySem.W.Frag) : Sp := fun vs H Q _ => ∃ p pl a, ∃ L : List Str, vs = [.ref p, .ref a] ∧ IsPl K H p pl ∧ PV pl ∧ StL H a L ∧ (pl.knots.filter fun k => decide (k ∈ L)) = L ∧ ∀ H', Same H H' → Q (.bl true) H'
theorem sc_is_lot : FnScope ["plant", "lot", "knot"] ["plant", "lot"] (defScope s_is_lot) := ⟨rfl, rfl, rfl, by decide +kernel, rfl, by decide +kernel, by decide +kernel⟩
theorem ok_is_lot (T : Tx K mg) : Has P w K mg base CX0 3 (A_is_lot K) ["plant", "lot"] [] (sp_is_lot K) := by
  obtain ⟨fd, F⟩ := T.F_is_lot
  refine ⟨fd, [], F.ok sc_is_lot (fun vs H Q E h => by
    obtain ⟨_, _, _, _, rfl, _⟩ := h
    rfl) (fun cdv A outer s H vs Q E hr h => ?_), F.bindsN (fun _ _ _ _ _ _ us hl => match us, hl with | [_, _], _ => rfl), .nil, F.kp⟩
  obtain ⟨p, pl, a, L, rfl, hP, hpv, ha, hL, q⟩ := h
  obtain ⟨kl, sl, dx, hO⟩ := hP.ex
  have hob := hO.ob
  have hkl := hpv.kl
  have hsl := hpv.sl
  have hln := hpv.ln
  have hok : ∀ x ∈ L, PyData.strOk x = true := fun x hx => by
    rw [← hL] at hx
    exact strOk_name (hpv.ok x (List.mem_filter.mp hx).1)
  refine ⟨_, (pss_one (ps_ret (pe_cmpR (op_eqSt hr.units) (pv 1) (pe_lc (own := [("knot", 2)]) (g := (gName 2)) rfl sc_is_lot.nd (pi_list (hprop (ok_Plant_knots (K := K) T) (hr.mono (by decide)) T.c_Plant T.p_Plant_knots pass0 (pv 0))) (blkOk_by (own := [("knot", 2)]) (N := ["plant", "lot", "knot"]) (sc := defScope s_is_lot) (by decide +kernel)) (fun _ _ _ _ _ => (pg_name (i := 2) sc_is_lot.nd rfl (Or.inl rfl))) (fun _ _ _ _ _ => (pts_one (pt_cmpR op_inSt (pv 2) (pv 1) (by rfl)))) (fun _ _ _ _ _ => (pv 2))) (nomark _)))), ?_⟩
  walk_at "g"
  intro H1 b s1 nb eb
  walk_at "g"
  intro D hD
  refine lcV (wk_listM (ys := pl.knots) (m := V.str)) (fun k => if k ∈ L then some k else none) V.str hD (lstOf eb) (by omega) (fun i x v H' Ky Kn ex s _ hv ky kn => ?_) (fun H3 s3 eD => ?_)
  · subst hv
    have ha2 : StL H' a L := s _ _ (s1 _ _ ha)
    walk_at "g"
    refine ite_d (fun e1 => ?_) (fun e1 => ?_)
    · walk_at "g"
      exact ky _ _ (Same.refl _) (if_pos e1)
    · walk_at "g"
      exact kn _ (Same.refl _) (if_neg e1)
  · rw [fm_filter, List.map_id', hL] at eD
    have e2 : StL H3 D L := eD
    have ha2 : StL H3 a L := s3 _ _ (s1 _ _ ha)
    walk_at "g"
    rw [show decide (L = L) = true from decide_eq_true rfl]
    exact q _ (s1.trans s3)
end
end M
end
-- part W3
section
set_option Elab.async false
set_option linter.all false
set_option maxRecDepth 100000
set_option maxHeartbeats 4000000
namespace M
open PySem PySem.Spec PyProof.Rows L2
local macro_rules | `(tactic| walk_at "e") => `(tactic| (first
  | exact rfl
  | assumption
  | exact upd_same
  | exact flat_strs
  | exact fd_keys
  | ((with_reducible apply same_at); assumption; walk_at "f")
  | ((with_reducible apply at_upd); assumption; walk_at "f")
  | omega))
local macro_rules | `(tactic| walk_at "n") => `(tactic| (first
  | assumption
  | omega
  | exact Nat.le_of_lt (small1000 (by first | assumption | omega))
  | exact (Nat.zero_le _ : 0 ≤ sizeLine)
  | exact (by decide : 1 ≤ sizeLine)
  | exact (by decide : 2 ≤ sizeLine)
  | exact (by decide : 3 ≤ sizeLine)
  | exact (by decide : 5 ≤ sizeLine)
  | exact (by decide : 6 ≤ sizeLine)
  | (show _ < 1000; exact of_decide_eq_true rfl)
  | exact len2 (by omega) (by omega)
  | exact small1000 (by first | assumption | omega)))
local macro_rules | `(tactic| walk_at "f") => `(tactic| (first
  | with_reducible assumption
  | ((with_reducible apply gEq); walk_at "e")
  | ((with_reducible apply gLe); walk_at "n")
  | ((with_reducible apply gLt); walk_at "n")
  | ((with_reducible apply gNot); (first | assumption | omega))
  | with_reducible exact Same.refl _
  | ((with_reducible apply tupOf); walk_at "f")
  | ((with_reducible apply lstOf); walk_at "f")
  | ((with_reducible apply gCls); assumption)
  | ((with_reducible apply gNoAttr); assumption)
  | ((with_reducible apply gIsPl); assumption)
  | ((with_reducible apply gStL); assumption)
  | ((with_reducible apply gIntD); assumption)
  | ((with_reducible apply gSqT); assumption)
  | ((with_reducible apply gSqL); assumption)
  | ((with_reducible apply tyV_l); walk_at "f")
  | ((with_reducible apply Rd.of); walk_at "f")
  | ((with_reducible apply dget_ne); assumption; assumption)
  | ((with_reducible apply dget_fd) <;> walk_at "f")
  | ((with_reducible apply dput_int) <;> walk_at "f")
  | ((with_reducible apply dput_fd) <;> walk_at "f")
  | ((with_reducible apply rd_upd); assumption; walk_at "f")
  | ((with_reducible apply same_put); walk_at "f"; assumption)
  | ((with_reducible apply sx_upd) <;> walk_at "f")
  | ((with_reducible refine Same.trans ?_ (by assumption)); walk_at "f")
  | ((with_reducible apply cmulLg); omega; omega)
  | ((with_reducible apply cmulRg); omega; omega)
  | ((with_reducible apply SameE.upd); walk_at "f")
  | ((with_reducible apply StL.same); assumption; walk_at "f")
  | ((with_reducible apply LT.same); assumption; walk_at "f")
  | ((with_reducible apply IsP.same); assumption; walk_at "f")
  | ((with_reducible apply IsPl.same); assumption; walk_at "f")
  | ((with_reducible apply IntD.same); assumption; walk_at "f")
  | ((with_reducible apply PrD.same); assumption; walk_at "f")
  | ((with_reducible apply Or.inl); walk_at "f")
  | ((with_reducible apply Or.inr); walk_at "f")))
local macro_rules | `(tactic| walk_at "g") => `(tactic| repeat (first
  | with_reducible apply And.intro
  | with_reducible apply Exists.intro
  | walk_at "f"
  | ((with_reducible apply iteT); assumption)
  | ((with_reducible apply iteF); assumption)
  | ((with_reducible apply iteD); (first | assumption | omega))
  | ((with_reducible apply iteN); (first | assumption | omega))
  | ((with_reducible apply iteD2); (first | assumption | omega))
  | ((with_reducible apply iteN2); (first | assumption | omega))
  | apply And.intro
  | apply Exists.intro))
section
variable {P : Program} {w : World} {K : PySem.W.Frag} {mg : Str → Option Value} {base : Heap}
def sp_leaving (K : PySem.W.Frag) : Sp := fun vs H Q _ => ∃ p pl a, ∃ L : List Str, vs = [.ref p, .ref a] ∧ IsPl K H p pl ∧ PV pl ∧ StL H a L ∧ (∀ k ∈ L, k ∈ pl.knots) ∧ L.length ≤ 24 ∧ ∀ H' d, Same H H' → H d = none → StL H' d ((pl.ss.filter fun s => decide (s.tail ∈ L ∧ s.head ∉ L)).map (·.name)) → Q (.ref d) H'
theorem sc_leaving : FnScope ["plant", "lot", "knot", "name", "tail", "head", "_"] ["plant", "lot"] (defScope s_leaving) := ⟨rfl, rfl, rfl, by decide +kernel, rfl, by decide +kernel, by decide +kernel⟩
theorem ok_leaving (T : Tx K mg) : Has P w K mg base CX0 3 (A_leaving K) ["plant", "lot"] [] (sp_leaving K) := by
  obtain ⟨fd, F⟩ := T.F_leaving
  refine ⟨fd, [], F.ok sc_leaving (fun vs H Q E h => by
    obtain ⟨_, _, _, _, rfl, _⟩ := h
    rfl) (fun cdv A outer s H vs Q E hr h => ?_), F.bindsN (fun _ _ _ _ _ _ us hl => match us, hl with | [_, _], _ => rfl), .nil, F.kp⟩
  obtain ⟨p, pl, a, L, rfl, hP, hpv, ha, hL, hl, q⟩ := h
  obtain ⟨kl, sl, dx, hO⟩ := hP.ex
  have hob := hO.ob
  have hkl := hpv.kl
  have hsl := hpv.sl
  have hln := hpv.ln
  have ha0 : H a = some (.lst (L.map .str)) := ha
  refine ⟨_, (pss_cons (psFor (passes_of rfl) rfl (pi_list (pv 1)) (pg_name (i := 2) sc_leaving.nd rfl (Or.inl rfl))
      (pss_one (ps_expr (hmeth (ok_Plant_check_knot (K := K) T) (hr.mono (by decide)) T.c_Plant T.m_Plant_check_knot pass0 (pv 0) (pa_cons (pv 2) pa_nil)))))
      (pss_one (ps_ret (pe_lc (own := [("name", 3), ("tail", 4), ("head", 5), ("_", 6)]) (g := (gTup K 5 (gCons (gName 3) (gCons (gName 4) (gCons (gName 5) (gCons (gName 6) (gCons (gName 6) gNil))))))) rfl sc_leaving.nd (pi_list (hprop (ok_Plant_streams (K := K) T) (hr.mono (by decide)) T.c_Plant T.p_Plant_streams pass0 (pv 0))) (blkOk_by (own := [("name", 3), ("tail", 4), ("head", 5), ("_", 6)]) (N := ["plant", "lot", "knot", "name", "tail", "head", "_"]) (sc := defScope s_leaving) (by decide +kernel)) (fun _ _ _ _ _ => (pg_tup (by rfl) (pgs_cons (pg_name (i := 3) sc_leaving.nd rfl (Or.inl rfl)) (pgs_cons (pg_name (i := 4) sc_leaving.nd rfl (Or.inl rfl)) (pgs_cons (pg_name (i := 5) sc_leaving.nd rfl (Or.inl rfl)) (pgs_cons (pg_name (i := 6) sc_leaving.nd rfl (Or.inl rfl)) (pgs_cons (pg_name (i := 6) sc_leaving.nd rfl (Or.inl rfl)) pgs_nil))))))) (fun _ _ _ _ _ => (pts_one (PW.pt (pw_and (pt_cmpR op_inSt (pv 4) (pv 1) (by rfl)) (pw_and1 (pt_cmpR op_ninSt (pv 5) (pv 1) (by rfl))))))) (fun _ _ _ _ _ => (pv 3)))))), ?_⟩
  walk_at "g"
  refine ⟨forG (wk_listM (ys := L) (m := V.str)) (fun i σ H' => ∃ y0 y1 y2 y3 y4 y5, σ = [some (.ref p), some (.ref a), y0, y1, y2, y3, y4] ∧ y5 = y4 ∧ Same H H') ⟨_, _, _, _, _, _, rfl, rfl, Same.refl _⟩ (fun i σ H' _ h => ?_) (fun i x v σ H' H'' ex h s5 hv => ?_) (fun σ H' h => ?_)⟩
  · obtain ⟨y0, y1, y2, y3, y4, y5, rfl, rfl, t1⟩ := h
    exact lstOf (t1 _ _ ha)
  · obtain ⟨y0, y1, y2, y3, y4, y5, rfl, rfl, t1⟩ := h
    subst hv
    have hx : x ∈ pl.knots := hL _ (List.mem_of_getElem? ex)
    walk_at "g"
  · obtain ⟨y0, y1, y2, y3, y4, y5, rfl, rfl, t1⟩ := h
    walk_at "g"
    intro H2 b s2 nb eb
    obtain ⟨vs, eb1, eb2⟩ := eb.ex
    walk_at "g"
    intro D hD
    refine lcV (LT.wk (m := sV) (vs := vs) (xs := pl.ss)) (fun s => if s.tail ∈ L ∧ s.head ∉ L then some s.name else none) V.str hD ⟨lstOf eb1, eb2⟩ (by omega) (fun i x v H' Ky Kn ex s _ hv ky kn => ?_) (fun H3 s3 eD => ?_)
    · obtain ⟨t, rfl, ht⟩ := hv
      have ha2 : StL H' a L := s _ _ (s2 _ _ (t1 _ _ ha))
      walk_at "g"
      refine ite_d (fun e1 => ?_) (fun e1 => ?_)
      · walk_at "g"
        refine ite_d (fun e2 => ?_) (fun e2 => ?_)
        · walk_at "g"
          exact ky _ _ (Same.refl _) (if_pos ⟨e1, e2⟩)
        · walk_at "g"
          exact kn _ (Same.refl _) (if_neg fun z => e2 z.2)
      · walk_at "g"
        exact kn _ (Same.refl _) (if_neg fun z => e1 z.1)
    · rw [fm_filter] at eD
      exact q _ D (t1.trans (s2.trans s3)) ((t1.trans s2).free hD) eD
def sp_coming_into (K : PySem.W.Frag) : Sp := fun vs H Q _ => ∃ p pl a, ∃ L : List Str, vs = [.ref p, .ref a] ∧ IsPl K H p pl ∧ PV pl ∧ StL H a L ∧ (∀ k ∈ L, k ∈ pl.knots) ∧ L.length ≤ 24 ∧ ∀ H' d, Same H H' → H d = none → StL H' d ((pl.ss.filter fun s => decide (s.head ∈ L ∧ s.tail ∉ L)).map (·.name)) → Q (.ref d) H'
theorem sc_coming_into : FnScope ["plant", "lot", "knot", "name", "tail", "head", "_"] ["plant", "lot"] (defScope s_coming_into) := ⟨rfl, rfl, rfl, by decide +kernel, rfl, by decide +kernel, by decide +kernel⟩
theorem ok_coming_into (T : Tx K mg) : Has P w K mg base CX0 3 (A_coming_into K) ["plant", "lot"] [] (sp_coming_into K) := by
  obtain ⟨fd, F⟩ := T.F_coming_into
  refine ⟨fd, [], F.ok sc_coming_into (fun vs H Q E h => by
    obtain ⟨_, _, _, _, rfl, _⟩ := h
    rfl) (fun cdv A outer s H vs Q E hr h => ?_), F.bindsN (fun _ _ _ _ _ _ us hl => match us, hl with | [_, _], _ => rfl), .nil, F.kp⟩
  obtain ⟨p, pl, a, L, rfl, hP, hpv, ha, hL, hl, q⟩ := h
  obtain ⟨kl, sl, dx, hO⟩ := hP.ex
  have hob := hO.ob
  have hkl := hpv.kl
  have hsl := hpv.sl
  have hln := hpv.ln
  have ha0 : H a = some (.lst (L.map .str)) := ha
  refine ⟨_, (pss_cons (psFor (passes_of rfl) rfl (pi_list (pv 1)) (pg_name (i := 2) sc_coming_into.nd rfl (Or.inl rfl))
      (pss_one (ps_expr (hmeth (ok_Plant_check_knot (K := K) T) (hr.mono (by decide)) T.c_Plant T.m_Plant_check_knot pass0 (pv 0) (pa_cons (pv 2) pa_nil)))))
      (pss_one (ps_ret (pe_lc (own := [("name", 3), ("tail", 4), ("head", 5), ("_", 6)]) (g := (gTup K 5 (gCons (gName 3) (gCons (gName 4) (gCons (gName 5) (gCons (gName 6) (gCons (gName 6) gNil))))))) rfl sc_coming_into.nd (pi_list (hprop (ok_Plant_streams (K := K) T) (hr.mono (by decide)) T.c_Plant T.p_Plant_streams pass0 (pv 0))) (blkOk_by (own := [("name", 3), ("tail", 4), ("head", 5), ("_", 6)]) (N := ["plant", "lot", "knot", "name", "tail", "head", "_"]) (sc := defScope s_coming_into) (by decide +kernel)) (fun _ _ _ _ _ => (pg_tup (by rfl) (pgs_cons (pg_name (i := 3) sc_coming_into.nd rfl (Or.inl rfl)) (pgs_cons (pg_name (i := 4) sc_coming_into.nd rfl (Or.inl rfl)) (pgs_cons (pg_name (i := 5) sc_coming_into.nd rfl (Or.inl rfl)) (pgs_cons (pg_name (i := 6) sc_coming_into.nd rfl (Or.inl rfl)) (pgs_cons (pg_name (i := 6) sc_coming_into.nd rfl (Or.inl rfl)) pgs_nil))))))) (fun _ _ _ _ _ => (pts_one (PW.pt (pw_and (pt_cmpR op_inSt (pv 5) (pv 1) (by rfl)) (pw_and1 (pt_cmpR op_ninSt (pv 4) (pv 1) (by rfl))))))) (fun _ _ _ _ _ => (pv 3)))))), ?_⟩
  walk_at "g"
  refine ⟨forG (wk_listM (ys := L) (m := V.str)) (fun i σ H' => ∃ y0 y1 y2 y3 y4 y5, σ = [some (.ref p), some (.ref a), y0, y1, y2, y3, y4] ∧ y5 = y4 ∧ Same H H') ⟨_, _, _, _, _, _, rfl, rfl, Same.refl _⟩ (fun i σ H' _ h => ?_) (fun i x v σ H' H'' ex h s5 hv => ?_) (fun σ H' h => ?_)⟩
  · obtain ⟨y0, y1, y2, y3, y4, y5, rfl, rfl, t1⟩ := h
    exact lstOf (t1 _ _ ha)
  · obtain ⟨y0, y1, y2, y3, y4, y5, rfl, rfl, t1⟩ := h
    subst hv
    have hx : x ∈ pl.knots := hL _ (List.mem_of_getElem? ex)
    walk_at "g"
  · obtain ⟨y0, y1, y2, y3, y4, y5, rfl, rfl, t1⟩ := h
    walk_at "g"
    intro H2 b s2 nb eb
    obtain ⟨vs, eb1, eb2⟩ := eb.ex
    walk_at "g"
    intro D hD
    refine lcV (LT.wk (m := sV) (vs := vs) (xs := pl.ss)) (fun s => if s.head ∈ L ∧ s.tail ∉ L then some s.name else none) V.str hD ⟨lstOf eb1, eb2⟩ (by omega) (fun i x v H' Ky Kn ex s _ hv ky kn => ?_) (fun H3 s3 eD => ?_)
    · obtain ⟨t, rfl, ht⟩ := hv
      have ha2 : StL H' a L := s _ _ (s2 _ _ (t1 _ _ ha))
      walk_at "g"
      refine ite_d (fun e1 => ?_) (fun e1 => ?_)
      · walk_at "g"
        refine ite_d (fun e2 => ?_) (fun e2 => ?_)
        · walk_at "g"
          exact ky _ _ (Same.refl _) (if_pos ⟨e1, e2⟩)
        · walk_at "g"
          exact kn _ (Same.refl _) (if_neg fun z => e2 z.2)
      · walk_at "g"
        exact kn _ (Same.refl _) (if_neg fun z => e1 z.1)
    · rw [fm_filter] at eD
      exact q _ D (t1.trans (s2.trans s3)) ((t1.trans s2).free hD) eD
end
end M
end
-- part W4
section
set_option Elab.async false
set_option linter.all false
set_option maxRecDepth 100000
set_option maxHeartbeats 4000000
namespace M
open PySem PySem.Spec PyProof.Rows L2
local macro_rules | `(tactic| walk_at "e") => `(tactic| (first
  | exact rfl
  | assumption
  | exact upd_same
  | exact flat_strs
  | exact fd_keys
  | ((with_reducible apply same_at); assumption; walk_at "f")
  | ((with_reducible apply at_upd); assumption; walk_at "f")
  | omega))
local macro_rules | `(tactic| walk_at "n") => `(tactic| (first
  | assumption
  | omega
  | exact Nat.le_of_lt (small1000 (by first | assumption | omega))
  | exact (Nat.zero_le _ : 0 ≤ sizeLine)
  | exact (by decide : 1 ≤ sizeLine)
  | exact (by decide : 2 ≤ sizeLine)
  | exact (by decide : 3 ≤ sizeLine)
  | exact (by decide : 5 ≤ sizeLine)
  | exact (by decide : 6 ≤ sizeLine)
  | (show _ < 1000; exact of_decide_eq_true rfl)
  | exact len2 (by omega) (by omega)
  | exact small1000 (by first | assumption | omega)))
local macro_rules | `(tactic| walk_at "f") => `(tactic| (first
  | with_reducible assumption
  | ((with_reducible apply gEq); walk_at "e")
  | ((with_reducible apply gLe); walk_at "n")
  | ((with_reducible apply gLt); walk_at "n")
  | ((with_reducible apply gNot); (first | assumption | omega))
  | with_reducible exact Same.refl _
  | ((with_reducible apply tupOf); walk_at "f")
  | ((with_reducible apply lstOf); walk_at "f")
  | ((with_reducible apply gCls); assumption)
  | ((with_reducible apply gNoAttr); assumption)
  | ((with_reducible apply gIsPl); assumption)
  | ((with_reducible apply gStL); assumption)
  | ((with_reducible apply gIntD); assumption)
  | ((with_reducible apply gSqT); assumption)
  | ((with_reducible apply gSqL); assumption)
  | ((with_reducible apply tyV_l); walk_at "f")
  | ((with_reducible apply Rd.of); walk_at "f")
  | ((with_reducible apply dget_ne); assumption; assumption)
  | ((with_reducible apply dget_fd) <;> walk_at "f")
  | ((with_reducible apply dput_int) <;> walk_at "f")
  | ((with_reducible apply dput_fd) <;> walk_at "f")
  | ((with_reducible apply rd_upd); assumption; walk_at "f")
  | ((with_reducible apply same_put); walk_at "f"; assumption)
  | ((with_reducible apply sx_upd) <;> walk_at "f")
  | ((with_reducible refine Same.trans ?_ (by assumption)); walk_at "f")
  | ((with_reducible apply cmulLg); omega; omega)
  | ((with_reducible apply cmulRg); omega; omega)
  | ((with_reducible apply SameE.upd); walk_at "f")
  | ((with_reducible apply StL.same); assumption; walk_at "f")
  | ((with_reducible apply LT.same); assumption; walk_at "f")
  | ((with_reducible apply IsP.same); assumption; walk_at "f")
  | ((with_reducible apply IsPl.same); assumption; walk_at "f")
  | ((with_reducible apply IntD.same); assumption; walk_at "f")
  | ((with_reducible apply PrD.same); assumption; walk_at "f")
  | ((with_reducible apply Or.inl); walk_at "f")
  | ((with_reducible apply Or.inr); walk_at "f")))
local macro_rules | `(tactic| walk_at "g") => `(tactic| repeat (first
  | with_reducible apply And.intro
  | with_reducible apply Exists.intro
  | walk_at "f"
  | ((with_reducible apply iteT); assumption)
  | ((with_reducible apply iteF); assumption)
  | ((with_reducible apply iteD); (first | assumption | omega))
  | ((with_reducible apply iteN); (first | assumption | omega))
  | ((with_reducible apply iteD2); (first | assumption | omega))
  | ((with_reducible apply iteN2); (first | assumption | omega))
  | apply And.intro
  | apply Exists.intro))
section
variable {P : Program} {w : World} {K : PySem.W.Frag} {mg : Str → Option Value} {base : Heap}
def sp_lines_of (K : PySem.W.Frag) : Sp := fun vs H Q _ => ∃ p pl, vs = [.ref p] ∧ IsPl K H p pl ∧ PV pl ∧ ∀ H' d, Same H H' → H d = none → LT lineV H' d (pl.ss.filter fun s => decide (s.tail ≠ s.head)) → Q (.ref d) H'
theorem sc_lines_of : FnScope ["plant", "name", "tail", "head", "_"] ["plant"] (defScope s_lines_of) := ⟨rfl, rfl, rfl, by decide +kernel, rfl, by decide +kernel, by decide +kernel⟩
theorem ok_lines_of (T : Tx K mg) : Has P w K mg base CX0 3 (A_lines_of K) ["plant"] [] (sp_lines_of K) := by
  obtain ⟨fd, F⟩ := T.F_lines_of
  refine ⟨fd, [], F.ok sc_lines_of (fun vs H Q E h => by
    obtain ⟨_, _, rfl, _⟩ := h
    rfl) (fun cdv A outer s H vs Q E hr h => ?_), F.bindsN (fun _ _ _ _ _ _ us hl => match us, hl with | [_], _ => rfl), .nil, F.kp⟩
  obtain ⟨p, pl, rfl, hP, hpv, q⟩ := h
  obtain ⟨kl, sl, dx, hO⟩ := hP.ex
  have hob := hO.ob
  have hkl := hpv.kl
  have hsl := hpv.sl
  have hln := hpv.ln
  refine ⟨_, (pss_one (ps_ret (pe_lc (own := [("name", 1), ("tail", 2), ("head", 3), ("_", 4)]) (g := (gTup K 5 (gCons (gName 1) (gCons (gName 2) (gCons (gName 3) (gCons (gName 4) (gCons (gName 4) gNil))))))) rfl sc_lines_of.nd (pi_list (hprop (ok_Plant_streams (K := K) T) (hr.mono (by decide)) T.c_Plant T.p_Plant_streams pass0 (pv 0))) (blkOk_by (own := [("name", 1), ("tail", 2), ("head", 3), ("_", 4)]) (N := ["plant", "name", "tail", "head", "_"]) (sc := defScope s_lines_of) (by decide +kernel)) (fun _ _ _ _ _ => (pg_tup (by rfl) (pgs_cons (pg_name (i := 1) sc_lines_of.nd rfl (Or.inl rfl)) (pgs_cons (pg_name (i := 2) sc_lines_of.nd rfl (Or.inl rfl)) (pgs_cons (pg_name (i := 3) sc_lines_of.nd rfl (Or.inl rfl)) (pgs_cons (pg_name (i := 4) sc_lines_of.nd rfl (Or.inl rfl)) (pgs_cons (pg_name (i := 4) sc_lines_of.nd rfl (Or.inl rfl)) pgs_nil))))))) (fun _ _ _ _ _ => (pts_one (pt_cmpR op_ne (pv 2) (pv 3) (nomark _)))) (fun _ _ _ _ _ => (pe_tup (pa_cons (pv 1) (pa_cons (pv 2) (pa_cons (pv 3) pa_nil)))))))), ?_⟩
  walk_at "g"
  intro H2 b s2 nb eb
  obtain ⟨vs, eb1, eb2⟩ := eb.ex
  walk_at "g"
  intro D hD
  refine lcG (LT.wk (m := sV) (vs := vs) (xs := pl.ss)) (fun s => if s.tail ≠ s.head then some s else none) (fun s v H => TupR (lineV s) v H) rmL_tup hD ⟨lstOf eb1, eb2⟩ (by omega) (fun i x v H' Ky Kn ex s _ hv ky kn => ?_) (fun H3 ys s3 eD a3 => ?_)
  · obtain ⟨t, rfl, ht⟩ := hv
    walk_at "g"
    refine ite_d2 (fun e1 => ?_) (fun e1 => ?_)
    · walk_at "g"
      intro u n_u; generalize hG : upd H' u _ = H4; have s_H4 : Same H' H4 := nw_same n_u hG; have e_u := nw_at hG; clear hG
      exact ky _ H4 x s_H4 (if_pos fun z => e1 (congrArg V.str z)) ⟨u, rfl, e_u⟩
    · exact kn _ (Same.refl _) (if_neg fun z => z (V.str.inj e1))
  · have e3 := fm_filter (p := fun s : Strm => s.tail ≠ s.head) (g := fun s => s) (l := pl.ss)
    rw [List.map_id'] at e3
    rw [e3] at a3
    exact q _ D (s2.trans s3) (s2.free hD) ⟨ys, eD, a3⟩
def sp_arcs_of (K : PySem.W.Frag) : Sp := fun vs H Q _ => ∃ a dl df ls ks lim f, vs = [.ref a, .ref dl, .ref df] ∧ LT lineV H a ls ∧ PrD H dl ks lim ∧ IntD H df ks f ∧ (∀ s ∈ ls, s.name ∈ ks) ∧ ls.length ≤ 30 ∧ ∀ H' d, Same H H' → H d = none → LT arcV H' d (arcsOf lim f ls) → Q (.ref d) H'
theorem sc_arcs_of : FnScope ["lines", "limits", "flows", "found", "name", "tail", "head", "low", "high"] ["lines", "limits", "flows"] (defScope s_arcs_of) := ⟨rfl, rfl, rfl, by decide +kernel, rfl, by decide +kernel, by decide +kernel⟩
theorem ok_arcs_of (T : Tx K mg) : Has P w K mg base CX0 1 (A_arcs_of K) ["lines", "limits", "flows"] [] (sp_arcs_of K) := by
  obtain ⟨fd, F⟩ := T.F_arcs_of
  refine ⟨fd, [], F.ok sc_arcs_of (fun vs H Q E h => by
    obtain ⟨_, _, _, _, _, _, _, rfl, _⟩ := h
    rfl) (fun cdv A outer s H vs Q E hr h => ?_), F.bindsN (fun _ _ _ _ _ _ us hl => match us, hl with | [_, _, _], _ => rfl), .nil, F.kp⟩
  obtain ⟨a, dl, df, ls, ks, lim, f, rfl, ha, hdl, hdf, hn, hl, q⟩ := h
  obtain ⟨vs, ha1, ha2⟩ := ha.ex
  obtain ⟨r, hl1, hl2⟩ := hdl.ex
  refine ⟨_, (pss_cons (ps_set (i := 3) sc_arcs_of.nd rfl (Or.inl rfl) (pe_lst pa_nil))
      (pss_cons (psFor (passes_of rfl) rfl (pi_list (pv 0)) (pg_tup (by rfl) (pgs_cons (pg_name (i := 4) sc_arcs_of.nd rfl (Or.inl rfl)) (pgs_cons (pg_name (i := 5) sc_arcs_of.nd rfl (Or.inl rfl)) (pgs_cons (pg_name (i := 6) sc_arcs_of.nd rfl (Or.inl rfl)) pgs_nil))))
      (pss_cons (ps_asg (pe_dget (hu_of hr) (pv 1) (pv 4) (fun _ _ => rfl)) (pg_tup (by rfl) (pgs_cons (pg_name (i := 7) sc_arcs_of.nd rfl (Or.inl rfl)) (pgs_cons (pg_name (i := 8) sc_arcs_of.nd rfl (Or.inl rfl)) pgs_nil))))
      (pss_cons (psCut (ps_if (pt_cmpR op_lt (pe_dget (hu_of hr) (pv 2) (pv 4) (fun _ _ => rfl)) (pv 8) (nomark _))
      (pss_one (ps_expr (pe_bm PySem.F.plainAttrs_list PySem.F.slot_list_append PySem.F.type_list_append mt_append (pv 3) (pa_cons (pe_tup (pa_cons (pv 5) (pa_cons (pv 6) (pa_cons (pv 4) (pa_cons (pe_int) (pa_cons (pe_op op_sub (pv 8) (pe_dget (hu_of hr) (pv 2) (pv 4) (fun _ _ => rfl))) pa_nil)))))) pa_nil))))
      pss_nil))
      (pss_one (ps_if (pt_cmpR op_gt (pe_dget (hu_of hr) (pv 2) (pv 4) (fun _ _ => rfl)) (pv 7) (nomark _))
      (pss_one (ps_expr (pe_bm PySem.F.plainAttrs_list PySem.F.slot_list_append PySem.F.type_list_append mt_append (pv 3) (pa_cons (pe_tup (pa_cons (pv 6) (pa_cons (pv 5) (pa_cons (pv 4) (pa_cons (pe_un un_neg pe_int) (pa_cons (pe_op op_sub (pe_dget (hu_of hr) (pv 2) (pv 4) (fun _ _ => rfl)) (pv 7)) pa_nil)))))) pa_nil))))
      pss_nil)))))
      (pss_one (ps_ret (pv 3))))), ?_⟩
  walk_at "g"
  intro D n_D; generalize hG : upd H D _ = H1; have s_H1 : Same H H1 := nw_same n_D hG; have e_D := nw_at hG; clear hG
  walk_at "g"
  refine ⟨forG (LT.wk (m := lineV) (vs := vs) (xs := ls)) (fun i σ H' => ∃ y0 y1 y2 y3 y4, σ = [some (.ref a), some (.ref dl), some (.ref df), some (.ref D), y0, y1, y2, y3, y4] ∧ Same H H' ∧ ∃ us, H' D = some (.lst us) ∧ A2 (fun m v => TupR (arcV m) v H') (arcsOf lim f (ls.take i)) us) ⟨_, _, _, _, _, rfl, s_H1, [], e_D, .nil⟩ (fun i σ H' _ h => ?_) (fun i x v σ H' H'' ex h s5 hv => ?_) (fun σ H' h => ?_)⟩
  · obtain ⟨y0, y1, y2, y3, y4, rfl, t1, us, t2, t3⟩ := h
    exact ⟨lstOf (t1 _ _ ha1), ha2.imp fun s v => TupR.same t1⟩
  · obtain ⟨y0, y1, y2, y3, y4, rfl, t1, us, t2, t3⟩ := h
    obtain ⟨t, rfl, ht⟩ := hv
    have hx := hn x (List.mem_of_getElem? ex)
    have u1 : Same H H'' := t1.trans s5
    have u2 := s5 _ _ t2
    have u3 : A2 (fun m v => TupR (arcV m) v H'') (arcsOf lim f (ls.take i)) us := t3.imp fun m v => TupR.same s5
    have u4 : Rd H'' df (.dK (fdV ks fun k => .int (f k))) := .inl (u1 _ _ hdf)
    have u5 : Rd H'' dl (.dK (fdV ks fun k => .ref (r k))) := .inl (u1 _ _ hl1)
    have u6 : H'' (r x.name) = some (.tup [.int (lim x.name).1, .int (lim x.name).2]) := u1 _ _ (hl2 _ hx)
    have hus : us.length ≤ 60 := by
      rw [t3.length]
      have h1 := @arcs_len lim f (ls.take i)
      have h2 : (ls.take i).length ≤ ls.length := by
        rw [List.length_take]
        omega
      omega
    walk_at "g"
    refine Cut.of (fun σ H2 => σ = [some (.ref a), some (.ref dl), some (.ref df), some (.ref D), some (.str x.name), some (.str x.tail), some (.str x.head), some (.int (lim x.name).1), some (.int (lim x.name).2)] ∧ Same H H2 ∧ ∃ us, H2 D = some (.lst us) ∧ us.length ≤ 61 ∧
      A2 (fun m v => TupR (arcV m) v H2) (arcsOf lim f (ls.take i) ++ (if f x.name < (lim x.name).2 then [⟨x.tail, x.head, (lim x.name).2 - f x.name, 0, x.name, 1⟩] else [])) us) ?_ (fun σ H2 h2 => ?_)
    · walk_at "g"
      refine ite_d (fun e1 => ?_) (fun e1 => ?_)
      · walk_at "g"
        intro t2 n_t2; generalize hG : upd H'' t2 _ = H3; have s_H3 : Same H'' H3 := nw_same n_t2 hG; have e_t2 := nw_at hG; clear hG
        walk_at "g"
        · rw [List.length_append]
          exact Nat.add_le_add_right hus 1
        · rw [if_pos e1]
          exact app_tup s_H3 u2 u3 e_t2
      · rw [if_neg e1, List.append_nil]
        walk_at "g"
    · obtain ⟨rfl, t1, us, t2, hus, t3⟩ := h2
      have u4 : Rd H2 df (.dK (fdV ks fun k => .int (f k))) := .inl (t1 _ _ hdf)
      walk_at "g"
      refine ite_d (fun e1 => ?_) (fun e1 => ?_)
      · walk_at "g"
        intro t4 n_t4; generalize hG : upd H2 t4 _ = H3; have s_H3 : Same H2 H3 := nw_same n_t4 hG; have e_t4 := nw_at hG; clear hG
        walk_at "g"
        rw [take_snoc ex, arcs_snoc]
        unfold arc1
        rw [if_pos e1, ← List.append_assoc]
        exact app_tup s_H3 t2 t3 e_t4
      · walk_at "g"
        rw [take_snoc ex, arcs_snoc]
        unfold arc1
        rw [if_neg e1, List.append_nil]
        exact t3
  · obtain ⟨y0, y1, y2, y3, y4, rfl, t1, us, t2, t3⟩ := h
    walk_at "g"
    rw [List.take_length] at t3
    exact q _ D t1 n_D ⟨us, t2, t3⟩
end
end M
end
-- part W5
section
set_option Elab.async false
set_option linter.all false
set_option maxRecDepth 100000
set_option maxHeartbeats 4000000
namespace M
open PySem PySem.Spec PyProof.Rows L2
local macro_rules | `(tactic| walk_at "e") => `(tactic| (first
  | exact rfl
  | assumption
  | exact upd_same
  | exact flat_strs
  | exact fd_keys
  | ((with_reducible apply same_at); assumption; walk_at "f")
  | ((with_reducible apply at_upd); assumption; walk_at "f")
  | omega))
local macro_rules | `(tactic| walk_at "n") => `(tactic| (first
  | assumption
  | omega
  | exact Nat.le_of_lt (small1000 (by first | assumption | omega))
  | exact (Nat.zero_le _ : 0 ≤ sizeLine)
  | exact (by decide : 1 ≤ sizeLine)
  | exact (by decide : 2 ≤ sizeLine)
  | exact (by decide : 3 ≤ sizeLine)
  | exact (by decide : 5 ≤ sizeLine)
  | exact (by decide : 6 ≤ sizeLine)
  | (show _ < 1000; exact of_decide_eq_true rfl)
  | exact len2 (by omega) (by omega)
  | exact small1000 (by first | assumption | omega)))
local macro_rules | `(tactic| walk_at "f") => `(tactic| (first
  | with_reducible assumption
  | ((with_reducible apply gEq); walk_at "e")
  | ((with_reducible apply gLe); walk_at "n")
  | ((with_reducible apply gLt); walk_at "n")
  | ((with_reducible apply gNot); (first | assumption | omega))
  | with_reducible exact Same.refl _
  | ((with_reducible apply tupOf); walk_at "f")
  | ((with_reducible apply lstOf); walk_at "f")
  | ((with_reducible apply gCls); assumption)
  | ((with_reducible apply gNoAttr); assumption)
  | ((with_reducible apply gIsPl); assumption)
  | ((with_reducible apply gStL); assumption)
  | ((with_reducible apply gIntD); assumption)
  | ((with_reducible apply gSqT); assumption)
  | ((with_reducible apply gSqL); assumption)
  | ((with_reducible apply tyV_l); walk_at "f")
  | ((with_reducible apply Rd.of); walk_at "f")
  | ((with_reducible apply dget_ne); assumption; assumption)
  | ((with_reducible apply dget_fd) <;> walk_at "f")
  | ((with_reducible apply dput_int) <;> walk_at "f")
  | ((with_reducible apply dput_fd) <;> walk_at "f")
  | ((with_reducible apply rd_upd); assumption; walk_at "f")
  | ((with_reducible apply same_put); walk_at "f"; assumption)
  | ((with_reducible apply sx_upd) <;> walk_at "f")
  | ((with_reducible refine Same.trans ?_ (by assumption)); walk_at "f")
  | ((with_reducible apply cmulLg); omega; omega)
  | ((with_reducible apply cmulRg); omega; omega)
  | ((with_reducible apply SameE.upd); walk_at "f")
  | ((with_reducible apply StL.same); assumption; walk_at "f")
  | ((with_reducible apply LT.same); assumption; walk_at "f")
  | ((with_reducible apply IsP.same); assumption; walk_at "f")
  | ((with_reducible apply IsPl.same); assumption; walk_at "f")
  | ((with_reducible apply IntD.same); assumption; walk_at "f")
  | ((with_reducible apply PrD.same); assumption; walk_at "f")
  | ((with_reducible apply Or.inl); walk_at "f")
  | ((with_reducible apply Or.inr); walk_at "f")))
local macro_rules | `(tactic| walk_at "g") => `(tactic| repeat (first
  | with_reducible apply And.intro
  | with_reducible apply Exists.intro
  | walk_at "f"
  | ((with_reducible apply iteT); assumption)
  | ((with_reducible apply iteF); assumption)
  | ((with_reducible apply iteD); (first | assumption | omega))
  | ((with_reducible apply iteN); (first | assumption | omega))
  | ((with_reducible apply iteD2); (first | assumption | omega))
  | ((with_reducible apply iteN2); (first | assumption | omega))
  | apply And.intro
  | apply Exists.intro))
section
variable {P : Program} {w : World} {K : PySem.W.Frag} {mg : Str → Option Value} {base : Heap}
def sp_p_push (K : PySem.W.Frag) : Sp := fun vs H Q _ => ∃ df a way ks f most, vs = [.ref df, .ref a, .int most] ∧ IntD H df ks f ∧ LT arcV H a way ∧ (∀ m ∈ way, m.name ∈ ks) ∧ ks.length ≤ 30 ∧ way.length ≤ 100 ∧ (∀ m ∈ way, m.sign = 1 ∨ m.sign = -1) ∧
  ∀ H' amt, SameE df H H' → IntD H' df ks (pushes f amt way) → amt ≤ most → (∀ m ∈ way, amt ≤ m.most) → (amt = most ∨ ∃ m ∈ way, amt = m.most) → Q (.int amt) H'
theorem sc_p_push : FnScope ["flows", "way", "most", "amount", "arc"] ["flows", "way", "most"] (defScope s_p_push) := ⟨rfl, rfl, rfl, by decide +kernel, rfl, by decide +kernel, by decide +kernel⟩
theorem ok_p_push (T : Tx K mg) : Has P w K mg base CX0 1 (A_p_push K) ["flows", "way", "most"] [] (sp_p_push K) := by
  obtain ⟨fd, F⟩ := T.F_p_push
  refine ⟨fd, [], F.ok sc_p_push (fun vs H Q E h => by
    obtain ⟨_, _, _, _, _, _, rfl, _⟩ := h
    rfl) (fun cdv A outer s H vs Q E hr h => ?_), F.bindsN (fun _ _ _ _ _ _ us hl => match us, hl with | [_, _, _], _ => rfl), .nil, F.kp⟩
  obtain ⟨df, a, way, ks, f, most, rfl, hd, ha, hn, hl, hw, hsg, q⟩ := h
  obtain ⟨vs, ha1, ha2⟩ := ha.ex
  refine ⟨_, (pss_cons (ps_set (i := 3) sc_p_push.nd rfl (Or.inl rfl) (pe_callB (minL rfl) (by rfl) T.b_min (by decide +kernel) (pa_cons (pe_op op_cat (pe_lst (pa_cons (pv 2) pa_nil)) (pe_lc (own := [("arc", 4)]) (g := (gName 4)) rfl sc_p_push.nd (pi_list (pv 1)) (blkOk_by (own := [("arc", 4)]) (N := ["flows", "way", "most", "amount", "arc"]) (sc := defScope s_p_push) (by decide +kernel)) (fun _ _ _ _ _ => (pg_name (i := 4) sc_p_push.nd rfl (Or.inl rfl))) (fun _ _ _ _ _ => pts_nil) (fun _ _ _ _ _ => (pe_ix ixT (pv 4) (pe_int) (fun _ _ => rfl))))) pa_nil)))
      (pss_cons (psFor (passes_of rfl) rfl (pi_list (pv 1)) (pg_name (i := 4) sc_p_push.nd rfl (Or.inl rfl))
      (pss_one (ps_daug (hu_of hr) (pv 0) (pe_ix ixT (pv 4) (pe_int) (fun _ _ => rfl)) (pe_op op_mul (pe_ix ixT (pv 4) (pe_int) (fun _ _ => rfl)) (pv 3)) in_add (fun _ _ _ => rfl))))
      (pss_one (ps_ret (pv 3))))), ?_⟩
  walk_at "g"
  intro b n_b; generalize hG : upd H b _ = H1; have s_H1 : Same H H1 := nw_same n_b hG; have e_b := nw_at hG; clear hG
  walk_at "g"
  intro D hD
  refine lcV (LT.wk (m := arcV) (vs := vs) (xs := way)) (fun m => some m.most) V.int hD ⟨lstOf (s_H1 _ _ ha1), ha2.imp fun x v => TupR.same s_H1⟩ (by omega) (fun i x v H' Ky Kn ex s _ hv ky kn => ?_) (fun H2 s2 eD => ?_)
  · obtain ⟨t, rfl, ht⟩ := hv
    walk_at "g"
    exact ky _ _ (Same.refl _) rfl
  · rw [fm_map] at eD
    have hlen : way.length ≤ 400 := by omega
    walk_at "g"
    · rw [List.length_map, List.length_map]
      exact Nat.le_of_lt (small1000 (by show 1 + _ ≤ _; omega))
    intro c n_c; generalize hG : upd H2 c _ = H3; have s_H3 : Same H2 H3 := nw_same n_c hG; have e_c := nw_at hG; clear hG
    have e_c2 : H3 c = some (.lst ((most :: way.map (·.most)).map V.int)) := e_c
    walk_at "g"
    · exact Nat.succ_pos _
    intro amt hm hle
    have sm : Same H H3 := s_H1.trans (s2.trans s_H3)
    walk_at "g"
    refine ⟨forG (LT.wk (m := arcV) (vs := vs) (xs := way)) (fun i σ H' => ∃ y0, σ = [some (.ref df), some (.ref a), some (.int most), some (.int amt), y0] ∧ SameE df H3 H' ∧ SameX ND H3 H' ∧ IntD H' df ks (pushes f amt (way.take i))) ⟨_, rfl, SameE.refl, SameX.refl, sm _ _ hd⟩ (fun i σ H' _ h => ?_) (fun i x v σ H' H'' ex h s5 hv => ?_) (fun σ H' h => ?_)⟩
    · obtain ⟨y0, rfl, t0, t1, t2⟩ := h
      exact ⟨lstOf (t1 _ _ (fun ys e => by cases e) (sm _ _ ha1)), A2.sx t1 (ha2.imp fun x v => TupR.same sm)⟩
    · obtain ⟨y0, rfl, t0, t1, t2⟩ := h
      obtain ⟨t, rfl, ht⟩ := hv
      have hx := List.mem_of_getElem? ex
      have h1 := hn x hx
      have h2 := hsg x hx
      have u0 : SameE df H3 H'' := t0.trans (.of s5)
      have u1 : SameX ND H3 H'' := t1.trans (.of s5)
      have u2 := s5 _ _ t2
      have u3 : Rd H'' df (.dK (fdV ks fun k => .int (pushes f amt (way.take i) k))) := .inl u2
      walk_at "g"
      exact intD_upd fun k _ => by rw [take_snoc ex, pushes_snoc]
    · obtain ⟨y0, rfl, t0, t1, t2⟩ := h
      walk_at "g"
      rw [List.take_length] at t2
      refine q H' amt ((SameE.of sm).trans t0) t2 (hle _ List.mem_cons_self) (fun m hm => hle _ (List.mem_cons_of_mem _ (List.mem_map.mpr ⟨m, hm, rfl⟩))) ?_
      rcases List.mem_cons.mp hm with e | e
      · exact .inl e
      · obtain ⟨m, h1, h2⟩ := List.mem_map.mp e
        exact .inr ⟨m, h1, h2.symm⟩
end
end M
end
-- part W6
section
set_option Elab.async false
set_option linter.all false
set_option maxRecDepth 100000
set_option maxHeartbeats 4000000
namespace M
open PySem PySem.Spec PyProof.Rows L2
local macro_rules | `(tactic| walk_at "e") => `(tactic| (first
  | exact rfl
  | assumption
  | exact upd_same
  | exact flat_strs
  | exact fd_keys
  | ((with_reducible apply same_at); assumption; walk_at "f")
  | ((with_reducible apply at_upd); assumption; walk_at "f")
  | omega))
local macro_rules | `(tactic| walk_at "n") => `(tactic| (first
  | assumption
  | omega
  | exact Nat.le_of_lt (small1000 (by first | assumption | omega))
  | exact (Nat.zero_le _ : 0 ≤ sizeLine)
  | exact (by decide : 1 ≤ sizeLine)
  | exact (by decide : 2 ≤ sizeLine)
  | exact (by decide : 3 ≤ sizeLine)
  | exact (by decide : 5 ≤ sizeLine)
  | exact (by decide : 6 ≤ sizeLine)
  | (show _ < 1000; exact of_decide_eq_true rfl)
  | exact len2 (by omega) (by omega)
  | exact small1000 (by first | assumption | omega)))
local macro_rules | `(tactic| walk_at "f") => `(tactic| (first
  | with_reducible assumption
  | ((with_reducible apply gEq); walk_at "e")
  | ((with_reducible apply gLe); walk_at "n")
  | ((with_reducible apply gLt); walk_at "n")
  | ((with_reducible apply gNot); (first | assumption | omega))
  | with_reducible exact Same.refl _
  | ((with_reducible apply tupOf); walk_at "f")
  | ((with_reducible apply lstOf); walk_at "f")
  | ((with_reducible apply gCls); assumption)
  | ((with_reducible apply gNoAttr); assumption)
  | ((with_reducible apply gIsPl); assumption)
  | ((with_reducible apply gStL); assumption)
  | ((with_reducible apply gIntD); assumption)
  | ((with_reducible apply gSqT); assumption)
  | ((with_reducible apply gSqL); assumption)
  | ((with_reducible apply tyV_l); walk_at "f")
  | ((with_reducible apply Rd.of); walk_at "f")
  | ((with_reducible apply dget_ne); assumption; assumption)
  | ((with_reducible apply dget_fd) <;> walk_at "f")
  | ((with_reducible apply dput_int) <;> walk_at "f")
  | ((with_reducible apply dput_fd) <;> walk_at "f")
  | ((with_reducible apply rd_upd); assumption; walk_at "f")
  | ((with_reducible apply same_put); walk_at "f"; assumption)
  | ((with_reducible apply sx_upd) <;> walk_at "f")
  | ((with_reducible refine Same.trans ?_ (by assumption)); walk_at "f")
  | ((with_reducible apply cmulLg); omega; omega)
  | ((with_reducible apply cmulRg); omega; omega)
  | ((with_reducible apply SameE.upd); walk_at "f")
  | ((with_reducible apply StL.same); assumption; walk_at "f")
  | ((with_reducible apply LT.same); assumption; walk_at "f")
  | ((with_reducible apply IsP.same); assumption; walk_at "f")
  | ((with_reducible apply IsPl.same); assumption; walk_at "f")
  | ((with_reducible apply IntD.same); assumption; walk_at "f")
  | ((with_reducible apply PrD.same); assumption; walk_at "f")
  | ((with_reducible apply Or.inl); walk_at "f")
  | ((with_reducible apply Or.inr); walk_at "f")))
local macro_rules | `(tactic| walk_at "g") => `(tactic| repeat (first
  | with_reducible apply And.intro
  | with_reducible apply Exists.intro
  | walk_at "f"
  | ((with_reducible apply iteT); assumption)
  | ((with_reducible apply iteF); assumption)
  | ((with_reducible apply iteD); (first | assumption | omega))
  | ((with_reducible apply iteN); (first | assumption | omega))
  | ((with_reducible apply iteD2); (first | assumption | omega))
  | ((with_reducible apply iteN2); (first | assumption | omega))
  | apply And.intro
  | apply Exists.intro))
section
variable {P : Program} {w : World} {K : PySem.W.Frag} {mg : Str → Option Value} {base : Heap}
theorem snoc_cases {α : Type} (l : List α) : l = [] ∨ ∃ l' x, l = l' ++ [x] := by
  rcases List.eq_nil_or_concat l with h | ⟨a, b, h⟩
  · exact .inl h
  · exact .inr ⟨a, b, by rw [h, List.concat_eq_append]⟩
/-- come_to's state: found R, waiting L; behind i pairs of the turn of place -/
structure CT (ps : List (Str × Str)) (S U : List Str) (R L : List Str) (place : Option Str) (i : Nat) : Prop where
  nd : R.Nodup
  inU : ∀ v ∈ R, v ∈ U
  LR : ∀ v ∈ L, v ∈ R
  SR : ∀ v ∈ S, v ∈ R
  cl : ∀ p ∈ ps, p.1 ∈ R → p.1 ∈ L ∨ p.2 ∈ R ∨ (some p.1 = place ∧ p ∈ ps.drop i)
  mn : ∀ C : Str → Prop, (∀ s ∈ S, C s) → (∀ p ∈ ps, C p.1 → C p.2) → ∀ v ∈ R, C v
theorem CT.pop {ps : List (Str × Str)} {S U R L : List Str} {i : Nat} {x : Str} (h : CT ps S U R (L ++ [x]) none i) : CT ps S U R L (some x) 0 ∧ x ∈ R where
  left := {
    nd := h.nd
    inU := h.inU
    LR := fun v hv => h.LR v (List.mem_append_left _ hv)
    SR := h.SR
    cl := fun p hp hr => by
      rcases h.cl p hp hr with z | z | z
      · rcases List.mem_append.mp z with z | z
        · exact .inl z
        · exact .inr (.inr ⟨congrArg some (List.mem_singleton.mp z), hp⟩)
      · exact .inr (.inl z)
      · exact absurd z.1 (by simp)
    mn := h.mn }
  right := h.LR x (List.mem_append_right _ (List.mem_singleton.mpr rfl))
theorem CT.next {ps : List (Str × Str)} {S U R L : List Str} {i : Nat} {x : Str} {p : Str × Str} (h : CT ps S U R L (some x) i) (e : ps[i]? = some p) (hp : ¬ (p.1 = x ∧ p.2 ∉ R)) : CT ps S U R L (some x) (i + 1) where
  nd := h.nd
  inU := h.inU
  LR := h.LR
  SR := h.SR
  cl := fun r hr h1 => by
    rcases h.cl r hr h1 with z | z | ⟨z1, z2⟩
    · exact .inl z
    · exact .inr (.inl z)
    · rw [List.drop_eq_getElem_cons (List.getElem?_eq_some_iff.mp e).1, (List.getElem?_eq_some_iff.mp e).2] at z2
      rcases List.mem_cons.mp z2 with z2 | z2
      · subst z2
        by_cases q : r.2 ∈ R
        · exact .inr (.inl q)
        · exact absurd ⟨Option.some.inj z1, q⟩ hp
      · exact .inr (.inr ⟨z1, z2⟩)
  mn := h.mn
theorem CT.add {ps : List (Str × Str)} {S U R L : List Str} {i : Nat} {x : Str} {p : Str × Str} (h : CT ps S U R L (some x) i) (e : ps[i]? = some p) (h1 : p.1 = x) (h2 : p.2 ∉ R) (hx : x ∈ R) (hU : p.2 ∈ U) : CT ps S U (R ++ [p.2]) (L ++ [p.2]) (some x) (i + 1) where
  nd := nodup_snoc h.nd h2
  inU := fun v hv => by
    rcases List.mem_append.mp hv with z | z
    · exact h.inU v z
    · rw [List.mem_singleton.mp z]
      exact hU
  LR := fun v hv => by
    rcases List.mem_append.mp hv with z | z
    · exact List.mem_append_left _ (h.LR v z)
    · exact List.mem_append_right _ z
  SR := fun v hv => List.mem_append_left _ (h.SR v hv)
  cl := fun r hr hm => by
    rcases List.mem_append.mp hm with z | z
    · rcases h.cl r hr z with z | z | ⟨z1, z2⟩
      · exact .inl (List.mem_append_left _ z)
      · exact .inr (.inl (List.mem_append_left _ z))
      · rw [List.drop_eq_getElem_cons (List.getElem?_eq_some_iff.mp e).1, (List.getElem?_eq_some_iff.mp e).2] at z2
        rcases List.mem_cons.mp z2 with z2 | z2
        · subst z2
          exact .inr (.inl (List.mem_append_right _ (List.mem_singleton.mpr rfl)))
        · exact .inr (.inr ⟨z1, z2⟩)
    · exact .inl (List.mem_append_right _ z)
  mn := fun C hs hc v hv => by
    rcases List.mem_append.mp hv with z | z
    · exact h.mn C hs hc v z
    · rw [List.mem_singleton.mp z]
      exact hc p (List.mem_of_getElem? e) (h1 ▸ h.mn C hs hc x hx)
def sp_come_to (K : PySem.W.Frag) : Sp := fun vs H Q _ => ∃ a b ps S, ∃ U : List Str, vs = [.ref a, .ref b] ∧ LT prsV H a ps ∧ StL H b S ∧ S.Nodup ∧ (∀ s ∈ S, s ∈ U) ∧ (∀ p ∈ ps, p.2 ∈ U) ∧ U.length ≤ 100 ∧ ps.length ≤ 100 ∧
  ∀ H' d R, Same H H' → H d = none → H' d = some (.dK (fdV R fun _ => .bl true)) → (∀ s ∈ S, s ∈ R) → (∀ p ∈ ps, p.1 ∈ R → p.2 ∈ R) → (∀ C : Str → Prop, (∀ s ∈ S, C s) → (∀ p ∈ ps, C p.1 → C p.2) → ∀ v ∈ R, C v) → Q (.ref d) H'
theorem sc_come_to : FnScope ["pairs", "starts", "found", "waiting", "place", "one", "other"] ["pairs", "starts"] (defScope s_come_to) := ⟨rfl, rfl, rfl, by decide +kernel, rfl, by decide +kernel, by decide +kernel⟩
theorem ok_come_to (T : Tx K mg) : Has P w K mg base CX0 1 (A_come_to K) ["pairs", "starts"] [] (sp_come_to K) := by
  obtain ⟨fd, F⟩ := T.F_come_to
  refine ⟨fd, [], F.ok sc_come_to (fun vs H Q E h => by
    obtain ⟨_, _, _, _, _, rfl, _⟩ := h
    rfl) (fun cdv A outer s H vs Q E hr h => ?_), F.bindsN (fun _ _ _ _ _ _ us hl => match us, hl with | [_, _], _ => rfl), .nil, F.kp⟩
  obtain ⟨a, b, ps, S, U, rfl, ha, hb, hS, hSU, hpU, hU, hps, q⟩ := h
  obtain ⟨vs, ha1, ha2⟩ := ha.ex
  have hSl := nodup_le hS hSU
  refine ⟨_, (pss_cons (ps_setDc (i := 2) (own := [("place", 4)]) (g := (gName 4)) rfl sc_come_to.nd rfl rfl (sw_dict rfl rfl rfl (by decide +kernel)) (pi_list (pv 1)) (blkOk_by (own := [("place", 4)]) (N := ["pairs", "starts", "found", "waiting", "place", "one", "other"]) (sc := defScope s_come_to) (by decide +kernel)) (fun _ _ _ _ _ => (pg_name (i := 4) sc_come_to.nd rfl (Or.inl rfl))) (fun _ _ _ _ _ => pts_nil) (fun _ _ _ _ _ => (pv 4)) (fun _ _ _ _ _ => (pe_bl)))
      (pss_cons (ps_set (i := 3) sc_come_to.nd rfl (Or.inl rfl) (pe_callTy listL (by rfl) T.b_list (by decide +kernel) (pa_cons (pv 1) pa_nil)))
      (pss_cons (psWhl (passes_of rfl) (ptTruL (pv 3) (by intro _; rfl))
      (pss_cons (ps_set (i := 4) sc_come_to.nd rfl (Or.inl rfl) (pe_bm0 PySem.F.plainAttrs_list PySem.F.slot_list_pop PySem.F.type_list_pop mt_pop (pv 3)))
      (pss_one (psFor (passes_of rfl) rfl (pi_list (pv 0)) (pg_tup (by rfl) (pgs_cons (pg_name (i := 5) sc_come_to.nd rfl (Or.inl rfl)) (pgs_cons (pg_name (i := 6) sc_come_to.nd rfl (Or.inl rfl)) pgs_nil)))
      (pss_one (ps_if (PW.pt (pw_and (pt_cmpR op_eq (pv 5) (pv 4) (nomark _)) (pw_and1 (pt_cmp (pc_dnotin (hu_of hr) (pv 6) (pv 2))))))
      (pss_cons (ps_dput (hu_of hr) (pv 2) (pv 6) (pe_bl) rfl)
      (pss_one (ps_expr (pe_bm PySem.F.plainAttrs_list PySem.F.slot_list_append PySem.F.type_list_append mt_append (pv 3) (pa_cons (pv 6) pa_nil)))))
      pss_nil))))))
      (pss_one (ps_ret (pv 2)))))), ?_⟩
  walk_at "g"
  intro D hD
  refine dcV (wk_listM (ys := S) (m := V.str)) kS (fun _ => V.bl true) (nodup_kS hS) hD (lstOf hb) (by omega) (fun i x v H' Ky Kn ex s _ hv ky => ?_) (fun H1 s1 e1 => ?_)
  · subst hv
    walk_at "g"
    exact ky _ (Same.refl _)
  walk_at "g"
  intro W n_W; generalize hG : upd H1 W _ = H2; have s_H2 : Same H1 H2 := nw_same n_W hG; have e_W := nw_at hG; clear hG
  have nW : H W = none := s1.free n_W
  have hDW : D ≠ W := ne_of_none e1 n_W
  have haW : a ≠ W := ne_of_none ha1 nW
  have hWD : W ≠ D := hDW.symm
  walk_at "g"
  refine ⟨whileG (fun m σ H' => ∃ y0 y1 y2, ∃ R L : List Str, σ = [some (.ref a), some (.ref b), some (.ref D), some (.ref W), y0, y1, y2] ∧ Same H H' ∧ H' D = some (.dK (fdV R fun _ => .bl true)) ∧ H' W = some (.lst (L.map V.str)) ∧ CT ps S U R L none 0 ∧ m = 2 * (U.length - R.length) + L.length ∧ m ≤ 300) _
    ⟨none, none, none, S, S, rfl, s1.trans s_H2, s_H2 _ _ e1, e_W, ⟨hS, hSU, fun _ h => h, fun _ h => h, fun p hp hr => .inl hr, fun C hs hc v hv => hs v hv⟩, rfl, by omega⟩ (fun m σ H' h => ?_)⟩
  obtain ⟨y0, y1, y2, R, L, rfl, t1, t2, t3, t4, rfl, hm3⟩ := h
  walk_at "g"
  have hRU := nodup_le t4.nd t4.inU
  rcases snoc_cases L with rfl | ⟨L', x, rfl⟩
  · refine iteF ?_
    walk_at "g"
    exact q H' D R t1 hD t2 t4.SR (fun p hp h1 => by
      rcases t4.cl p hp h1 with z | z | z
      · cases z
      · exact z
      · cases z.1) t4.mn
  · rw [show (!((L' ++ [x]).map V.str).isEmpty) = true by simp]
    refine iteT ?_
    rw [List.map_append] at t3
    have hlast : (L'.map V.str ++ [x].map V.str)[(L'.map V.str ++ [x].map V.str).length - 1]? = some (V.str x) := by simp
    walk_at "g"
    generalize hG : upd H' W _ = H3
    have t1' := ow_same t1 nW hG
    have e_W' := nw_at hG
    have t2' : H3 D = some (.dK (fdV R fun _ => .bl true)) := by
      rw [← hG, upd_ne hDW]
      exact t2
    clear hG
    rw [show (L'.map V.str ++ [x].map V.str).dropLast = L'.map V.str by simp] at e_W'
    obtain ⟨c1, hxR⟩ := t4.pop
    have ml : (L' ++ [x]).length = L'.length + 1 := by simp
    generalize hm : 2 * (U.length - R.length) + (L' ++ [x]).length = m' at *
    refine ⟨forG (LT.wk (m := prsV) (vs := vs) (xs := ps)) (fun i σ H4 => Hold (∃ y1 y2, ∃ R L : List Str, σ = [some (.ref a), some (.ref b), some (.ref D), some (.ref W), some (.str x), y1, y2] ∧ Same H H4 ∧ H4 D = some (.dK (fdV R fun _ => .bl true)) ∧ H4 W = some (.lst (L.map V.str)) ∧ CT ps S U R L (some x) i ∧ x ∈ R ∧
      2 * (U.length - R.length) + L.length < m')) ⟨y1, y2, R, L', rfl, t1', t2', e_W', c1, hxR, by omega⟩ (fun i σ H' _ h => ?_) (fun i p v σ H' H'' ex h s5 hv => ?_) (fun σ H' h => ?_)⟩
    · obtain ⟨y1, y2, R, L, rfl, t1, t2, t3, t4, t5, t6⟩ := h.go
      exact ⟨lstOf (t1 _ _ ha1), ha2.imp fun s v => TupR.same t1⟩
    · obtain ⟨y1, y2, R, L, rfl, t1, t2, t3, t4, t5, t6⟩ := h.go
      obtain ⟨t, rfl, ht⟩ := hv
      have u1 : Same H H'' := t1.trans s5
      have u2 := s5 _ _ t2
      have u3 := s5 _ _ t3
      have hRU := nodup_le t4.nd t4.inU
      walk_at "g"
      refine ite_d (fun e1 => ?_) (fun e1 => ?_)
      · have e1 : p.1 = x := V.str.inj e1
        by_cases hR : p.2 ∈ R
        · have g1 : DGet H'' D (.str p.2) (some (.bl true)) := dget_fd (g := fun _ => .bl true) (.inl u2) hR
          walk_at "g"
          exact ⟨_, _, R, L, rfl, u1, u2, u3, t4.next ex fun z => z.2 hR, t5, t6⟩
        · have g1 : DGet H'' D (.str p.2) none := dget_fd0 (g := fun _ => .bl true) (.inl u2) hR
          have g2 : DPut H'' D (.str p.2) (.bl true) (upd H'' D (.dK (fdV (R ++ [p.2]) (up (fun _ => .bl true) p.2 (.bl true))))) := dput_new u2 hR (by omega)
          have hU2 := hpU p (List.mem_of_getElem? ex)
          have c2 := t4.add ex e1 hR t5 hU2
          have hRU2 := nodup_le c2.nd c2.inU
          rw [List.length_append] at hRU2
          have hRU3 : R.length + 1 ≤ U.length := hRU2
          have hL : (L.map V.str).length ≤ 1000 := by
            rw [List.length_map]
            omega
          walk_at "g"
          refine ⟨_, _, R ++ [p.2], L ++ [p.2], rfl, same_put (same_put u1 hD) nW, ?_, ?_, c2, List.mem_append_left _ t5, ?_⟩
          · rw [upd_ne hDW, upd_same]
            unfold up fdV
            congr 3
            funext k
            show (kS k, if k = p.2 then V.bl true else V.bl true) = (kS k, V.bl true)
            split <;> rfl
          · rw [upd_same, List.map_append]
            rfl
          · rw [List.length_append, List.length_append]
            show 2 * (U.length - (R.length + 1)) + (L.length + 1) < m'
            omega
      · walk_at "g"
        exact ⟨_, _, R, L, rfl, u1, u2, u3, t4.next ex fun z => e1 (congrArg V.str z.1), t5, t6⟩
    · obtain ⟨y1, y2, R, L, rfl, t1, t2, t3, t4, t5, t6⟩ := h.go
      refine Dec.of (2 * (U.length - R.length) + L.length) t6 ⟨_, _, _, R, L, rfl, t1, t2, t3, ⟨t4.nd, t4.inU, t4.LR, t4.SR, fun p hp h1 => ?_, t4.mn⟩, rfl, by omega⟩
      rcases t4.cl p hp h1 with z | z | z
      · exact .inl z
      · exact .inr (.inl z)
      · rw [List.drop_length] at z
        cases z.2
def sp_leading_to (K : PySem.W.Frag) : Sp := fun vs H Q _ => ∃ a dl df b ls ks lim f S, ∃ U : List Str, vs = [.ref a, .ref dl, .ref df, .ref b] ∧ LT lineV H a ls ∧ PrD H dl ks lim ∧ IntD H df ks f ∧ (∀ s ∈ ls, s.name ∈ ks) ∧ ls.length ≤ 30 ∧ StL H b S ∧ S.Nodup ∧ (∀ s ∈ S, s ∈ U) ∧ (∀ m ∈ arcsOf lim f ls, m.tail ∈ U) ∧ U.length ≤ 100 ∧
  ∀ H' d R, Same H H' → H d = none → H' d = some (.dK (fdV R fun _ => .bl true)) → (∀ s ∈ S, s ∈ R) → (∀ m ∈ arcsOf lim f ls, m.head ∈ R → m.tail ∈ R) → (∀ C : Str → Prop, (∀ s ∈ S, C s) → (∀ m ∈ arcsOf lim f ls, C m.head → C m.tail) → ∀ v ∈ R, C v) → Q (.ref d) H'
theorem sc_leading_to : FnScope ["lines", "limits", "flows", "ends", "pairs", "arc"] ["lines", "limits", "flows", "ends"] (defScope s_leading_to) := ⟨rfl, rfl, rfl, by decide +kernel, rfl, by decide +kernel, by decide +kernel⟩
theorem ok_leading_to (T : Tx K mg) : Has P w K mg base CX0 2 (A_leading_to K) ["lines", "limits", "flows", "ends"] [] (sp_leading_to K) := by
  obtain ⟨fd, F⟩ := T.F_leading_to
  refine ⟨fd, [], F.ok sc_leading_to (fun vs H Q E h => by
    obtain ⟨_, _, _, _, _, _, _, _, _, _, rfl, _⟩ := h
    rfl) (fun cdv A outer s H vs Q E hr h => ?_), F.bindsN (fun _ _ _ _ _ _ us hl => match us, hl with | [_, _, _, _], _ => rfl), .nil, F.kp⟩
  obtain ⟨a, dl, df, b, ls, ks, lim, f, S, U, rfl, ha, hdl, hdf, hn, hl, hb, hS, hSU, hmU, hU, q⟩ := h
  have hal := @arcs_len lim f ls
  refine ⟨_, (pss_cons (ps_setLc (i := 4) (own := [("arc", 5)]) (g := (gName 5)) rfl sc_leading_to.nd rfl rfl (sw_true rfl rfl rfl (by decide +kernel)) (pi_list (hc (ok_arcs_of (K := K) T) (hr.mono (by decide)) T.g_arcs_of pass0 (pa_cons (pv 0) (pa_cons (pv 1) (pa_cons (pv 2) pa_nil))))) (blkOk_by (own := [("arc", 5)]) (N := ["lines", "limits", "flows", "ends", "pairs", "arc"]) (sc := defScope s_leading_to) (by decide +kernel)) (fun _ _ _ _ _ => (pg_name (i := 5) sc_leading_to.nd rfl (Or.inl rfl))) (fun _ _ _ _ _ => pts_nil) (fun _ _ _ _ _ => (pe_tup (pa_cons (pe_ix ixT (pv 5) (pe_int) (fun _ _ => rfl)) (pa_cons (pe_ix ixT (pv 5) (pe_int) (fun _ _ => rfl)) pa_nil)))))
      (pss_one (ps_ret (hc (ok_come_to (K := K) T) (hr.mono (by decide)) T.g_come_to pass0 (pa_cons (pv 4) (pa_cons (pv 3) pa_nil)))))), ?_⟩
  walk_at "g"
  intro H1 c s1 nc ec
  obtain ⟨us, ec1, ec2⟩ := ec.ex
  walk_at "g"
  intro D hD
  refine lcG (LT.wk (m := arcV) (vs := us) (xs := arcsOf lim f ls)) (fun m => some (m.head, m.tail)) (fun p v H => TupR (prsV p) v H) rmL_tup hD ⟨lstOf ec1, ec2⟩ (by omega) (fun i x v H' Ky Kn ex s _ hv ky kn => ?_) (fun H2 ys s2 eD a2 => ?_)
  · obtain ⟨t, rfl, ht⟩ := hv
    walk_at "g"
    intro u n_u; generalize hG : upd H' u _ = H4; have s_H4 : Same H' H4 := nw_same n_u hG; have e_u := nw_at hG; clear hG
    exact ky _ H4 _ s_H4 rfl ⟨u, rfl, e_u⟩
  · rw [fm_map] at a2
    have hps : LT prsV H2 D ((arcsOf lim f ls).map fun m => (m.head, m.tail)) := ⟨ys, eD, a2⟩
    have hpU : ∀ p ∈ (arcsOf lim f ls).map (fun m => (m.head, m.tail)), p.2 ∈ U := fun p hp => by
      obtain ⟨m, hm, rfl⟩ := List.mem_map.mp hp
      exact hmU m hm
    have hpl : ((arcsOf lim f ls).map fun m => (m.head, m.tail)).length ≤ 100 := by
      rw [List.length_map]
      omega
    walk_at "g"
    intro H3 d R s3 nd ed h1 h2 h3
    exact q H3 d R (s1.trans (s2.trans s3)) ((s1.trans s2).free nd) ed h1 (fun m hm => h2 (m.head, m.tail) (List.mem_map.mpr ⟨m, hm, rfl⟩)) fun C c1 c2 v hv => h3 C c1 (fun p hp => by
      obtain ⟨m, hm, rfl⟩ := List.mem_map.mp hp
      exact c2 m hm) v hv
def sp_led_from (K : PySem.W.Frag) : Sp := fun vs H Q _ => ∃ a dl df b ls ks lim f S, ∃ U : List Str, vs = [.ref a, .ref dl, .ref df, .ref b] ∧ LT lineV H a ls ∧ PrD H dl ks lim ∧ IntD H df ks f ∧ (∀ s ∈ ls, s.name ∈ ks) ∧ ls.length ≤ 30 ∧ StL H b S ∧ S.Nodup ∧ (∀ s ∈ S, s ∈ U) ∧ (∀ m ∈ arcsOf lim f ls, m.head ∈ U) ∧ U.length ≤ 100 ∧
  ∀ H' d R, Same H H' → H d = none → H' d = some (.dK (fdV R fun _ => .bl true)) → (∀ s ∈ S, s ∈ R) → (∀ m ∈ arcsOf lim f ls, m.tail ∈ R → m.head ∈ R) → (∀ C : Str → Prop, (∀ s ∈ S, C s) → (∀ m ∈ arcsOf lim f ls, C m.tail → C m.head) → ∀ v ∈ R, C v) → Q (.ref d) H'
theorem sc_led_from : FnScope ["lines", "limits", "flows", "starts", "pairs", "arc"] ["lines", "limits", "flows", "starts"] (defScope s_led_from) := ⟨rfl, rfl, rfl, by decide +kernel, rfl, by decide +kernel, by decide +kernel⟩
theorem ok_led_from (T : Tx K mg) : Has P w K mg base CX0 2 (A_led_from K) ["lines", "limits", "flows", "starts"] [] (sp_led_from K) := by
  obtain ⟨fd, F⟩ := T.F_led_from
  refine ⟨fd, [], F.ok sc_led_from (fun vs H Q E h => by
    obtain ⟨_, _, _, _, _, _, _, _, _, _, rfl, _⟩ := h
    rfl) (fun cdv A outer s H vs Q E hr h => ?_), F.bindsN (fun _ _ _ _ _ _ us hl => match us, hl with | [_, _, _, _], _ => rfl), .nil, F.kp⟩
  obtain ⟨a, dl, df, b, ls, ks, lim, f, S, U, rfl, ha, hdl, hdf, hn, hl, hb, hS, hSU, hmU, hU, q⟩ := h
  have hal := @arcs_len lim f ls
  refine ⟨_, (pss_cons (ps_setLc (i := 4) (own := [("arc", 5)]) (g := (gName 5)) rfl sc_led_from.nd rfl rfl (sw_true rfl rfl rfl (by decide +kernel)) (pi_list (hc (ok_arcs_of (K := K) T) (hr.mono (by decide)) T.g_arcs_of pass0 (pa_cons (pv 0) (pa_cons (pv 1) (pa_cons (pv 2) pa_nil))))) (blkOk_by (own := [("arc", 5)]) (N := ["lines", "limits", "flows", "starts", "pairs", "arc"]) (sc := defScope s_led_from) (by decide +kernel)) (fun _ _ _ _ _ => (pg_name (i := 5) sc_led_from.nd rfl (Or.inl rfl))) (fun _ _ _ _ _ => pts_nil) (fun _ _ _ _ _ => (pe_tup (pa_cons (pe_ix ixT (pv 5) (pe_int) (fun _ _ => rfl)) (pa_cons (pe_ix ixT (pv 5) (pe_int) (fun _ _ => rfl)) pa_nil)))))
      (pss_one (ps_ret (hc (ok_come_to (K := K) T) (hr.mono (by decide)) T.g_come_to pass0 (pa_cons (pv 4) (pa_cons (pv 3) pa_nil)))))), ?_⟩
  walk_at "g"
  intro H1 c s1 nc ec
  obtain ⟨us, ec1, ec2⟩ := ec.ex
  walk_at "g"
  intro D hD
  refine lcG (LT.wk (m := arcV) (vs := us) (xs := arcsOf lim f ls)) (fun m => some (m.tail, m.head)) (fun p v H => TupR (prsV p) v H) rmL_tup hD ⟨lstOf ec1, ec2⟩ (by omega) (fun i x v H' Ky Kn ex s _ hv ky kn => ?_) (fun H2 ys s2 eD a2 => ?_)
  · obtain ⟨t, rfl, ht⟩ := hv
    walk_at "g"
    intro u n_u; generalize hG : upd H' u _ = H4; have s_H4 : Same H' H4 := nw_same n_u hG; have e_u := nw_at hG; clear hG
    exact ky _ H4 _ s_H4 rfl ⟨u, rfl, e_u⟩
  · rw [fm_map] at a2
    have hps : LT prsV H2 D ((arcsOf lim f ls).map fun m => (m.tail, m.head)) := ⟨ys, eD, a2⟩
    have hpU : ∀ p ∈ (arcsOf lim f ls).map (fun m => (m.tail, m.head)), p.2 ∈ U := fun p hp => by
      obtain ⟨m, hm, rfl⟩ := List.mem_map.mp hp
      exact hmU m hm
    have hpl : ((arcsOf lim f ls).map fun m => (m.tail, m.head)).length ≤ 100 := by
      rw [List.length_map]
      omega
    walk_at "g"
    intro H3 d R s3 nd ed h1 h2 h3
    exact q H3 d R (s1.trans (s2.trans s3)) ((s1.trans s2).free nd) ed h1 (fun m hm => h2 (m.tail, m.head) (List.mem_map.mpr ⟨m, hm, rfl⟩)) fun C c1 c2 v hv => h3 C c1 (fun p hp => by
      obtain ⟨m, hm, rfl⟩ := List.mem_map.mp hp
      exact c2 m hm) v hv
end
end M
end
-- part W7
section
set_option Elab.async false
set_option linter.all false
set_option maxRecDepth 100000
set_option maxHeartbeats 4000000
namespace M
open PySem PySem.Spec PyProof.Rows L2
local macro_rules | `(tactic| walk_at "e") => `(tactic| (first
  | exact rfl
  | assumption
  | exact upd_same
  | exact flat_strs
  | exact fd_keys
  | ((with_reducible apply same_at); assumption; walk_at "f")
  | ((with_reducible apply at_upd); assumption; walk_at "f")
  | omega))
local macro_rules | `(tactic| walk_at "n") => `(tactic| (first
  | assumption
  | omega
  | exact Nat.le_of_lt (small1000 (by first | assumption | omega))
  | exact (Nat.zero_le _ : 0 ≤ sizeLine)
  | exact (by decide : 1 ≤ sizeLine)
  | exact (by decide : 2 ≤ sizeLine)
  | exact (by decide : 3 ≤ sizeLine)
  | exact (by decide : 5 ≤ sizeLine)
  | exact (by decide : 6 ≤ sizeLine)
  | (show _ < 1000; exact of_decide_eq_true rfl)
  | exact len2 (by omega) (by omega)
  | exact small1000 (by first | assumption | omega)))
local macro_rules | `(tactic| walk_at "f") => `(tactic| (first
  | with_reducible assumption
  | ((with_reducible apply gEq); walk_at "e")
  | ((with_reducible apply gLe); walk_at "n")
  | ((with_reducible apply gLt); walk_at "n")
  | ((with_reducible apply gNot); (first | assumption | omega))
  | with_reducible exact Same.refl _
  | ((with_reducible apply tupOf); walk_at "f")
  | ((with_reducible apply lstOf); walk_at "f")
  | ((with_reducible apply gCls); assumption)
  | ((with_reducible apply gNoAttr); assumption)
  | ((with_reducible apply gIsPl); assumption)
  | ((with_reducible apply gStL); assumption)
  | ((with_reducible apply gIntD); assumption)
  | ((with_reducible apply gSqT); assumption)
  | ((with_reducible apply gSqL); assumption)
  | ((with_reducible apply tyV_l); walk_at "f")
  | ((with_reducible apply Rd.of); walk_at "f")
  | ((with_reducible apply dget_ne); assumption; assumption)
  | ((with_reducible apply dget_fd) <;> walk_at "f")
  | ((with_reducible apply dput_int) <;> walk_at "f")
  | ((with_reducible apply dput_fd) <;> walk_at "f")
  | ((with_reducible apply rd_upd); assumption; walk_at "f")
  | ((with_reducible apply same_put); walk_at "f"; assumption)
  | ((with_reducible apply sx_upd) <;> walk_at "f")
  | ((with_reducible refine Same.trans ?_ (by assumption)); walk_at "f")
  | ((with_reducible apply cmulLg); omega; omega)
  | ((with_reducible apply cmulRg); omega; omega)
  | ((with_reducible apply SameE.upd); walk_at "f")
  | ((with_reducible apply StL.same); assumption; walk_at "f")
  | ((with_reducible apply LT.same); assumption; walk_at "f")
  | ((with_reducible apply IsP.same); assumption; walk_at "f")
  | ((with_reducible apply IsPl.same); assumption; walk_at "f")
  | ((with_reducible apply IntD.same); assumption; walk_at "f")
  | ((with_reducible apply PrD.same); assumption; walk_at "f")
  | ((with_reducible apply Or.inl); walk_at "f")
  | ((with_reducible apply Or.inr); walk_at "f")))
local macro_rules | `(tactic| walk_at "g") => `(tactic| repeat (first
  | with_reducible apply And.intro
  | with_reducible apply Exists.intro
  | walk_at "f"
  | ((with_reducible apply iteT); assumption)
  | ((with_reducible apply iteF); assumption)
  | ((with_reducible apply iteD); (first | assumption | omega))
  | ((with_reducible apply iteN); (first | assumption | omega))
  | ((with_reducible apply iteD2); (first | assumption | omega))
  | ((with_reducible apply iteN2); (first | assumption | omega))
  | apply And.intro
  | apply Exists.intro))
section
variable {P : Program} {w : World} {K : PySem.W.Frag} {mg : Str → Option Value} {base : Heap}
/-- a dict of names whose values are none or a tuple -/
structure OptD {α : Type} (m : α → List V) (H : Hp) (d : Addr) (ks : List Str) (pr : Str → Option α) : Prop where
  ex : ∃ r : Str → V, H d = some (.dK (fdV ks r)) ∧ ∀ k ∈ ks, (pr k = none → r k = .non) ∧ ∀ x, pr k = some x → TupR (m x) (r k) H
theorem OptD.same {α : Type} {m : α → List V} {H H' : Hp} {d : Addr} {ks : List Str} {pr : Str → Option α} (s : Same H H') (h : OptD m H d ks pr) : OptD m H' d ks pr :=
  ⟨h.ex.imp fun r h => ⟨s _ _ h.1, fun k hk => ⟨(h.2 k hk).1, fun x e => ((h.2 k hk).2 x e).same s⟩⟩⟩
/-- what leads to the places of R: from a start, or by an arc from a place of lower rank -/
structure Preds (A : List Mv) (S R : List Str) (pr : Str → Option Mv) (ρ : Str → Int) : Prop where
  st : ∀ k ∈ R, pr k = none → k ∈ S
  ar : ∀ k ∈ R, ∀ m, pr k = some m → m ∈ A ∧ m.head = k ∧ m.tail ∈ R ∧ ρ m.tail < ρ k
  lo : ∀ k ∈ R, 0 ≤ ρ k ∧ ρ k ≤ 1000
def sp_p_way_back (K : PySem.W.Frag) : Sp := fun vs H Q _ => ∃ d x A S R pr ρ, vs = [.ref d, .str x] ∧ OptD arcV H d R pr ∧ Preds A S R pr ρ ∧ x ∈ R ∧
  ∀ H' a way s, Same H H' → H a = none → LT arcV H' a way → s ∈ S → s ∈ R → pr s = none → Way A s x way → Q (.ref a) H'
theorem sc_p_way_back : FnScope ["before", "place", "way"] ["before", "place"] (defScope s_p_way_back) := ⟨rfl, rfl, rfl, by decide +kernel, rfl, by decide +kernel, by decide +kernel⟩
theorem ok_p_way_back (T : Tx K mg) : Has P w K mg base CX0 1 (A_p_way_back K) ["before", "place"] [] (sp_p_way_back K) := by
  obtain ⟨fd, F⟩ := T.F_p_way_back
  refine ⟨fd, [], F.ok sc_p_way_back (fun vs H Q E h => by
    obtain ⟨_, _, _, _, _, _, _, rfl, _⟩ := h
    rfl) (fun cdv A outer s H vs Q E hr h => ?_), F.bindsN (fun _ _ _ _ _ _ us hl => match us, hl with | [_, _], _ => rfl), .nil, F.kp⟩
  obtain ⟨d, x, A, S, R, pr, ρ, rfl, hd, hP, hx, q⟩ := h
  obtain ⟨r, hd1, hd2⟩ := hd.ex
  refine ⟨_, (pss_cons (ps_set (i := 2) sc_p_way_back.nd rfl (Or.inl rfl) (pe_lst pa_nil))
      (pss_cons (psWhl (passes_of rfl) (pt_cmpR op_notN (pe_dget (hu_of hr) (pv 0) (pv 1) (fun _ _ => rfl)) (pe_non) (nomark _))
      (pss_cons (ps_expr (pe_bm PySem.F.plainAttrs_list PySem.F.slot_list_append PySem.F.type_list_append mt_append (pv 2) (pa_cons (pe_dget (hu_of hr) (pv 0) (pv 1) (fun _ _ => rfl)) pa_nil)))
      (pss_one (ps_set (i := 1) sc_p_way_back.nd rfl (Or.inl rfl) (pe_ix ixT (pe_dget (hu_of hr) (pv 0) (pv 1) (fun _ _ => rfl)) (pe_int) (fun _ _ => rfl))))))
      (pss_one (ps_ret (pe_revL (pv 2)))))), ?_⟩
  walk_at "g"
  intro D n_D; generalize hG : upd H D _ = H1; have s_H1 : Same H H1 := nw_same n_D hG; have e_D := nw_at hG; clear hG
  walk_at "g"
  refine ⟨whileG (fun n σ H' => Hold (∃ z, ∃ us : List V, ∃ l : List Mv, σ = [some (.ref d), some (.str z), some (.ref D)] ∧ Same H H' ∧ H' D = some (.lst us) ∧ A2 (fun m v => TupR (arcV m) v H') l us ∧ z ∈ R ∧ Chain z x l.reverse ∧ (∀ m ∈ l, m ∈ A ∧ ρ m.tail < ρ m.head) ∧ n = (ρ z).toNat ∧ l.length + n ≤ 1000))
    (ρ x).toNat ⟨x, [], [], rfl, s_H1, e_D, .nil, hx, rfl, fun m hm => (nomatch hm), rfl, ?_⟩ (fun n σ H' h => ?_)⟩
  · have := hP.lo x hx
    show 0 + (ρ x).toNat ≤ 1000
    omega
  · obtain ⟨z, us, l, rfl, t1, t2, t3, t4, t5, t6, rfl, t8⟩ := h.go
    have u1 : Rd H' d (.dK (fdV R r)) := .inl (t1 _ _ hd1)
    obtain ⟨g1, g2⟩ := hd2 z t4
    have t9 := t3.length
    cases e : pr z with
    | none =>
      have g3 : r z = .non := g1 e
      walk_at "g"
      intro a n_a; generalize hG : upd H' a _ = H3; have s_H3 : Same H' H3 := nw_same n_a hG; have e_a := nw_at hG; clear hG
      exact q H3 a l.reverse z (t1.trans s_H3) (t1.free n_a) ⟨_, e_a, A2_rev (t3.imp fun m v => TupR.same s_H3)⟩ (hP.st z t4 e) t4 e ⟨t5, fun m hm => (t6 m (List.mem_reverse.mp hm)).1, ρ, fun m hm => (t6 m (List.mem_reverse.mp hm)).2⟩
    | some m =>
      obtain ⟨t, g3, g4⟩ := g2 m e
      have g5 : H' t = some (.tup (arcV m)) := t1 _ _ g4
      have g6 : DGet H' d (.str z) (some (.ref t)) := by
        rw [← g3]
        exact dget_fd u1 t4
      have g7 : t ≠ D := ne_at g5 t2 (fun e => by cases e)
      have g8 : d ≠ D := ne_of_none hd1 n_D
      obtain ⟨p1, p2, p3, p4⟩ := hP.ar z t4 m e
      have p5 := hP.lo m.tail p3
      have p6 := hP.lo z t4
      have hul : us.length ≤ 1000 := by omega
      have g9 : ¬ V.ref t = V.non := fun z => by cases z
      walk_at "g"
      refine Dec.of (ρ m.tail).toNat (by omega) ⟨m.tail, _, l ++ [m], rfl, same_put t1 n_D, upd_same, app_tup (Same.refl _) t2 t3 g5, p3, ?_, fun m' hm => ?_, rfl, ?_⟩
      · rw [List.reverse_append]
        refine ⟨rfl, ?_⟩
        rw [p2]
        exact t5
      · rcases List.mem_append.mp hm with hm | hm
        · exact t6 m' hm
        · rw [List.mem_singleton.mp hm, p2]
          exact ⟨p1, p4⟩
      · rw [List.length_append]
        show l.length + 1 + _ ≤ 1000
        omega
end
end M
end
-- part W8
section
set_option Elab.async false
set_option linter.all false
set_option maxRecDepth 100000
set_option maxHeartbeats 4000000
namespace M
open PySem PySem.Spec PyProof.Rows L2
local macro_rules | `(tactic| walk_at "e") => `(tactic| (first
  | exact rfl
  | assumption
  | exact upd_same
  | exact flat_strs
  | exact fd_keys
  | ((with_reducible apply same_at); assumption; walk_at "f")
  | ((with_reducible apply at_upd); assumption; walk_at "f")
  | omega))
local macro_rules | `(tactic| walk_at "n") => `(tactic| (first
  | assumption
  | omega
  | exact Nat.le_of_lt (small1000 (by first | assumption | omega))
  | exact (Nat.zero_le _ : 0 ≤ sizeLine)
  | exact (by decide : 1 ≤ sizeLine)
  | exact (by decide : 2 ≤ sizeLine)
  | exact (by decide : 3 ≤ sizeLine)
  | exact (by decide : 5 ≤ sizeLine)
  | exact (by decide : 6 ≤ sizeLine)
  | (show _ < 1000; exact of_decide_eq_true rfl)
  | exact len2 (by omega) (by omega)
  | exact small1000 (by first | assumption | omega)))
local macro_rules | `(tactic| walk_at "f") => `(tactic| (first
  | with_reducible assumption
  | ((with_reducible apply gEq); walk_at "e")
  | ((with_reducible apply gLe); walk_at "n")
  | ((with_reducible apply gLt); walk_at "n")
  | ((with_reducible apply gNot); (first | assumption | omega))
  | with_reducible exact Same.refl _
  | ((with_reducible apply tupOf); walk_at "f")
  | ((with_reducible apply lstOf); walk_at "f")
  | ((with_reducible apply gCls); assumption)
  | ((with_reducible apply gNoAttr); assumption)
  | ((with_reducible apply gIsPl); assumption)
  | ((with_reducible apply gStL); assumption)
  | ((with_reducible apply gIntD); assumption)
  | ((with_reducible apply gSqT); assumption)
  | ((with_reducible apply gSqL); assumption)
  | ((with_reducible apply tyV_l); walk_at "f")
  | ((with_reducible apply Rd.of); walk_at "f")
  | ((with_reducible apply dget_ne); assumption; assumption)
  | ((with_reducible apply dget_fd) <;> walk_at "f")
  | ((with_reducible apply dput_int) <;> walk_at "f")
  | ((with_reducible apply dput_fd) <;> walk_at "f")
  | ((with_reducible apply rd_upd); assumption; walk_at "f")
  | ((with_reducible apply same_put); walk_at "f"; assumption)
  | ((with_reducible apply sx_upd) <;> walk_at "f")
  | ((with_reducible refine Same.trans ?_ (by assumption)); walk_at "f")
  | ((with_reducible apply cmulLg); omega; omega)
  | ((with_reducible apply cmulRg); omega; omega)
  | ((with_reducible apply SameE.upd); walk_at "f")
  | ((with_reducible apply StL.same); assumption; walk_at "f")
  | ((with_reducible apply LT.same); assumption; walk_at "f")
  | ((with_reducible apply IsP.same); assumption; walk_at "f")
  | ((with_reducible apply IsPl.same); assumption; walk_at "f")
  | ((with_reducible apply IntD.same); assumption; walk_at "f")
  | ((with_reducible apply PrD.same); assumption; walk_at "f")
  | ((with_reducible apply Or.inl); walk_at "f")
  | ((with_reducible apply Or.inr); walk_at "f")))
local macro_rules | `(tactic| walk_at "g") => `(tactic| repeat (first
  | with_reducible apply And.intro
  | with_reducible apply Exists.intro
  | walk_at "f"
  | ((with_reducible apply iteT); assumption)
  | ((with_reducible apply iteF); assumption)
  | ((with_reducible apply iteD); (first | assumption | omega))
  | ((with_reducible apply iteN); (first | assumption | omega))
  | ((with_reducible apply iteD2); (first | assumption | omega))
  | ((with_reducible apply iteN2); (first | assumption | omega))
  | apply And.intro
  | apply Exists.intro))
section
variable {P : Program} {w : World} {K : PySem.W.Frag} {mg : Str → Option Value} {base : Heap}
/-! ### the search's state -/
structure BF (A : List Mv) (S E U L : List Str) (pr : Str → Option Mv) (at_ : Nat) (pp : List Mv) : Prop where
  nd : L.Nodup
  inU : ∀ v ∈ L, v ∈ U
  SL : ∀ v ∈ S, v ∈ L
  le : at_ ≤ L.length
  done : ∀ j x, j < at_ → L[j]? = some x → x ∉ E ∧ ∀ m ∈ A, m.tail = x → m.head ∈ L
  cur : ∀ m ∈ pp, m.head ∈ L
  pd : ∃ ρ, Preds A S L pr ρ ∧ ∀ k ∈ L, ρ k < L.length
theorem BF.start {A : List Mv} {S E U : List Str} (n : S.Nodup) (h : ∀ s ∈ S, s ∈ U) (hl : S.length ≤ 1000) : BF A S E U S (fun _ => none) 0 [] where
  nd := n
  inU := h
  SL := fun _ h => h
  le := Nat.zero_le _
  done := fun j x h => absurd h (Nat.not_lt_zero _)
  cur := fun m h => (nomatch h)
  pd := ⟨fun _ => 0, ⟨fun k hk _ => hk, fun k hk m e => (nomatch e), fun k hk => ⟨Int.le_refl _, by decide⟩⟩, fun k hk => by
    have := List.length_pos_of_mem hk
    show (0 : Int) < S.length
    omega⟩
theorem BF.skip {A : List Mv} {S E U L : List Str} {pr : Str → Option Mv} {i : Nat} {pp : List Mv} {m : Mv} (h : BF A S E U L pr i pp) (hm : m.head ∈ L) : BF A S E U L pr i (pp ++ [m]) :=
  ⟨h.nd, h.inU, h.SL, h.le, h.done, fun r hr => by
    rcases List.mem_append.mp hr with z | z
    · exact h.cur r z
    · rw [List.mem_singleton.mp z]
      exact hm, h.pd⟩
theorem BF.add {A : List Mv} {S E U L : List Str} {pr : Str → Option Mv} {i : Nat} {pp : List Mv} {m : Mv} (h : BF A S E U L pr i pp) (hA : m ∈ A) (ht : m.tail ∈ L) (hm : m.head ∉ L) (hU : m.head ∈ U) (hu : U.length ≤ 100) : BF A S E U (L ++ [m.head]) (up pr m.head (some m)) i (pp ++ [m]) where
  nd := nodup_snoc h.nd hm
  inU := fun v hv => by
    rcases List.mem_append.mp hv with z | z
    · exact h.inU v z
    · rw [List.mem_singleton.mp z]
      exact hU
  SL := fun v hv => List.mem_append_left _ (h.SL v hv)
  le := by
    rw [List.length_append]
    exact Nat.le_trans h.le (Nat.le_add_right _ _)
  done := fun j x hj e => by
    rw [List.getElem?_append_left (Nat.lt_of_lt_of_le hj h.le)] at e
    obtain ⟨a, b⟩ := h.done j x hj e
    exact ⟨a, fun r hr er => List.mem_append_left _ (b r hr er)⟩
  cur := fun r hr => by
    rcases List.mem_append.mp hr with z | z
    · exact List.mem_append_left _ (h.cur r z)
    · rw [List.mem_singleton.mp z]
      exact List.mem_append_right _ (List.mem_singleton.mpr rfl)
  pd := by
    obtain ⟨ρ, p, q⟩ := h.pd
    have hl := nodup_le h.nd h.inU
    have ne : ∀ k ∈ L, k ≠ m.head := fun k hk e => hm (e ▸ hk)
    refine ⟨up ρ m.head L.length, ⟨fun k hk e => ?_, fun k hk r e => ?_, fun k hk => ?_⟩, fun k hk => ?_⟩
    · rcases List.mem_append.mp hk with z | z
      · rw [up_ne (ne k z)] at e
        exact p.st k z e
      · rw [List.mem_singleton.mp z, up_same] at e
        cases e
    · rcases List.mem_append.mp hk with z | z
      · rw [up_ne (ne k z)] at e
        obtain ⟨a, b, c, d⟩ := p.ar k z r e
        refine ⟨a, b, List.mem_append_left _ c, ?_⟩
        rw [up_ne (ne k z), up_ne (ne _ c)]
        exact d
      · have ek := List.mem_singleton.mp z
        subst ek
        rw [up_same] at e
        have := Option.some.inj e
        subst this
        refine ⟨hA, rfl, List.mem_append_left _ ht, ?_⟩
        rw [up_same, up_ne (ne _ ht)]
        exact q _ ht
    · rcases List.mem_append.mp hk with z | z
      · rw [up_ne (ne k z)]
        exact p.lo k z
      · rw [List.mem_singleton.mp z, up_same]
        omega
    · rw [List.length_append, List.length_singleton]
      rcases List.mem_append.mp hk with z | z
      · rw [up_ne (ne k z)]
        have := q k z
        omega
      · rw [List.mem_singleton.mp z, up_same]
        omega
theorem BF.next {A : List Mv} {S E U L : List Str} {pr : Str → Option Mv} {i : Nat} {x : Str} (e : L[i]? = some x) (hx : x ∉ E) (h : BF A S E U L pr i (A.filter fun m => decide (m.tail = x))) : BF A S E U L pr (i + 1) [] where
  nd := h.nd
  inU := h.inU
  SL := h.SL
  le := (List.getElem?_eq_some_iff.mp e).1
  done := fun j y hj ey => by
    by_cases z : j = i
    · subst z
      rw [e] at ey
      have := Option.some.inj ey
      subst this
      exact ⟨hx, fun m hm em => h.cur m (List.mem_filter.mpr ⟨hm, decide_eq_true em⟩)⟩
    · exact h.done j y (by omega) ey
  cur := fun m h => (nomatch h)
  pd := h.pd
theorem BF.closed {A : List Mv} {S E U L : List Str} {pr : Str → Option Mv} {i : Nat} {pp : List Mv} (h : BF A S E U L pr i pp) (hi : L.length ≤ i) : Closed A S E := by
  refine ⟨L, h.SL, fun e he hl => ?_, fun m hm ht => ?_⟩
  · obtain ⟨j, ej⟩ := List.mem_iff_getElem?.mp hl
    have hj := (List.getElem?_eq_some_iff.mp ej).1
    exact (h.done j e (by omega) ej).1 he
  · obtain ⟨j, ej⟩ := List.mem_iff_getElem?.mp ht
    have hj := (List.getElem?_eq_some_iff.mp ej).1
    exact (h.done j _ (by omega) ej).2 m hm rfl
/-! ### the dict of lists -/
def pick (k : Str) (l : List Mv) (vs : List V) : List V := ((l.zip vs).filter fun p => decide (p.1.tail = k)).map (·.2)
theorem pick_nil {k : Str} {vs : List V} : pick k [] vs = [] := rfl
theorem pick_snoc {k : Str} {l : List Mv} {vs : List V} {m : Mv} {v : V} (h : vs.length = l.length) : pick k (l ++ [m]) (vs ++ [v]) = pick k l vs ++ (if m.tail = k then [v] else []) := by
  unfold pick
  rw [List.zip_append h.symm, List.filter_append, List.map_append]
  by_cases e : m.tail = k <;> simp [e]
theorem pick_A2 {R : Mv → V → Prop} {k : Str} : ∀ {l : List Mv} {vs : List V}, A2 R l vs → A2 R (l.filter fun m => decide (m.tail = k)) (pick k l vs)
  | _, _, .nil => .nil
  | m :: l, v :: vs, .cons r t => by
    have ih := pick_A2 (k := k) t
    unfold pick at ih ⊢
    by_cases e : m.tail = k
    · simp only [List.zip_cons_cons, List.filter_cons, e, decide_true, if_true, List.map_cons]
      exact .cons r ih
    · simp only [List.zip_cons_cons, List.filter_cons, e, decide_false, Bool.false_eq_true, if_false]
      exact ih
structure LvD (H0 H : Hp) (d : Addr) (l : List Mv) (vs : List V) : Prop where
  ex : ∃ ks : List Str, ∃ r : Str → Addr, H d = some (.dK (fdV ks fun k => .ref (r k))) ∧ (∀ k ∈ ks, H (r k) = some (.lst (pick k l vs)) ∧ H0 (r k) = none) ∧ (∀ j ∈ ks, ∀ k ∈ ks, r j = r k → j = k) ∧ (∀ m ∈ l, m.tail ∈ ks) ∧ ks.length ≤ l.length ∧ vs.length = l.length
theorem LvD.same {H0 H H' : Hp} {d : Addr} {l : List Mv} {vs : List V} (s : Same H H') (h : LvD H0 H d l vs) : LvD H0 H' d l vs := by
  obtain ⟨ks, r, h1, h2, h3⟩ := h.ex
  exact ⟨ks, r, s _ _ h1, fun k hk => ⟨s _ _ (h2 k hk).1, (h2 k hk).2⟩, h3⟩
theorem pick_none {k : Str} {l : List Mv} {vs : List V} (h : ∀ m ∈ l, m.tail ≠ k) : pick k l vs = [] := by
  unfold pick
  rw [List.map_eq_nil_iff, List.filter_eq_nil_iff]
  intro p hp e
  exact h p.1 (List.of_mem_zip hp).1 (of_decide_eq_true e)
theorem up_ref {r : Str → Addr} {k : Str} {p : Addr} : up (fun j => V.ref (r j)) k (.ref p) = fun j => .ref (up r k p j) := by
  funext j
  unfold up
  split <;> rfl
theorem lvd_old {H0 H : Hp} {D : Addr} {l : List Mv} {vs : List V} {ks : List Str} {r : Str → Addr} {m : Mv} {v : V} (h1 : H D = some (.dK (fdV ks fun k => .ref (r k)))) (h2 : ∀ k ∈ ks, H (r k) = some (.lst (pick k l vs)) ∧ H0 (r k) = none) (h3 : ∀ j ∈ ks, ∀ k ∈ ks, r j = r k → j = k)
    (h4 : ∀ m ∈ l, m.tail ∈ ks) (h5 : ks.length ≤ l.length) (h6 : vs.length = l.length) (hk : m.tail ∈ ks) : LvD H0 (upd H (r m.tail) (.lst (pick m.tail l vs ++ [v]))) D (l ++ [m]) (vs ++ [v]) := by
  refine ⟨ks, r, ?_, fun k hk2 => ⟨?_, (h2 k hk2).2⟩, h3, fun x hx => ?_, ?_, ?_⟩
  · rw [upd_ne (ne_at h1 (h2 _ hk).1 (fun e => by cases e))]
    exact h1
  · rw [pick_snoc h6]
    by_cases e : m.tail = k
    · subst e
      rw [upd_same, if_pos rfl]
    · rw [upd_ne (fun z => e (h3 _ hk2 _ hk z).symm), if_neg e, List.append_nil]
      exact (h2 k hk2).1
  · rcases List.mem_append.mp hx with z | z
    · exact h4 x z
    · rw [List.mem_singleton.mp z]
      exact hk
  · rw [List.length_append]
    omega
  · rw [List.length_append, List.length_append, h6]
    rfl
theorem lvd_new {H0 H' H : Hp} {D p : Addr} {l : List Mv} {vs : List V} {ks : List Str} {r : Str → Addr} {m : Mv} {v : V} (s : Same H' H) (np : H' p = none) (n0 : H0 p = none) (h1 : H' D = some (.dK (fdV ks fun k => .ref (r k)))) (h2 : ∀ k ∈ ks, H' (r k) = some (.lst (pick k l vs)) ∧ H0 (r k) = none) (h3 : ∀ j ∈ ks, ∀ k ∈ ks, r j = r k → j = k)
    (h4 : ∀ m ∈ l, m.tail ∈ ks) (h5 : ks.length ≤ l.length) (h6 : vs.length = l.length) (hk : m.tail ∉ ks) : LvD H0 (upd (upd H D (.dK (fdV (ks ++ [m.tail]) (up (fun k => V.ref (r k)) m.tail (V.ref p))))) p (.lst ([] ++ [v]))) D (l ++ [m]) (vs ++ [v]) := by
  have hp : ∀ k ∈ ks, r k ≠ p := fun k hk2 => ne_of_none (h2 k hk2).1 np
  have ne : ∀ k ∈ ks, k ≠ m.tail := fun k hk2 e => hk (e ▸ hk2)
  refine ⟨ks ++ [m.tail], up r m.tail p, ?_, fun k hk2 => ?_, fun j hj k hk2 e => ?_, fun x hx => ?_, ?_, ?_⟩
  · rw [upd_ne (ne_of_none h1 np), upd_same, up_ref]
  · rcases List.mem_append.mp hk2 with z | z
    · rw [up_ne (ne k z), upd_ne (hp k z), upd_ne (ne_at (h2 k z).1 h1 (fun e => by cases e)), pick_snoc h6, if_neg fun e => ne k z e.symm, List.append_nil]
      exact ⟨s _ _ (h2 k z).1, (h2 k z).2⟩
    · rw [List.mem_singleton.mp z, up_same, upd_same, pick_snoc h6, if_pos rfl, pick_none fun x hx e => hk (by
        rw [← e]
        exact h4 x hx)]
      exact ⟨rfl, n0⟩
  · rcases List.mem_append.mp hj with z | z <;> rcases List.mem_append.mp hk2 with y | y
    · rw [up_ne (ne j z), up_ne (ne k y)] at e
      exact h3 j z k y e
    · rw [up_ne (ne j z), List.mem_singleton.mp y, up_same] at e
      exact absurd e (hp j z)
    · rw [up_ne (ne k y), List.mem_singleton.mp z, up_same] at e
      exact absurd e.symm (hp k y)
    · rw [List.mem_singleton.mp z, List.mem_singleton.mp y]
  · rcases List.mem_append.mp hx with z | z
    · exact List.mem_append_left _ (h4 x z)
    · rw [List.mem_singleton.mp z]
      exact List.mem_append_right _ (List.mem_singleton.mpr rfl)
  · rw [List.length_append, List.length_append]
    exact Nat.add_le_add_right h5 1
  · rw [List.length_append, List.length_append, h6]
    rfl
theorem pick_len {k : Str} {l : List Mv} {vs : List V} (h : vs.length = l.length) : (pick k l vs).length ≤ l.length := by
  unfold pick
  rw [List.length_map]
  refine Nat.le_trans (List.length_filter_le _ _) ?_
  rw [List.length_zip, h]
  omega
theorem optD_put {H : Hp} {B W t : Addr} {L : List Str} {pr : Str → Option Mv} {r : Str → V} {k : Str} {m : Mv} {ys zs : List V} (hB : H B = some (.dK (fdV L r))) (hW : H W = some (.lst ys)) (hr : ∀ k ∈ L, (pr k = none → r k = .non) ∧ ∀ x, pr k = some x → TupR (arcV x) (r k) H) (hk : k ∉ L) (ht : H t = some (.tup (arcV m))) (n : B ≠ W) :
    OptD arcV (upd (upd H B (.dK (fdV (L ++ [k]) (up r k (.ref t))))) W (.lst zs)) B (L ++ [k]) (up pr k (some m)) := by
  have tp : ∀ {x v}, TupR (arcV x) v H → TupR (arcV x) v (upd (upd H B (.dK (fdV (L ++ [k]) (up r k (.ref t))))) W (.lst zs)) := fun ⟨q, e, h⟩ => ⟨q, e, by
    rw [upd_ne (ne_at h hW (fun e => by cases e)), upd_ne (ne_at h hB (fun e => by cases e))]
    exact h⟩
  refine ⟨up r k (.ref t), by rw [upd_ne n, upd_same], fun j hj => ?_⟩
  rcases List.mem_append.mp hj with z | z
  · have ne : j ≠ k := fun e => hk (e ▸ z)
    rw [up_ne ne, up_ne ne]
    exact ⟨(hr j z).1, fun x e => tp ((hr j z).2 x e)⟩
  · rw [List.mem_singleton.mp z, up_same, up_same]
    refine ⟨fun e => (nomatch e), fun x e => ?_⟩
    rw [← Option.some.inj e]
    exact tp ⟨t, rfl, ht⟩
def sp_way_between (K : PySem.W.Frag) : Sp := fun vs H Q _ => ∃ a b c A S Es, ∃ U : List Str, vs = [.ref a, .ref b, .ref c] ∧ LT arcV H a A ∧ StL H b S ∧ StL H c Es ∧ S.Nodup ∧ (∀ s ∈ S, s ∈ U) ∧ (∀ m ∈ A, m.head ∈ U) ∧ U.length ≤ 100 ∧ A.length ≤ 100 ∧
  (∀ H', Same H H' → Closed A S Es → Q .non H') ∧ ∀ H' d way s e, Same H H' → H d = none → LT arcV H' d way → s ∈ S → e ∈ Es → Way A s e way → Q (.ref d) H'
theorem sc_way_between : FnScope ["arcs", "starts", "ends", "leaving", "arc", "before", "waiting", "at", "place"] ["arcs", "starts", "ends"] (defScope s_way_between) := ⟨rfl, rfl, rfl, by decide +kernel, rfl, by decide +kernel, by decide +kernel⟩
theorem ok_way_between (T : Tx K mg) : Has P w K mg base CX0 2 (A_way_between K) ["arcs", "starts", "ends"] [] (sp_way_between K) := by
  obtain ⟨fd, F⟩ := T.F_way_between
  refine ⟨fd, [], F.ok sc_way_between (fun vs H Q E h => by
    obtain ⟨_, _, _, _, _, _, _, rfl, _⟩ := h
    rfl) (fun cdv A outer s H vs Q E hr h => ?_), F.bindsN (fun _ _ _ _ _ _ us hl => match us, hl with | [_, _, _], _ => rfl), .nil, F.kp⟩
  obtain ⟨a, b, c, As, S, Es, U, rfl, ha, hb, hcc, hS, hSU, hAU, hU, hA, qn, q⟩ := h
  obtain ⟨vs, ha1, ha2⟩ := ha.ex
  have hSl := nodup_le hS hSU
  have hvl := ha2.length
  refine ⟨_, (pss_cons (ps_set (i := 3) sc_way_between.nd rfl (Or.inl rfl) (pe_dnewK))
      (pss_cons (psFor (passes_of rfl) rfl (pi_list (pv 0)) (pg_name (i := 4) sc_way_between.nd rfl (Or.inl rfl))
      (pss_one (ps_expr (pe_bm PySem.F.plainAttrs_list PySem.F.slot_list_append PySem.F.type_list_append mt_append (pe_dsetd (pv 3) (pe_ix ixT (pv 4) (pe_int) (fun _ _ => rfl)) (pe_lst pa_nil) ⟨rfl, rfl, rfl, rfl⟩) (pa_cons (pv 4) pa_nil)))))
      (pss_cons (ps_setDc (i := 5) (own := [("place", 8)]) (g := (gName 8)) rfl sc_way_between.nd rfl rfl (sw_dict rfl rfl rfl (by decide +kernel)) (pi_list (pv 1)) (blkOk_by (own := [("place", 8)]) (N := ["arcs", "starts", "ends", "leaving", "arc", "before", "waiting", "at", "place"]) (sc := defScope s_way_between) (by decide +kernel)) (fun _ _ _ _ _ => (pg_name (i := 8) sc_way_between.nd rfl (Or.inl rfl))) (fun _ _ _ _ _ => pts_nil) (fun _ _ _ _ _ => (pv 8)) (fun _ _ _ _ _ => (pe_non)))
      (pss_cons (ps_set (i := 6) sc_way_between.nd rfl (Or.inl rfl) (pe_callTy listL (by rfl) T.b_list (by decide +kernel) (pa_cons (pv 1) pa_nil)))
      (pss_cons (ps_set (i := 7) sc_way_between.nd rfl (Or.inl rfl) (pe_int))
      (pss_cons (psWhl (passes_of rfl) (pt_cmpR op_lt (pv 7) (pe_callB lenL (by rfl) T.b_len (by decide +kernel) (pa_cons (pv 6) pa_nil)) (nomark _))
      (pss_cons (ps_if (pt_cmpR op_inSt (pe_ix ixL (pv 6) (pv 7) (fun _ _ => rfl)) (pv 2) (by rfl))
      (pss_one (ps_ret (hc (ok_p_way_back (K := K) T) (hr.mono (by decide)) T.g_p_way_back pass0 (pa_cons (pv 5) (pa_cons (pe_ix ixL (pv 6) (pv 7) (fun _ _ => rfl)) pa_nil)))))
      pss_nil)
      (pss_cons (psFor (passes_of rfl) rfl (pi_list (pe_dget2 (hu_of hr) (pv 3) (pe_ix ixL (pv 6) (pv 7) (fun _ _ => rfl)) (pe_lst pa_nil) ⟨rfl, rfl, rfl, rfl⟩)) (pg_name (i := 4) sc_way_between.nd rfl (Or.inl rfl))
      (pss_one (ps_if (pt_cmp (pc_dnotin (hu_of hr) (pe_ix ixT (pv 4) (pe_int) (fun _ _ => rfl)) (pv 5)))
      (pss_cons (ps_dput (hu_of hr) (pv 5) (pe_ix ixT (pv 4) (pe_int) (fun _ _ => rfl)) (pv 4) rfl)
      (pss_one (ps_expr (pe_bm PySem.F.plainAttrs_list PySem.F.slot_list_append PySem.F.type_list_append mt_append (pv 6) (pa_cons (pe_ix ixT (pv 4) (pe_int) (fun _ _ => rfl)) pa_nil)))))
      pss_nil)))
      (pss_one (ps_aug (i := 7) sc_way_between.nd rfl (Or.inl rfl) (pe_int) ip_add)))))
      (pss_one (ps_ret (pe_non))))))))), ?_⟩
  walk_at "g"
  intro D n_D; generalize hG : upd H D _ = H1; have s_H1 : Same H H1 := nw_same n_D hG; have e_D := nw_at hG; clear hG
  walk_at "g"
  refine ⟨forG (wk_listV (vs := vs)) (fun i σ H' => ∃ y4 y5 y6 y7 y8, σ = [some (.ref a), some (.ref b), some (.ref c), some (.ref D), y4, y5, y6, y7, y8] ∧ Same H H' ∧ LvD H H' D (As.take i) (vs.take i)) ⟨none, none, none, none, none, rfl, s_H1, ⟨[], fun _ => 0, e_D, fun k hk => (nomatch hk), fun k hk => (nomatch hk), fun m hm => (nomatch hm), Nat.le_refl _, rfl⟩⟩ (fun i σ H' _ h => ?_) (fun i v' v σ H' H'' ex h s5 hv => ?_) (fun σ H' h => ?_)⟩
  · obtain ⟨y4, y5, y6, y7, y8, rfl, t1, t2⟩ := h
    exact lstOf (t1 _ _ ha1)
  · obtain ⟨y4, y5, y6, y7, y8, rfl, t1, t2⟩ := h
    subst hv
    obtain ⟨m, exm, t, rfl, ht0⟩ := ha2.getr ex
    have ht : H'' t = some (.tup (arcV m)) := s5 _ _ (t1 _ _ ht0)
    obtain ⟨ks, r, h1, h2, h3, h4, h5, h6⟩ := t2.ex
    have h1' := s5 _ _ h1
    have hi : i < As.length := (List.getElem?_eq_some_iff.mp exm).1
    have htl : (As.take i).length = i := by
      rw [List.length_take]
      omega
    have hI : IsD H'' D := .inl ⟨_, .inl h1'⟩
    have u1 : Same H H'' := t1.trans s5
    walk_at "g"
    intro p n_p; generalize hG : upd H'' p _ = H2; have s_H2 : Same H'' H2 := nw_same n_p hG; have e_p := nw_at hG; clear hG
    refine ⟨_, kS m.tail, s_H2 _ _ h1', rfl, small1000 (by rw [fd_len]; omega), fun v hv => ?_, fun hn => ?_⟩
    · by_cases hk : m.tail ∈ ks
      · rw [fd_get (g := fun k => V.ref (r k)) hk] at hv
        have := Option.some.inj hv
        subst this
        have hr := s_H2 _ _ (s5 _ _ (h2 _ hk).1)
        have hpl : (pick m.tail (As.take i) (vs.take i)).length ≤ 1000 := Nat.le_trans (pick_len h6) (by omega)
        have nr := (h2 _ hk).2
        walk_at "g"
        rw [take_snoc exm, take_snoc ex]
        exact lvd_old (s_H2 _ _ h1') (fun k hk => ⟨s_H2 _ _ (s5 _ _ (h2 k hk).1), (h2 k hk).2⟩) h3 h4 h5 h6 hk
      · rw [fd_none hk] at hv
        cases hv
    · by_cases hk : m.tail ∈ ks
      · rw [fd_get (g := fun k => V.ref (r k)) hk] at hn
        cases hn
      · rw [fd_new hk]
        have e_p2 : ∀ o, upd H2 D o p = some (.lst []) := fun o => at_upd (ne_at e_p (s_H2 _ _ h1') (fun e => by cases e)) e_p
        have hpD : p ≠ D := ne_at e_p (s_H2 _ _ h1') (fun e => by cases e)
        have e_p3 := e_p2 (.dK (fdV (ks ++ [m.tail]) (up (fun k => V.ref (r k)) m.tail (V.ref p))))
        have nHp : H p = none := u1.free n_p
        have nHD : H D = none := n_D
        have sm2 : Same H H2 := u1.trans s_H2
        walk_at "g"
        rw [take_snoc exm, take_snoc ex]
        exact lvd_new s_H2 n_p nHp h1' (fun k hk => ⟨s5 _ _ (h2 k hk).1, (h2 k hk).2⟩) h3 h4 h5 h6 hk
  · obtain ⟨y4, y5, y6, y7, y8, rfl, t1, t2⟩ := h
    rw [List.take_length, hvl, List.take_length] at t2
    generalize hHs : H' = Hs at *
    have n_D' := n_D
    obtain ⟨ks, r, g1, g2, g3, g4, g5, g6⟩ := t2.ex
    have hDI : ∀ H3, Same Hs H3 → IsD H3 D := fun H3 s => .inl ⟨_, .inl (s _ _ g1)⟩
    have hb' : StL Hs b S := t1 _ _ hb
    have hc' : StL Hs c Es := t1 _ _ hcc
    walk_at "g"
    intro B hB
    refine dcV (wk_listM (ys := S) (m := V.str)) kS (fun _ => V.non) (nodup_kS hS) hB (lstOf hb') (by omega) (fun i x v H' Ky Kn ex s _ hv ky => ?_) (fun H1 s1 e1 => ?_)
    · subst hv
      walk_at "g"
      exact ky _ (Same.refl _)
    walk_at "g"
    intro W n_W; generalize hG : upd H1 W _ = H2; have s_H2 : Same H1 H2 := nw_same n_W hG; have e_W := nw_at hG; clear hG
    have nW : Hs W = none := s1.free n_W
    have hBW : B ≠ W := ne_of_none e1 n_W
    have hWB : W ≠ B := hBW.symm
    walk_at "g"
    refine ⟨whileG (fun m σ H' => Hold (∃ y4 y8, ∃ L : List Str, ∃ pr : Str → Option Mv, ∃ i : Nat, σ = [some (.ref a), some (.ref b), some (.ref c), some (.ref D), y4, some (.ref B), some (.ref W), some (.int i), y8] ∧ Same Hs H' ∧ OptD arcV H' B L pr ∧ H' W = some (.lst (L.map V.str)) ∧ BF As S Es U L pr i [] ∧ m = U.length - i)) _
      ⟨y4, y8, S, fun _ => none, 0, rfl, s1.trans s_H2, ⟨fun _ => .non, s_H2 _ _ e1, fun k hk => ⟨fun _ => rfl, fun x e => (nomatch e)⟩⟩, e_W, BF.start hS hSU (by omega), rfl⟩ (fun m σ H' h => ?_)⟩
    obtain ⟨y4, y8, L, pr, i, rfl, t3, t4, t5, t6, rfl⟩ := h.go
    have hLU := nodup_le t6.nd t6.inU
    obtain ⟨pr', hB1, hB2⟩ := t4.ex
    obtain ⟨ρ, hPd, _⟩ := t6.pd
    have hcE : StL H' c Es := t3 _ _ hc'
    walk_at "g"
    rw [List.length_map]
    by_cases hi : i < L.length
    · refine iteD (by omega) ?_
      obtain ⟨x, hx⟩ : ∃ x, L[i]? = some x := ⟨_, List.getElem?_eq_getElem hi⟩
      have hxL := List.mem_of_getElem? hx
      have hat : atI (L.map V.str) (i : Int) = some (.str x) := atI_nat (by
        rw [List.getElem?_map, hx]
        rfl)
      walk_at "g"
      refine ite_d (fun e1 => ?_) (fun e1 => ?_)
      · walk_at "g"
        intro H3 d way z s3 nd hd hz _ _ hw
        exact q H3 d way z x (t1.trans (t3.trans s3)) ((t1.trans t3).free nd) hd hz e1 hw
      · have hI := hDI H' t3
        walk_at "g"
        intro p n_p; generalize hG : upd H' p _ = H3; have s_H3 : Same H' H3 := nw_same n_p hG; have e_p := nw_at hG; clear hG
        obtain ⟨o, la, go, gla, hla, nW2, nB2⟩ : ∃ o la, DGet H3 D (.str x) o ∧ o.getD (.ref p) = .ref la ∧ H3 la = some (.lst (pick x As vs)) ∧ la ≠ W ∧ la ≠ B := by
          have gD : Rd H3 D (.dK (fdV ks fun k => .ref (r k))) := .inl (s_H3 _ _ (t3 _ _ g1))
          by_cases hk : x ∈ ks
          · exact ⟨_, r x, dget_fd gD hk, rfl, s_H3 _ _ (t3 _ _ (g2 x hk).1), ne_of_none (g2 x hk).1 nW, ne_of_none (g2 x hk).1 hB⟩
          · exact ⟨none, p, dget_fd0 gD hk, rfl, by
              rw [e_p, pick_none fun m hm e => hk (by
                rw [← e]
                exact g4 m hm)], (ne_of_none t5 n_p).symm, (ne_of_none hB1 n_p).symm⟩
        refine ⟨o, go, ?_⟩
        rw [gla]
        have hA2 : A2 (fun m v => TupR (arcV m) v H3) (As.filter fun m => decide (m.tail = x)) (pick x As vs) := pick_A2 ((ha2.imp fun m v r => r.same t1).imp fun m v r => (r.same t3).same s_H3)
        walk_at "g"
        refine ⟨forG (LT.wk (m := arcV) (vs := pick x As vs) (xs := As.filter fun m => decide (m.tail = x))) (fun j σ H4 => Hold (∃ y4, ∃ L : List Str, ∃ pr : Str → Option Mv, σ = [some (.ref a), some (.ref b), some (.ref c), some (.ref D), y4, some (.ref B), some (.ref W), some (.int i), y8] ∧ Same Hs H4 ∧ OptD arcV H4 B L pr ∧ H4 W = some (.lst (L.map V.str)) ∧
          BF As S Es U L pr i ((As.filter fun m => decide (m.tail = x)).take j) ∧ L[i]? = some x ∧ H4 la = some (.lst (pick x As vs)) ∧ A2 (fun m v => TupR (arcV m) v H4) (As.filter fun m => decide (m.tail = x)) (pick x As vs)))
          ⟨y4, L, pr, rfl, t3.trans s_H3, ?_, s_H3 _ _ t5, t6, hx, hla, hA2⟩ (fun j σ H4 _ h => ?_) (fun j m v σ H4 H5 ex h s5 hv => ?_) (fun σ H4 h => ?_)⟩
        · exact ⟨pr', s_H3 _ _ hB1, fun k hk => ⟨(hB2 k hk).1, fun x e => ((hB2 k hk).2 x e).same s_H3⟩⟩
        · obtain ⟨y4, L, pr, rfl, v1, v2, v3, v4, v5, v6, v7⟩ := h.go
          exact ⟨lstOf v6, v7⟩
        · obtain ⟨y4, L, pr, rfl, v1, v2, v3, v4, v5, v6, v7⟩ := h.go
          obtain ⟨t, rfl, ht⟩ := hv
          have hm := List.mem_of_getElem? ex
          obtain ⟨hmA, hmt⟩ := List.mem_filter.mp hm
          have hmt := of_decide_eq_true hmt
          obtain ⟨rr, hB1, hB2⟩ := v2.ex
          have w3 := s5 _ _ v3
          have w6 := s5 _ _ v6
          have w1 : Same Hs H5 := v1.trans s5
          have wB := s5 _ _ hB1
          have hLU := nodup_le v4.nd v4.inU
          by_cases hk : m.head ∈ L
          · have gg : DGet H5 B (.str m.head) (some (rr m.head)) := dget_fd (.inl wB) hk
            walk_at "g"
            refine ⟨_, L, pr, rfl, w1, ⟨rr, wB, fun k hk => ⟨(hB2 k hk).1, fun x e => ((hB2 k hk).2 x e).same s5⟩⟩, w3, ?_, v5, w6, v7.imp fun m v => TupR.same s5⟩
            rw [take_snoc ex]
            exact v4.skip hk
          · have gg : DGet H5 B (.str m.head) none := dget_fd0 (.inl wB) hk
            have gp : DPut H5 B (.str m.head) (.ref t) (upd H5 B (.dK (fdV (L ++ [m.head]) (up rr m.head (.ref t))))) := dput_new wB hk (by omega)
            have htB : t ≠ B := ne_at ht wB (fun e => by cases e)
            have hLl : (L.map V.str).length ≤ 1000 := by
              rw [List.length_map]
              omega
            walk_at "g"
            have hiL := (List.getElem?_eq_some_iff.mp v5).1
            refine ⟨_, L ++ [m.head], up pr m.head (some m), rfl, same_put (same_put w1 hB) nW, optD_put wB w3 (fun k hk => ⟨(hB2 k hk).1, fun x e => ((hB2 k hk).2 x e).same s5⟩) hk ht hBW, ?_, ?_, ?_, ?_, ?_⟩
            · rw [upd_same, List.map_append]
              rfl
            · rw [take_snoc ex]
              exact v4.add hmA (hmt ▸ List.mem_of_getElem? v5) hk (hAU m hmA) hU
            · rw [List.getElem?_append_left hiL]
              exact v5
            · rw [upd_ne nW2, upd_ne nB2]
              exact w6
            · refine v7.imp fun m v r => ?_
              obtain ⟨q, e, h⟩ := r.same s5
              refine ⟨q, e, ?_⟩
              rw [upd_ne (ne_at h w3 (fun e => by cases e)), upd_ne (ne_at h wB (fun e => by cases e))]
              exact h
        · obtain ⟨y4, L, pr, rfl, v1, v2, v3, v4, v5, v6, v7⟩ := h.go
          rw [List.take_length] at v4
          have hLU := nodup_le v4.nd v4.inU
          have hiL := (List.getElem?_eq_some_iff.mp v5).1
          walk_at "g"
          exact Dec.of (U.length - (i + 1)) (by omega) ⟨_, _, L, pr, i + 1, rfl, v1, v2, v3, v4.next v5 e1, rfl⟩
    · refine iteN (by omega) ?_
      walk_at "g"
      exact qn H' (t1.trans t3) (t6.closed (by omega))
end
end M
end
-- part W9
section
set_option Elab.async false
set_option linter.all false
set_option maxRecDepth 100000
set_option maxHeartbeats 4000000
namespace M
open PySem PySem.Spec PyProof.Rows L2
local macro_rules | `(tactic| walk_at "e") => `(tactic| (first
  | exact rfl
  | assumption
  | exact upd_same
  | exact flat_strs
  | exact fd_keys
  | ((with_reducible apply same_at); assumption; walk_at "f")
  | ((with_reducible apply at_upd); assumption; walk_at "f")
  | omega))
local macro_rules | `(tactic| walk_at "n") => `(tactic| (first
  | assumption
  | omega
  | exact Nat.le_of_lt (small1000 (by first | assumption | omega))
  | exact (Nat.zero_le _ : 0 ≤ sizeLine)
  | exact (by decide : 1 ≤ sizeLine)
  | exact (by decide : 2 ≤ sizeLine)
  | exact (by decide : 3 ≤ sizeLine)
  | exact (by decide : 5 ≤ sizeLine)
  | exact (by decide : 6 ≤ sizeLine)
  | (show _ < 1000; exact of_decide_eq_true rfl)
  | exact len2 (by omega) (by omega)
  | exact small1000 (by first | assumption | omega)))
local macro_rules | `(tactic| walk_at "f") => `(tactic| (first
  | with_reducible assumption
  | ((with_reducible apply gEq); walk_at "e")
  | ((with_reducible apply gLe); walk_at "n")
  | ((with_reducible apply gLt); walk_at "n")
  | ((with_reducible apply gNot); (first | assumption | omega))
  | with_reducible exact Same.refl _
  | ((with_reducible apply tupOf); walk_at "f")
  | ((with_reducible apply lstOf); walk_at "f")
  | ((with_reducible apply gCls); assumption)
  | ((with_reducible apply gNoAttr); assumption)
  | ((with_reducible apply gIsPl); assumption)
  | ((with_reducible apply gStL); assumption)
  | ((with_reducible apply gIntD); assumption)
  | ((with_reducible apply gSqT); assumption)
  | ((with_reducible apply gSqL); assumption)
  | ((with_reducible apply tyV_l); walk_at "f")
  | ((with_reducible apply Rd.of); walk_at "f")
  | ((with_reducible apply dget_ne); assumption; assumption)
  | ((with_reducible apply dget_fd) <;> walk_at "f")
  | ((with_reducible apply dput_int) <;> walk_at "f")
  | ((with_reducible apply dput_fd) <;> walk_at "f")
  | ((with_reducible apply rd_upd); assumption; walk_at "f")
  | ((with_reducible apply same_put); walk_at "f"; assumption)
  | ((with_reducible apply sx_upd) <;> walk_at "f")
  | ((with_reducible refine Same.trans ?_ (by assumption)); walk_at "f")
  | ((with_reducible apply cmulLg); omega; omega)
  | ((with_reducible apply cmulRg); omega; omega)
  | ((with_reducible apply SameE.upd); walk_at "f")
  | ((with_reducible apply StL.same); assumption; walk_at "f")
  | ((with_reducible apply LT.same); assumption; walk_at "f")
  | ((with_reducible apply IsP.same); assumption; walk_at "f")
  | ((with_reducible apply IsPl.same); assumption; walk_at "f")
  | ((with_reducible apply IntD.same); assumption; walk_at "f")
  | ((with_reducible apply PrD.same); assumption; walk_at "f")
  | ((with_reducible apply Or.inl); walk_at "f")
  | ((with_reducible apply Or.inr); walk_at "f")))
local macro_rules | `(tactic| walk_at "g") => `(tactic| repeat (first
  | with_reducible apply And.intro
  | with_reducible apply Exists.intro
  | walk_at "f"
  | ((with_reducible apply iteT); assumption)
  | ((with_reducible apply iteF); assumption)
  | ((with_reducible apply iteD); (first | assumption | omega))
  | ((with_reducible apply iteN); (first | assumption | omega))
  | ((with_reducible apply iteD2); (first | assumption | omega))
  | ((with_reducible apply iteN2); (first | assumption | omega))
  | apply And.intro
  | apply Exists.intro))
section
variable {P : Program} {w : World} {K : PySem.W.Frag} {mg : Str → Option Value} {base : Heap}
def sp_Missing_init (K : PySem.W.Frag) : Sp := fun vs H Q _ => ∃ self n d a b dx kvs xs ys, vs = [.ref self, .int n, .ref d, .ref a, .ref b] ∧ H self = some (.ins (C_Missing K) dx []) ∧ H d = some (.dK kvs) ∧ H a = some (.lst xs) ∧ H b = some (.lst ys) ∧
  ∀ H' d' a' b', SameE self H H' → H d' = none → H a' = none → H' self = some (.ins (C_Missing K) dx [("number", .int n), ("flows", .ref d'), ("least", .ref a'), ("greatest", .ref b')]) → H' d' = some (.dK kvs) → H' a' = some (.lst xs) → H' b' = some (.lst ys) → Q .non H'
theorem sc_Missing_init : FnScope ["self", "number", "flows", "least", "greatest"] ["self", "number", "flows", "least", "greatest"] (defScope s_Missing_init) := ⟨rfl, rfl, rfl, by decide +kernel, rfl, by decide +kernel, by decide +kernel⟩
theorem ok_Missing_init (T : Tx K mg) : Has P w K mg base CX0 1 (A_Missing_init K) ["self", "number", "flows", "least", "greatest"] [] (sp_Missing_init K) := by
  obtain ⟨fd, F⟩ := T.F_Missing_init
  refine ⟨fd, [], F.ok sc_Missing_init (fun vs H Q E h => by
    obtain ⟨_, _, _, _, _, _, _, _, _, rfl, _⟩ := h
    rfl) (fun cdv A outer s H vs Q E hr h => ?_), F.bindsN (fun _ _ _ _ _ _ us hl => match us, hl with | [_, _, _, _, _], _ => rfl), .nil, F.kp⟩
  obtain ⟨self, n, d, a, b, dx, kvs, xs, ys, rfl, hs, hd, ha, hb, q⟩ := h
  have k1 := T.c_Missing
  have k2 := T.n_Missing_number
  have k3 := T.n_Missing_flows
  have k4 := T.n_Missing_least
  have k5 := T.n_Missing_greatest
  have n1 : d ≠ self := ne_at hd hs (fun e => by cases e)
  have n2 : a ≠ self := ne_at ha hs (fun e => by cases e)
  have n3 : b ≠ self := ne_at hb hs (fun e => by cases e)
  refine ⟨_, (pss_cons (ps_fld (pv 0) (pv 1) rfl)
      (pss_cons (ps_fld (pv 0) (pe_callTy call_dictD (by rfl) T.b_dict (by decide +kernel) (pa_cons (pv 2) pa_nil)) rfl)
      (pss_cons (ps_fld (pv 0) (pe_callTy listL (by rfl) T.b_list (by decide +kernel) (pa_cons (pv 3) pa_nil)) rfl)
      (pss_one (ps_fld (pv 0) (pe_callTy listL (by rfl) T.b_list (by decide +kernel) (pa_cons (pv 4) pa_nil)) rfl))))), ?_⟩
  walk_at "g"
  intro d' m1
  generalize hG : upd H self _ = H1 at m1 ⊢
  have t1 := ow_e SameE.refl hG
  have e1 := nw_at hG
  clear hG
  generalize hG : upd H1 d' _ = H2
  have t2 := nw_same m1 hG
  have ed := nw_at hG
  clear hG
  have e2 := t2 _ _ e1
  have ha2 := t2 _ _ (t1 _ _ n2 ha)
  walk_at "g"
  intro a' m2
  generalize hG : upd H2 self _ = H3 at m2 ⊢
  have t3 := ow_e (t1.trans (.of t2)) hG
  have e3 := nw_at hG
  have p1 : d' ≠ self := (ne_of_none e1 m1).symm
  have ed3 : H3 d' = some (.dK kvs) := by
    rw [← hG, upd_ne p1]
    exact ed
  clear hG
  generalize hG : upd H3 a' _ = H4
  have t4 := nw_same m2 hG
  have ea := nw_at hG
  clear hG
  have e4 := t4 _ _ e3
  have hb4 := t4 _ _ (t3 _ _ n3 hb)
  walk_at "g"
  intro b' m3
  generalize hG : upd H4 self _ = H5 at m3 ⊢
  have t5 := ow_e (t3.trans (.of t4)) hG
  have e5 := nw_at hG
  have p2 : a' ≠ self := (ne_of_none e3 m2).symm
  have ea5 : H5 a' = some (.lst xs) := by
    rw [← hG, upd_ne p2]
    exact ea
  have ed5 : H5 d' = some (.dK kvs) := by
    rw [← hG, upd_ne p1]
    exact t4 _ _ ed3
  clear hG
  generalize hG : upd H5 b' _ = H6
  have t6 := nw_same m3 hG
  have eb := nw_at hG
  clear hG
  have e6 := t6 _ _ e5
  walk_at "g"
  have p3 : b' ≠ self := (ne_of_none e5 m3).symm
  refine q _ d' a' b' (t5.trans (.of t6)).upd (t1.free p1 m1) (t3.free p2 m2) upd_same ?_ ?_ ?_
  · rw [upd_ne p1]
    exact t6 _ _ ed5
  · rw [upd_ne p2]
    exact t6 _ _ ea5
  · rw [upd_ne p3]
    exact eb
def sp_check_limits (K : PySem.W.Frag) : Sp := fun vs H Q _ => ∃ p pl d g, vs = [.ref p, .ref d] ∧ IsPl K H p pl ∧ PV pl ∧ H d = some (.dK (fdV pl.names g)) ∧ ∀ H', Same H H' → Q .non H'
theorem sc_check_limits : FnScope ["plant", "limits", "name"] ["plant", "limits"] (defScope s_check_limits) := ⟨rfl, rfl, rfl, by decide +kernel, rfl, by decide +kernel, by decide +kernel⟩
theorem ok_check_limits (T : Tx K mg) : Has P w K mg base CX0 4 (A_check_limits K) ["plant", "limits"] [] (sp_check_limits K) := by
  obtain ⟨fd, F⟩ := T.F_check_limits
  refine ⟨fd, [], F.ok sc_check_limits (fun vs H Q E h => by
    obtain ⟨_, _, _, _, rfl, _⟩ := h
    rfl) (fun cdv A outer s H vs Q E hr h => ?_), F.bindsN (fun _ _ _ _ _ _ us hl => match us, hl with | [_, _], _ => rfl), .nil, F.kp⟩
  obtain ⟨p, pl, d, g, rfl, hP, hpv, hd, q⟩ := h
  obtain ⟨kl, sl, dx, hO⟩ := hP.ex
  have hob := hO.ob
  have hkl := hpv.kl
  have hsl := hpv.sl
  have hln := hpv.ln
  refine ⟨_, (pss_one (ps_expr (hc (ok_lacks (K := K) T) (hr.mono (by decide)) T.g_lacks pass0 (pa_cons (pv 0) (pa_cons (peLockN 1 (pe_dc (own := [("name", 2)]) (g := (gName 2)) rfl sc_check_limits.nd (piKeys (pv 1)) (blkOk_by (own := [("name", 2)]) (N := ["plant", "limits", "name"]) (sc := defScope s_check_limits) (by decide +kernel)) (fun _ _ _ _ _ => (pg_name (i := 2) sc_check_limits.nd rfl (Or.inl rfl))) (fun _ _ _ _ _ => pts_nil) (fun _ _ _ _ _ => (pv 2)) (fun _ _ _ _ _ => (pe_int)))) pa_nil))))), ?_⟩
  walk_at "g"
  intro od
  generalize hG : upd H d _ = H0
  have hkeep : ∀ {b o}, H b = some o → (∀ ys, o ≠ .dK ys) → H0 b = some o := fun h n => by
    rw [← hG]
    exact lock_ne hd h (n _)
  have e0 := nw_at hG
  have s0 : ∀ {H'}, Same H0 H' → Same H (upd H' d (.dK (fdV pl.names g))) := fun s => same_unlock hd (hG ▸ s)
  clear hG
  walk_at "g"
  intro D hD
  refine dcV wk_keys (fun kv => kv.1) (fun _ => V.int 0) (by
    rw [fd_keys]
    exact nodup_kS hpv.nn) hD e0 (by rw [fd_len]; omega) (fun i x v H' Ky Kn ex s _ hv ky => ?_) (fun H1 s1 e1 => ?_)
  · subst hv
    walk_at "g"
    exact ky _ (Same.refl _)
  · have e2 : H1 D = some (.dK (fdV pl.names fun _ => .int 0)) := by
      rw [e1]
      unfold fdV
      rw [List.map_map]
      rfl
    have f1 := s1 _ _ e0
    have hDd : D ≠ d := (ne_of_none e0 hD).symm
    have sm := s0 s1
    have e3 : IntD (upd H1 d (.dK (fdV pl.names g))) D pl.names (fun _ => 0) := at_upd hDd e2
    refine ⟨f1, ?_⟩
    walk_at "g"
    intro H2 a s2 _ _
    exact q _ (sm.trans s2)
end
end M
end
-- part W10
section
set_option Elab.async false
set_option linter.all false
set_option maxRecDepth 100000
set_option maxHeartbeats 4000000
namespace M
open PySem PySem.Spec PyProof.Rows L2
local macro_rules | `(tactic| walk_at "e") => `(tactic| (first
  | exact rfl
  | assumption
  | exact upd_same
  | exact flat_strs
  | exact fd_keys
  | ((with_reducible apply same_at); assumption; walk_at "f")
  | ((with_reducible apply at_upd); assumption; walk_at "f")
  | omega))
local macro_rules | `(tactic| walk_at "n") => `(tactic| (first
  | assumption
  | omega
  | exact Nat.le_of_lt (small1000 (by first | assumption | omega))
  | exact (Nat.zero_le _ : 0 ≤ sizeLine)
  | exact (by decide : 1 ≤ sizeLine)
  | exact (by decide : 2 ≤ sizeLine)
  | exact (by decide : 3 ≤ sizeLine)
  | exact (by decide : 5 ≤ sizeLine)
  | exact (by decide : 6 ≤ sizeLine)
  | (show _ < 1000; exact of_decide_eq_true rfl)
  | exact len2 (by omega) (by omega)
  | exact small1000 (by first | assumption | omega)))
local macro_rules | `(tactic| walk_at "f") => `(tactic| (first
  | with_reducible assumption
  | ((with_reducible apply gEq); walk_at "e")
  | ((with_reducible apply gLe); walk_at "n")
  | ((with_reducible apply gLt); walk_at "n")
  | ((with_reducible apply gNot); (first | assumption | omega))
  | with_reducible exact Same.refl _
  | ((with_reducible apply tupOf); walk_at "f")
  | ((with_reducible apply lstOf); walk_at "f")
  | ((with_reducible apply gCls); assumption)
  | ((with_reducible apply gNoAttr); assumption)
  | ((with_reducible apply gIsPl); assumption)
  | ((with_reducible apply gStL); assumption)
  | ((with_reducible apply gIntD); assumption)
  | ((with_reducible apply gSqT); assumption)
  | ((with_reducible apply gSqL); assumption)
  | ((with_reducible apply tyV_l); walk_at "f")
  | ((with_reducible apply Rd.of); walk_at "f")
  | ((with_reducible apply dget_ne); assumption; assumption)
  | ((with_reducible apply dget_fd) <;> walk_at "f")
  | ((with_reducible apply dput_int) <;> walk_at "f")
  | ((with_reducible apply dput_fd) <;> walk_at "f")
  | ((with_reducible apply rd_upd); assumption; walk_at "f")
  | ((with_reducible apply same_put); walk_at "f"; assumption)
  | ((with_reducible apply sx_upd) <;> walk_at "f")
  | ((with_reducible refine Same.trans ?_ (by assumption)); walk_at "f")
  | ((with_reducible apply cmulLg); omega; omega)
  | ((with_reducible apply cmulRg); omega; omega)
  | ((with_reducible apply SameE.upd); walk_at "f")
  | ((with_reducible apply StL.same); assumption; walk_at "f")
  | ((with_reducible apply LT.same); assumption; walk_at "f")
  | ((with_reducible apply IsP.same); assumption; walk_at "f")
  | ((with_reducible apply IsPl.same); assumption; walk_at "f")
  | ((with_reducible apply IntD.same); assumption; walk_at "f")
  | ((with_reducible apply PrD.same); assumption; walk_at "f")
  | ((with_reducible apply Or.inl); walk_at "f")
  | ((with_reducible apply Or.inr); walk_at "f")))
local macro_rules | `(tactic| walk_at "g") => `(tactic| repeat (first
  | with_reducible apply And.intro
  | with_reducible apply Exists.intro
  | walk_at "f"
  | ((with_reducible apply iteT); assumption)
  | ((with_reducible apply iteF); assumption)
  | ((with_reducible apply iteD); (first | assumption | omega))
  | ((with_reducible apply iteN); (first | assumption | omega))
  | ((with_reducible apply iteD2); (first | assumption | omega))
  | ((with_reducible apply iteN2); (first | assumption | omega))
  | apply And.intro
  | apply Exists.intro))
section
variable {P : Program} {w : World} {K : PySem.W.Frag} {mg : Str → Option Value} {base : Heap}
def sp_crossed (K : PySem.W.Frag) : Sp := fun vs H Q _ => ∃ p pl d lim, vs = [.ref p, .ref d] ∧ IsPl K H p pl ∧ PV pl ∧ PrD H d pl.names lim ∧
  (∀ H', Same H H' → (∀ n ∈ pl.names, (lim n).1 ≤ (lim n).2) → Q .non H') ∧ ∀ H' n, Same H H' → n ∈ pl.names → (lim n).2 < (lim n).1 → Q (.str n) H'
theorem sc_crossed : FnScope ["plant", "limits", "name"] ["plant", "limits"] (defScope s_crossed) := ⟨rfl, rfl, rfl, by decide +kernel, rfl, by decide +kernel, by decide +kernel⟩
theorem ok_crossed (T : Tx K mg) : Has P w K mg base CX0 5 (A_crossed K) ["plant", "limits"] [] (sp_crossed K) := by
  obtain ⟨fd, F⟩ := T.F_crossed
  refine ⟨fd, [], F.ok sc_crossed (fun vs H Q E h => by
    obtain ⟨_, _, _, _, rfl, _⟩ := h
    rfl) (fun cdv A outer s H vs Q E hr h => ?_), F.bindsN (fun _ _ _ _ _ _ us hl => match us, hl with | [_, _], _ => rfl), .nil, F.kp⟩
  obtain ⟨p, pl, d, lim, rfl, hP, hpv, hd, qn, q⟩ := h
  obtain ⟨kl, sl, dx, hO⟩ := hP.ex
  have hob := hO.ob
  have hkl := hpv.kl
  have hsl := hpv.sl
  have hln := hpv.ln
  obtain ⟨r, hd1, hd2⟩ := hd.ex
  refine ⟨_, (pss_cons (ps_expr (hc (ok_check_limits (K := K) T) (hr.mono (by decide)) T.g_check_limits pass0 (pa_cons (pv 0) (pa_cons (pv 1) pa_nil))))
      (pss_cons (psFor (passes_of rfl) rfl (pi_list (hmeth0 (ok_Plant_stream_names (K := K) T) (hr.mono (by decide)) T.c_Plant T.m_Plant_stream_names pass0 (pv 0))) (pg_name (i := 2) sc_crossed.nd rfl (Or.inl rfl))
      (pss_one (ps_if (pt_cmpR op_gt (pe_ix ixT (pe_dget (hu_of hr) (pv 1) (pv 2) (fun _ _ => rfl)) (pe_int) (fun _ _ => rfl)) (pe_ix ixT (pe_dget (hu_of hr) (pv 1) (pv 2) (fun _ _ => rfl)) (pe_int) (fun _ _ => rfl)) (nomark _))
      (pss_one (ps_ret (pv 2)))
      pss_nil)))
      (pss_one (ps_ret (pe_non))))), ?_⟩
  walk_at "g"
  intro H1 s1
  walk_at "g"
  intro H2 a s2 na ea
  walk_at "g"
  refine ⟨forG (wk_listM (ys := pl.names) (m := V.str)) (fun i σ H' => ∃ y, σ = [some (.ref p), some (.ref d), y] ∧ Same H2 H' ∧ ∀ j n, j < i → pl.names[j]? = some n → (lim n).1 ≤ (lim n).2) ⟨none, rfl, Same.refl _, fun j n h => absurd h (Nat.not_lt_zero _)⟩ (fun i σ H' _ h => ?_) (fun i x v σ H' H'' ex h s5 hv => ?_) (fun σ H' h => ?_)⟩
  · obtain ⟨y, rfl, t1, t2⟩ := h
    exact lstOf (t1 _ _ ea)
  · obtain ⟨y, rfl, t1, t2⟩ := h
    subst hv
    have hx := List.mem_of_getElem? ex
    have u0 : Same H2 H'' := t1.trans s5
    have u1 : Same H H'' := s1.trans (s2.trans u0)
    have u2 : Rd H'' d (.dK (fdV pl.names fun k => .ref (r k))) := .inl (u1 _ _ hd1)
    have u3 : H'' (r x) = some (.tup [.int (lim x).1, .int (lim x).2]) := u1 _ _ (hd2 _ hx)
    walk_at "g"
    refine ite_d (fun e1 => ?_) (fun e1 => ?_)
    · walk_at "g"
      exact q _ x u1 hx e1
    · walk_at "g"
      intro j n hj en
      by_cases z : j = i
      · subst z
        rw [ex] at en
        rw [← Option.some.inj en]
        omega
      · exact t2 j n (by omega) en
  · obtain ⟨y, rfl, t1, t2⟩ := h
    walk_at "g"
    refine qn H' (s1.trans (s2.trans t1)) fun n hn => ?_
    obtain ⟨j, ej⟩ := List.mem_iff_getElem?.mp hn
    exact t2 j n (List.getElem?_eq_some_iff.mp ej).1 ej
def sp_lack_of (K : PySem.W.Frag) : Sp := fun vs H Q _ => ∃ p pl d lim a, ∃ L : List Str, vs = [.ref p, .ref d, .ref a] ∧ IsPl K H p pl ∧ PV pl ∧ PrD H d pl.names lim ∧ StL H a L ∧ (∀ k ∈ L, k ∈ pl.knots) ∧ L.length ≤ 24 ∧ ∀ H', Same H H' → Q (.int (lackL pl.ss lim L)) H'
theorem sc_lack_of : FnScope ["plant", "limits", "lot", "away", "name"] ["plant", "limits", "lot"] (defScope s_lack_of) := ⟨rfl, rfl, rfl, by decide +kernel, rfl, by decide +kernel, by decide +kernel⟩
theorem ok_lack_of (T : Tx K mg) : Has P w K mg base CX0 5 (A_lack_of K) ["plant", "limits", "lot"] [] (sp_lack_of K) := by
  obtain ⟨fd, F⟩ := T.F_lack_of
  refine ⟨fd, [], F.ok sc_lack_of (fun vs H Q E h => by
    obtain ⟨_, _, _, _, _, _, rfl, _⟩ := h
    rfl) (fun cdv A outer s H vs Q E hr h => ?_), F.bindsN (fun _ _ _ _ _ _ us hl => match us, hl with | [_, _, _], _ => rfl), .nil, F.kp⟩
  obtain ⟨p, pl, d, lim, a, L, rfl, hP, hpv, hd, ha, hL, hl, q⟩ := h
  obtain ⟨kl, sl, dx, hO⟩ := hP.ex
  have hob := hO.ob
  have hkl := hpv.kl
  have hsl := hpv.sl
  have hln := hpv.ln
  obtain ⟨r, hd1, hd2⟩ := hd.ex
  have fl : ∀ (b : Strm → Bool), ((pl.ss.filter b).map (·.name)).length ≤ 30 := fun b => by
    rw [List.length_map]
    exact Nat.le_trans (List.length_filter_le _ _) hsl
  have fm : ∀ (b : Strm → Bool) n, n ∈ (pl.ss.filter b).map (·.name) → n ∈ pl.names := fun b n hn => by
    obtain ⟨s, hs, rfl⟩ := List.mem_map.mp hn
    exact List.mem_map.mpr ⟨s, (List.mem_filter.mp hs).1, rfl⟩
  refine ⟨_, (pss_cons (ps_expr (hc (ok_check_limits (K := K) T) (hr.mono (by decide)) T.g_check_limits pass0 (pa_cons (pv 0) (pa_cons (pv 1) pa_nil))))
      (pss_cons (ps_set (i := 3) sc_lack_of.nd rfl (Or.inl rfl) (pe_callB (sumL rfl) (by rfl) T.b_sum (by decide +kernel) (pa_cons (pe_lc (own := [("name", 4)]) (g := (gName 4)) rfl sc_lack_of.nd (pi_list (hc (ok_leaving (K := K) T) (hr.mono (by decide)) T.g_leaving pass0 (pa_cons (pv 0) (pa_cons (pv 2) pa_nil)))) (blkOk_by (own := [("name", 4)]) (N := ["plant", "limits", "lot", "away", "name"]) (sc := defScope s_lack_of) (by decide +kernel)) (fun _ _ _ _ _ => (pg_name (i := 4) sc_lack_of.nd rfl (Or.inl rfl))) (fun _ _ _ _ _ => pts_nil) (fun _ _ _ _ _ => (pe_ix ixT (pe_dget (hu_of hr) (pv 1) (pv 4) (fun _ _ => rfl)) (pe_int) (fun _ _ => rfl)))) pa_nil)))
      (pss_one (ps_ret (pe_op op_sub (pv 3) (pe_callB (sumL rfl) (by rfl) T.b_sum (by decide +kernel) (pa_cons (pe_lc (own := [("name", 4)]) (g := (gName 4)) rfl sc_lack_of.nd (pi_list (hc (ok_coming_into (K := K) T) (hr.mono (by decide)) T.g_coming_into pass0 (pa_cons (pv 0) (pa_cons (pv 2) pa_nil)))) (blkOk_by (own := [("name", 4)]) (N := ["plant", "limits", "lot", "away", "name"]) (sc := defScope s_lack_of) (by decide +kernel)) (fun _ _ _ _ _ => (pg_name (i := 4) sc_lack_of.nd rfl (Or.inl rfl))) (fun _ _ _ _ _ => pts_nil) (fun _ _ _ _ _ => (pe_ix ixT (pe_dget (hu_of hr) (pv 1) (pv 4) (fun _ _ => rfl)) (pe_int) (fun _ _ => rfl)))) pa_nil))))))), ?_⟩
  walk_at "g"
  intro H1 s1
  walk_at "g"
  intro H2 b s2 nb eb
  have f1 := fl fun s => decide (s.tail ∈ L ∧ s.head ∉ L)
  walk_at "g"
  intro D hD
  refine lcV (wk_listM (ys := (List.filter (fun s : Strm => decide (s.tail ∈ L ∧ s.head ∉ L)) pl.ss).map fun s : Strm => s.name) (m := V.str)) (fun n => some (lim n).1) V.int hD (lstOf eb) (by omega) (fun i x v H' Ky Kn ex s _ hv ky kn => ?_) (fun H3 s3 eD => ?_)
  · subst hv
    have hx := fm _ _ (List.mem_of_getElem? ex)
    have u1 : Same H H' := s1.trans (s2.trans s)
    have u2 : Rd H' d (.dK (fdV pl.names fun k => .ref (r k))) := .inl (u1 _ _ hd1)
    have u3 : H' (r x) = some (.tup [.int (lim x).1, .int (lim x).2]) := u1 _ _ (hd2 _ hx)
    walk_at "g"
    exact ky _ _ (Same.refl _) rfl
  · walk_at "g"
    intro H4 c s4 nc ec
    have f2 := fl fun s => decide (s.head ∈ L ∧ s.tail ∉ L)
    walk_at "g"
    intro D2 hD2
    refine lcV (wk_listM (ys := (List.filter (fun s : Strm => decide (s.head ∈ L ∧ s.tail ∉ L)) pl.ss).map fun s : Strm => s.name) (m := V.str)) (fun n => some (lim n).2) V.int hD2 (lstOf ec) (by omega) (fun i x v H' Ky Kn ex s _ hv ky kn => ?_) (fun H5 s5 eD2 => ?_)
    · subst hv
      have hx := fm _ _ (List.mem_of_getElem? ex)
      have u1 : Same H H' := s1.trans (s2.trans (s3.trans (s4.trans s)))
      have u2 : Rd H' d (.dK (fdV pl.names fun k => .ref (r k))) := .inl (u1 _ _ hd1)
      have u3 : H' (r x) = some (.tup [.int (lim x).1, .int (lim x).2]) := u1 _ _ (hd2 _ hx)
      walk_at "g"
      exact ky _ _ (Same.refl _) rfl
    · walk_at "g"
      rw [fm_map, fm_map, List.map_map, List.map_map]
      exact q _ (s1.trans (s2.trans (s3.trans (s4.trans s5))))
def missN (ks : List Str) (l : List Strm) (f : Str → Int) : Int := (ks.map fun k => if -(net l f k) > 0 then -(net l f k) else 0).sum
def sp_missing_of (K : PySem.W.Frag) : Sp := fun vs H Q _ => ∃ p pl d f, vs = [.ref p, .ref d] ∧ IsPl K H p pl ∧ PV pl ∧ IntD H d pl.names f ∧ ∀ H', Same H H' → Q (.int (missN pl.knots pl.ss f)) H'
theorem sc_missing_of : FnScope ["plant", "flows", "number"] ["plant", "flows"] (defScope s_missing_of) := ⟨rfl, rfl, rfl, by decide +kernel, rfl, by decide +kernel, by decide +kernel⟩
theorem ok_missing_of (T : Tx K mg) : Has P w K mg base CX0 4 (A_missing_of K) ["plant", "flows"] [] (sp_missing_of K) := by
  obtain ⟨fd, F⟩ := T.F_missing_of
  refine ⟨fd, [], F.ok sc_missing_of (fun vs H Q E h => by
    obtain ⟨_, _, _, _, rfl, _⟩ := h
    rfl) (fun cdv A outer s H vs Q E hr h => ?_), F.bindsN (fun _ _ _ _ _ _ us hl => match us, hl with | [_, _], _ => rfl), .nil, F.kp⟩
  obtain ⟨p, pl, d, f, rfl, hP, hpv, hd, q⟩ := h
  obtain ⟨kl, sl, dx, hO⟩ := hP.ex
  have hob := hO.ob
  have hkl := hpv.kl
  have hsl := hpv.sl
  have hln := hpv.ln
  refine ⟨_, (pss_one (ps_ret (pe_callB (sumL rfl) (by rfl) T.b_sum (by decide +kernel) (pa_cons (pe_lc (own := [("number", 2)]) (g := (gName 2)) rfl sc_missing_of.nd (pi_values (pe_frz (hc (ok_lacks (K := K) T) (hr.mono (by decide)) T.g_lacks pass0 (pa_cons (pv 0) (pa_cons (pv 1) pa_nil))))) (blkOk_by (own := [("number", 2)]) (N := ["plant", "flows", "number"]) (sc := defScope s_missing_of) (by decide +kernel)) (fun _ _ _ _ _ => (pg_name (i := 2) sc_missing_of.nd rfl (Or.inl rfl))) (fun _ _ _ _ _ => pts_nil) (fun _ _ _ _ _ => (pe_callB (call_max2 rfl) (by rfl) T.b_max (by decide +kernel) (pa_cons (pe_int) (pa_cons (pe_un un_neg (pv 2)) pa_nil))))) pa_nil)))), ?_⟩
  walk_at "g"
  intro H1 a s1 na ea
  have ea2 : H1 a = some (.dK (fdV pl.knots fun k => .int (net pl.ss f k))) := ea
  refine ⟨a, _, rfl, ea2, trivial, fun od => ?_⟩
  generalize hG : upd H1 a _ = H2
  have s_H2 := ow_same s1 na hG
  have e_a := nw_at hG
  clear hG
  walk_at "g"
  intro D hD
  refine lcG wk_vals (fun kv => some kv) (fun kv v _ => ∃ k, kv = (kS k, .int (net pl.ss f k)) ∧ v = .int (if -(net pl.ss f k) > 0 then -(net pl.ss f k) else 0)) (fun b v H H' _ r => r) hD e_a (by rw [fd_len]; omega) (fun i x v H' Ky Kn ex s _ hv ky kn => ?_) (fun H3 ys s3 eD a3 => ?_)
  · subst hv
    obtain ⟨k, hk, rfl⟩ := List.mem_map.mp (List.mem_of_getElem? ex)
    walk_at "g"
    exact ky _ _ _ (Same.refl _) rfl ⟨k, rfl, rfl⟩
  · have e2 : ys = (pl.knots.map fun k => if -(net pl.ss f k) > 0 then -(net pl.ss f k) else 0).map V.int := by
      rw [fm_map, List.map_id'] at a3
      clear eD
      unfold fdV at a3
      generalize pl.knots = ks at a3
      induction ks generalizing ys with
      | nil => cases a3; rfl
      | cons k ks ih =>
        cases a3 with
        | cons r t =>
          obtain ⟨k2, e, rfl⟩ := r
          rw [ih _ t]
          have := kS_inj (congrArg Prod.fst e)
          subst this
          rfl
    rw [e2] at eD
    walk_at "g"
    exact q _ (s_H2.trans s3)
end
end M
end
-- part Ma
section
set_option Elab.async false
set_option linter.all false
set_option maxRecDepth 100000
set_option maxHeartbeats 4000000
namespace M
open PySem PySem.Spec PyProof.Rows L2
/-! ### sums -/
theorem sum_le {α : Type} {f g : α → Int} : ∀ {l : List α}, (∀ x ∈ l, f x ≤ g x) → (l.map f).sum ≤ (l.map g).sum
  | [], _ => Int.le_refl _
  | a :: l, h => by
    rw [List.map_cons, List.map_cons, List.sum_cons, List.sum_cons]
    have h1 := h a List.mem_cons_self
    have h2 := sum_le (l := l) fun x hx => h x (List.mem_cons_of_mem _ hx)
    omega
theorem sum_add {α : Type} {f g : α → Int} : ∀ {l : List α}, (l.map fun x => f x + g x).sum = (l.map f).sum + (l.map g).sum
  | [] => rfl
  | a :: l => by
    simp only [List.map_cons, List.sum_cons]
    rw [sum_add]
    omega
theorem sum_sub {α : Type} {f g : α → Int} : ∀ {l : List α}, (l.map fun x => f x - g x).sum = (l.map f).sum - (l.map g).sum
  | [] => rfl
  | a :: l => by
    simp only [List.map_cons, List.sum_cons]
    rw [sum_sub]
    omega
theorem sum_zero {α : Type} {f : α → Int} : ∀ {l : List α}, (∀ x ∈ l, f x = 0) → (l.map f).sum = 0
  | [], _ => rfl
  | a :: l, h => by
    rw [List.map_cons, List.sum_cons, h a List.mem_cons_self, sum_zero fun x hx => h x (List.mem_cons_of_mem _ hx)]
    rfl
theorem sum_cong {α : Type} {f g : α → Int} {l : List α} (h : ∀ x ∈ l, f x = g x) : (l.map f).sum = (l.map g).sum := by
  rw [List.map_congr_left h]
theorem sum_nn {α : Type} {f : α → Int} {l : List α} (h : ∀ x ∈ l, 0 ≤ f x) : 0 ≤ (l.map f).sum := by
  have := sum_le (f := fun _ => 0) h
  rw [sum_zero fun _ _ => rfl] at this
  exact this
theorem sum_nn_zero {α : Type} {f : α → Int} : ∀ {l : List α}, (∀ x ∈ l, 0 ≤ f x) → (l.map f).sum = 0 → ∀ x ∈ l, f x = 0
  | [], _, _, x, h => nomatch h
  | a :: l, h, e, x, hx => by
    rw [List.map_cons, List.sum_cons] at e
    have h1 := h a List.mem_cons_self
    have h2 := sum_nn (l := l) fun x hx => h x (List.mem_cons_of_mem _ hx)
    rcases List.mem_cons.mp hx with rfl | hx
    · omega
    · exact sum_nn_zero (fun x hx => h x (List.mem_cons_of_mem _ hx)) (by omega) x hx
theorem sum_pos {α : Type} {f : α → Int} {l : List α} (h : ∀ x ∈ l, 0 ≤ f x) {y : α} (hy : y ∈ l) (p : 0 < f y) : 0 < (l.map f).sum := by
  have h1 := sum_nn h
  by_cases e : (l.map f).sum = 0
  · have := sum_nn_zero h e y hy
    omega
  · omega
/-- Σ over l of Σ over m, in the other order -/
theorem sum_swap {α β : Type} {f : α → β → Int} {m : List β} : ∀ {l : List α}, (l.map fun x => (m.map fun y => f x y).sum).sum = (m.map fun y => (l.map fun x => f x y).sum).sum
  | [] => (sum_zero fun _ _ => rfl).symm
  | a :: l => by
    simp only [List.map_cons, List.sum_cons]
    rw [sum_swap, ← sum_add]
/-- one place's value, summed over unlike places -/
theorem sum_one {x : Str} {v : Int} : ∀ {L : List Str}, L.Nodup → (L.map fun k => if x = k then v else 0).sum = if x ∈ L then v else 0
  | [], _ => rfl
  | a :: L, n => by
    have n2 := List.nodup_cons.mp n
    rw [List.map_cons, List.sum_cons, sum_one n2.2]
    by_cases e : x = a
    · subst e
      rw [if_pos rfl, if_neg n2.1, if_pos List.mem_cons_self]
      omega
    · rw [if_neg e]
      by_cases h : x ∈ L
      · rw [if_pos h, if_pos (List.mem_cons_of_mem _ h)]
        omega
      · rw [if_neg h, if_neg fun z => (List.mem_cons.mp z).elim e h]
        omega
theorem sum_filter {α : Type} {p : α → Prop} [DecidablePred p] {f : α → Int} : ∀ {l : List α}, ((l.filter fun x => decide (p x)).map f).sum = (l.map fun x => if p x then f x else 0).sum
  | [] => rfl
  | a :: l => by
    have ih := sum_filter (p := p) (f := f) (l := l)
    by_cases h : p a
    · have e : (a :: l).filter (fun x => decide (p x)) = a :: l.filter fun x => decide (p x) := List.filter_cons_of_pos (p := fun x => decide (p x)) (decide_eq_true h)
      rw [e, List.map_cons, List.sum_cons, List.map_cons, List.sum_cons, if_pos h, ih]
    · have e : (a :: l).filter (fun x => decide (p x)) = l.filter fun x => decide (p x) := List.filter_cons_of_neg (p := fun x => decide (p x)) (fun z => h (of_decide_eq_true z))
      rw [e, List.map_cons, List.sum_cons, if_neg h, ih]
      omega
/-- a change at one place -/
theorem sum_at {f g : Str → Int} {e : Str} : ∀ {L : List Str}, L.Nodup → e ∈ L → (∀ k ∈ L, k ≠ e → f k = g k) → (L.map f).sum = (L.map g).sum + (f e - g e)
  | [], _, h, _ => nomatch h
  | a :: L, n, h, q => by
    have n2 := List.nodup_cons.mp n
    rw [List.map_cons, List.sum_cons, List.map_cons, List.sum_cons]
    rcases List.mem_cons.mp h with rfl | h
    · rw [sum_cong (f := f) (g := g) fun k hk => q k (List.mem_cons_of_mem _ hk) fun z => n2.1 (z ▸ hk)]
      omega
    · have := sum_at n2.2 h fun k hk => q k (List.mem_cons_of_mem _ hk)
      rw [this, q a List.mem_cons_self fun z => n2.1 (z ▸ h)]
      omega
/-! ### net -/
theorem net_cons {s : Strm} {l : List Strm} {f : Str → Int} {k : Str} : net (s :: l) f k = ((if s.head = k then f s.name else 0) - (if s.tail = k then f s.name else 0)) + net l f k := by
  unfold net
  rw [List.map_cons, List.sum_cons]
theorem net_cong {l : List Strm} {f g : Str → Int} {k : Str} (h : ∀ s ∈ l, f s.name = g s.name) : net l f k = net l g k := by
  unfold net
  exact sum_cong fun s hs => by rw [h s hs]
theorem net_up {f : Str → Int} {v : Int} {k : Str} {s : Strm} : ∀ {l : List Strm}, (l.map (·.name)).Nodup → s ∈ l → net l (up f s.name v) k = net l f k + ((if s.head = k then v - f s.name else 0) - (if s.tail = k then v - f s.name else 0))
  | [], _, h => nomatch h
  | a :: l, n, h => by
    rw [List.map_cons] at n
    have n2 := List.nodup_cons.mp n
    rw [net_cons, net_cons]
    rcases List.mem_cons.mp h with rfl | h
    · rw [up_same, net_cong (f := up f s.name v) (g := f) fun r hr => up_ne fun z => n2.1 (List.mem_map.mpr ⟨r, hr, z⟩)]
      split <;> split <;> omega
    · rw [net_up n2.2 h, up_ne fun z => n2.1 (List.mem_map.mpr ⟨s, h, z.symm⟩)]
      omega
/-- what comes into the places of L, less what leaves them -/
theorem sum_net {l : List Strm} {f : Str → Int} {L : List Str} (n : L.Nodup) : (L.map (net l f)).sum =
    ((l.filter fun s => decide (s.head ∈ L ∧ s.tail ∉ L)).map fun s => f s.name).sum - ((l.filter fun s => decide (s.tail ∈ L ∧ s.head ∉ L)).map fun s => f s.name).sum := by
  have h1 : (L.map (net l f)).sum = (l.map fun s => (L.map fun k => (if s.head = k then f s.name else 0) - (if s.tail = k then f s.name else 0)).sum).sum := by
    unfold net
    exact sum_swap (f := fun (k : Str) (s : Strm) => (if s.head = k then f s.name else 0) - (if s.tail = k then f s.name else 0))
  rw [h1, sum_filter, sum_filter, ← sum_sub]
  refine sum_cong fun s _ => ?_
  rw [sum_sub, sum_one n, sum_one n]
  by_cases a : s.head ∈ L <;> by_cases b : s.tail ∈ L <;> simp [a, b]
theorem net_total {l : List Strm} {f : Str → Int} {ks : List Str} (n : ks.Nodup) (ht : ∀ s ∈ l, s.tail ∈ ks) (hh : ∀ s ∈ l, s.head ∈ ks) : (ks.map (net l f)).sum = 0 := by
  rw [sum_net n]
  have e1 : (l.filter fun s => decide (s.head ∈ ks ∧ s.tail ∉ ks)) = [] := List.filter_eq_nil_iff.mpr fun s hs e => (of_decide_eq_true e).2 (ht s hs)
  have e2 : (l.filter fun s => decide (s.tail ∈ ks ∧ s.head ∉ ks)) = [] := List.filter_eq_nil_iff.mpr fun s hs e => (of_decide_eq_true e).2 (hh s hs)
  rw [e1, e2]
  rfl
/-- a lot that lacks: nothing fits -/
theorem lack_infeasible {ks : List Str} {l : List Strm} {lim : Str → Int × Int} {L : List Str} (n : L.Nodup) (hL : ∀ k ∈ L, k ∈ ks) {f : Str → Int} (h : Feas ks l lim f) : lackL l lim L ≤ 0 := by
  have e := sum_net (l := l) (f := f) n
  rw [sum_zero fun k hk => h.bal k (hL k hk)] at e
  have a1 := sum_le (l := l.filter fun s => decide (s.head ∈ L ∧ s.tail ∉ L)) (f := fun s => f s.name) (g := fun s => (lim s.name).2) fun s hs => h.hi s (List.mem_filter.mp hs).1
  have a2 := sum_le (l := l.filter fun s => decide (s.tail ∈ L ∧ s.head ∉ L)) (f := fun s => (lim s.name).1) (g := fun s => f s.name) fun s hs => h.lo s (List.mem_filter.mp hs).1
  unfold lackL
  omega
/-- what a tight lot lacks -/
theorem lack_tight {l : List Strm} {lim : Str → Int × Int} {L : List Str} (n : L.Nodup) {f : Str → Int} (h1 : ∀ s ∈ l, s.head ∈ L → s.tail ∉ L → f s.name = (lim s.name).2) (h2 : ∀ s ∈ l, s.tail ∈ L → s.head ∉ L → f s.name = (lim s.name).1) : lackL l lim L = -(L.map (net l f)).sum := by
  rw [sum_net n]
  have a1 := sum_cong (l := l.filter fun s => decide (s.head ∈ L ∧ s.tail ∉ L)) (f := fun s => f s.name) (g := fun s => (lim s.name).2) fun s hs => by
    obtain ⟨m, d⟩ := List.mem_filter.mp hs
    exact h1 s m (of_decide_eq_true d).1 (of_decide_eq_true d).2
  have a2 := sum_cong (l := l.filter fun s => decide (s.tail ∈ L ∧ s.head ∉ L)) (f := fun s => f s.name) (g := fun s => (lim s.name).1) fun s hs => by
    obtain ⟨m, d⟩ := List.mem_filter.mp hs
    exact h2 s m (of_decide_eq_true d).1 (of_decide_eq_true d).2
  rw [a1, a2]
  unfold lackL
  omega
end M
end
-- part Mb
section
set_option Elab.async false
set_option linter.all false
set_option maxRecDepth 100000
set_option maxHeartbeats 4000000
namespace M
open PySem PySem.Spec PyProof.Rows L2
/-- m goes along a stream of l, or against it -/
def Along (s : Strm) (m : Mv) : Prop := m.name = s.name ∧ ((m.sign = 1 ∧ m.tail = s.tail ∧ m.head = s.head) ∨ (m.sign = -1 ∧ m.tail = s.head ∧ m.head = s.tail))
theorem arc_of {lim : Str → Int × Int} {f : Str → Int} {l : List Strm} {m : Mv} (h : m ∈ arcsOf lim f l) : ∃ s ∈ l, Along s m ∧ 0 < m.most ∧ (m.sign = 1 → f s.name + m.most = (lim s.name).2) ∧ (m.sign = -1 → f s.name - m.most = (lim s.name).1) := by
  unfold arcsOf at h
  obtain ⟨s, hs, h⟩ := List.mem_flatMap.mp h
  refine ⟨s, hs, ?_⟩
  unfold arc1 at h
  rcases List.mem_append.mp h with h | h
  · split at h
    · rw [List.mem_singleton.mp h]
      exact ⟨⟨rfl, .inl ⟨rfl, rfl, rfl⟩⟩, by show (0 : Int) < _ - _; omega, fun _ => by show f s.name + (_ - _) = _; omega, fun e => absurd e (by show ¬ (1 : Int) = -1; decide)⟩
    · cases h
  · split at h
    · rw [List.mem_singleton.mp h]
      exact ⟨⟨rfl, .inr ⟨rfl, rfl, rfl⟩⟩, by show (0 : Int) < _ - _; omega, fun e => absurd e (by show ¬ (-1 : Int) = 1; decide), fun _ => by show f s.name - (_ - _) = _; omega⟩
    · cases h
theorem arc_up {lim : Str → Int × Int} {f : Str → Int} {l : List Strm} {s : Strm} (hs : s ∈ l) (h : f s.name < (lim s.name).2) : ∃ m ∈ arcsOf lim f l, m.tail = s.tail ∧ m.head = s.head :=
  ⟨_, List.mem_flatMap.mpr ⟨s, hs, List.mem_append_left _ (by rw [if_pos h]; exact List.mem_singleton.mpr rfl)⟩, rfl, rfl⟩
theorem arc_down {lim : Str → Int × Int} {f : Str → Int} {l : List Strm} {s : Strm} (hs : s ∈ l) (h : (lim s.name).1 < f s.name) : ∃ m ∈ arcsOf lim f l, m.tail = s.head ∧ m.head = s.tail :=
  ⟨_, List.mem_flatMap.mpr ⟨s, hs, List.mem_append_right _ (by rw [if_pos h]; exact List.mem_singleton.mpr rfl)⟩, rfl, rfl⟩
theorem push1_net {l : List Strm} {f : Str → Int} {a : Int} {k : Str} {s : Strm} {m : Mv} (n : (l.map (·.name)).Nodup) (hs : s ∈ l) (h : Along s m) : net l (up f m.name (f m.name + m.sign * a)) k = net l f k + ((if m.head = k then a else 0) - (if m.tail = k then a else 0)) := by
  obtain ⟨e, h⟩ := h
  rw [e, net_up n hs]
  rcases h with ⟨e1, e2, e3⟩ | ⟨e1, e2, e3⟩
  · rw [e1, e2, e3]
    split <;> split <;> omega
  · rw [e1, e2, e3]
    split <;> split <;> omega
theorem push_net {l : List Strm} {a : Int} {k : Str} (n : (l.map (·.name)).Nodup) : ∀ {way : List Mv} {f : Str → Int} {s e : Str}, Chain s e way → (∀ m ∈ way, ∃ s ∈ l, Along s m) → net l (pushes f a way) k = net l f k + ((if e = k then a else 0) - (if s = k then a else 0))
  | [], f, s, e, c, _ => by
    have c : s = e := c
    subst c
    show net l f k = _
    omega
  | m :: way, f, s, e, ⟨c1, c2⟩, h => by
    obtain ⟨r, hr, hm⟩ := h m List.mem_cons_self
    show net l (pushes _ a way) k = _
    rw [push_net n c2 fun m hm => h m (List.mem_cons_of_mem _ hm), push1_net n hr hm, c1]
    omega
theorem chain_rk {ρ : Str → Int} : ∀ {l : List Mv} {s e : Str}, Chain s e l → (∀ m ∈ l, ρ m.tail < ρ m.head) → ∀ m ∈ l, ρ s ≤ ρ m.tail
  | [], _, _, _, _, m, h => nomatch h
  | x :: l, s, e, ⟨c1, c2⟩, h, m, hm => by
    have hx := h x List.mem_cons_self
    rcases List.mem_cons.mp hm with rfl | hm
    · rw [c1]
      exact Int.le_refl _
    · have := chain_rk c2 (fun m hm => h m (List.mem_cons_of_mem _ hm)) m hm
      rw [c1] at hx
      omega
theorem same_strm {l : List Strm} (n : (l.map (·.name)).Nodup) {s r : Strm} (hs : s ∈ l) (hr : r ∈ l) (e : s.name = r.name) : s = r := by
  induction l with
  | nil => cases hs
  | cons a l ih =>
    rw [List.map_cons] at n
    have n2 := List.nodup_cons.mp n
    rcases List.mem_cons.mp hs with h1 | h1 <;> rcases List.mem_cons.mp hr with h2 | h2
    · rw [h1, h2]
    · exact absurd (List.mem_map.mpr ⟨r, h2, by rw [← e, h1]⟩) n2.1
    · exact absurd (List.mem_map.mpr ⟨s, h1, by rw [e, h2]⟩) n2.1
    · exact ih n2.2 h1 h2
theorem way_names {l : List Strm} (n : (l.map (·.name)).Nodup) {ρ : Str → Int} : ∀ {way : List Mv} {s e : Str}, Chain s e way → (∀ m ∈ way, ∃ s ∈ l, Along s m) → (∀ m ∈ way, ρ m.tail < ρ m.head) → (way.map (·.name)).Nodup
  | [], _, _, _, _, _ => List.nodup_nil
  | x :: way, s, e, ⟨c1, c2⟩, h, hr => by
    rw [List.map_cons]
    refine List.nodup_cons.mpr ⟨fun z => ?_, way_names n c2 (fun m hm => h m (List.mem_cons_of_mem _ hm)) fun m hm => hr m (List.mem_cons_of_mem _ hm)⟩
    obtain ⟨m, hm, em⟩ := List.mem_map.mp z
    obtain ⟨r1, h1, a1, b1⟩ := h x List.mem_cons_self
    obtain ⟨r2, h2, a2, b2⟩ := h m (List.mem_cons_of_mem _ hm)
    have er : r1 = r2 := same_strm n h1 h2 (by rw [← a1, ← a2, em])
    subst er
    have k1 := hr x List.mem_cons_self
    have k2 := hr m (List.mem_cons_of_mem _ hm)
    have k3 := chain_rk c2 (fun m hm => hr m (List.mem_cons_of_mem _ hm)) m hm
    rcases b1 with ⟨_, p, q⟩ | ⟨_, p, q⟩ <;> rcases b2 with ⟨_, u, v⟩ | ⟨_, u, v⟩ <;> rw [p, q] at k1 <;> rw [u, v] at k2 <;> rw [q, u] at k3 <;> omega
theorem pushes_off {a : Int} {n : Str} : ∀ {way : List Mv} {f : Str → Int}, n ∉ way.map (·.name) → pushes f a way n = f n
  | [], _, _ => rfl
  | m :: way, f, h => by
    rw [List.map_cons, List.mem_cons, not_or] at h
    show pushes _ a way n = _
    rw [pushes_off h.2, up_ne h.1]
theorem pushes_on {a : Int} {m : Mv} : ∀ {way : List Mv} {f : Str → Int}, (way.map (·.name)).Nodup → m ∈ way → pushes f a way m.name = f m.name + m.sign * a
  | [], _, _, h => nomatch h
  | x :: way, f, n, h => by
    rw [List.map_cons] at n
    have n2 := List.nodup_cons.mp n
    show pushes _ a way m.name = _
    rcases List.mem_cons.mp h with rfl | h
    · rw [pushes_off n2.1, up_same]
    · rw [pushes_on n2.2 h, up_ne fun z => n2.1 (by
        rw [← z]
        exact List.mem_map.mpr ⟨m, h, rfl⟩)]
/-- a push along a way of arcs: within the limits; the start gives, the end gets -/
theorem push_ok {l ls : List Strm} {lim : Str → Int × Int} {f : Str → Int} {a : Int} {way : List Mv} {s e : Str} (n : (l.map (·.name)).Nodup) (hls : ∀ s ∈ ls, s ∈ l) (w : Way (arcsOf lim f ls) s e way) (h0 : 0 ≤ a) (ha : ∀ m ∈ way, a ≤ m.most)
    (hw : ∀ s ∈ l, (lim s.name).1 ≤ f s.name ∧ f s.name ≤ (lim s.name).2) : (∀ s ∈ l, (lim s.name).1 ≤ pushes f a way s.name ∧ pushes f a way s.name ≤ (lim s.name).2) ∧ ∀ k, net l (pushes f a way) k = net l f k + ((if e = k then a else 0) - (if s = k then a else 0)) := by
  have al : ∀ m ∈ way, ∃ s ∈ l, Along s m := fun m hm => by
    obtain ⟨s, hs, h, _⟩ := arc_of (w.mem m hm)
    exact ⟨s, hls s hs, h⟩
  obtain ⟨ρ, hρ⟩ := w.rk
  have nn := way_names n w.ch al hρ
  refine ⟨fun r hr => ?_, fun k => push_net n w.ch al⟩
  by_cases z : r.name ∈ way.map (·.name)
  · obtain ⟨m, hm, em⟩ := List.mem_map.mp z
    obtain ⟨s', hs', ⟨e1, e2⟩, hp, q1, q2⟩ := arc_of (w.mem m hm)
    have := hw r hr
    have er : s'.name = r.name := by rw [← e1, em]
    rw [← em, pushes_on nn hm, em]
    have ham := ha m hm
    rw [er] at q1 q2
    rcases e2 with ⟨g, _⟩ | ⟨g, _⟩
    · have := q1 g
      rw [g]
      omega
    · have := q2 g
      rw [g]
      omega
  · rw [pushes_off z]
    exact hw r hr
def miss1 (x : Int) : Int := if -x > 0 then -x else 0
theorem miss1_nn (x : Int) : 0 ≤ miss1 x := by
  unfold miss1
  split <;> omega
theorem missN_nn {ks : List Str} {l : List Strm} {f : Str → Int} : 0 ≤ missN ks l f := sum_nn fun k _ => miss1_nn _
/-- a push from over to short lowers what is missing -/
theorem missN_less {ks : List Str} {l : List Strm} {f g : Str → Int} {s e : Str} {a : Int} (n : ks.Nodup) (he : e ∈ ks) (hse : s ≠ e) (h0 : 0 < a) (h1 : a ≤ net l f s) (h2 : a ≤ -(net l f e)) (h : ∀ k, net l g k = net l f k + ((if e = k then a else 0) - (if s = k then a else 0))) : missN ks l g = missN ks l f - a := by
  have q := sum_at (f := fun k => miss1 (net l g k)) (g := fun k => miss1 (net l f k)) n he fun k _ hk => by
    show miss1 _ = miss1 _
    rw [h k, if_neg fun z => hk z.symm]
    unfold miss1
    by_cases z : s = k
    · subst z
      rw [if_pos rfl, if_neg (by omega), if_neg (by omega)]
    · rw [if_neg z]
      split <;> split <;> omega
  show (ks.map fun k => miss1 (net l g k)).sum = (ks.map fun k => miss1 (net l f k)).sum - a
  rw [q]
  show _ + (miss1 (net l g e) - miss1 (net l f e)) = _
  rw [h e, if_pos rfl, if_neg hse]
  unfold miss1
  split <;> split <;> omega
theorem missN_zero {ks : List Str} {l : List Strm} {f : Str → Int} (n : ks.Nodup) (ht : ∀ s ∈ l, s.tail ∈ ks) (hh : ∀ s ∈ l, s.head ∈ ks) (h : missN ks l f = 0) : ∀ k ∈ ks, net l f k = 0 := by
  have z : ∀ k ∈ ks, 0 ≤ net l f k := fun k hk => by
    have := sum_nn_zero (fun k _ => miss1_nn (net l f k)) h k hk
    unfold miss1 at this
    split at this <;> omega
  exact sum_nn_zero z (net_total n ht hh)
theorem missN_pos {ks : List Str} {l : List Strm} {f : Str → Int} (h : missN ks l f ≠ 0) : ∃ k ∈ ks, net l f k < 0 := by
  apply Classical.byContradiction
  intro z
  refine h (sum_zero fun k hk => ?_)
  have : ¬ net l f k < 0 := fun y => z ⟨k, hk, y⟩
  show miss1 _ = 0
  unfold miss1
  rw [if_neg (by omega)]
end M
end
-- part W12
section
set_option Elab.async false
set_option linter.all false
set_option maxRecDepth 100000
set_option maxHeartbeats 4000000
namespace M
open PySem PySem.Spec PyProof.Rows L2
local macro_rules | `(tactic| walk_at "e") => `(tactic| (first
  | exact rfl
  | assumption
  | exact upd_same
  | exact flat_strs
  | exact fd_keys
  | ((with_reducible apply same_at); assumption; walk_at "f")
  | ((with_reducible apply at_upd); assumption; walk_at "f")
  | omega))
local macro_rules | `(tactic| walk_at "n") => `(tactic| (first
  | assumption
  | omega
  | exact Nat.le_of_lt (small1000 (by first | assumption | omega))
  | exact (Nat.zero_le _ : 0 ≤ sizeLine)
  | exact (by decide : 1 ≤ sizeLine)
  | exact (by decide : 2 ≤ sizeLine)
  | exact (by decide : 3 ≤ sizeLine)
  | exact (by decide : 5 ≤ sizeLine)
  | exact (by decide : 6 ≤ sizeLine)
  | (show _ < 1000; exact of_decide_eq_true rfl)
  | exact len2 (by omega) (by omega)
  | exact small1000 (by first | assumption | omega)))
local macro_rules | `(tactic| walk_at "f") => `(tactic| (first
  | with_reducible assumption
  | ((with_reducible apply gEq); walk_at "e")
  | ((with_reducible apply gLe); walk_at "n")
  | ((with_reducible apply gLt); walk_at "n")
  | ((with_reducible apply gNot); (first | assumption | omega))
  | with_reducible exact Same.refl _
  | ((with_reducible apply tupOf); walk_at "f")
  | ((with_reducible apply lstOf); walk_at "f")
  | ((with_reducible apply gCls); assumption)
  | ((with_reducible apply gNoAttr); assumption)
  | ((with_reducible apply gIsPl); assumption)
  | ((with_reducible apply gStL); assumption)
  | ((with_reducible apply gIntD); assumption)
  | ((with_reducible apply gSqT); assumption)
  | ((with_reducible apply gSqL); assumption)
  | ((with_reducible apply tyV_l); walk_at "f")
  | ((with_reducible apply Rd.of); walk_at "f")
  | ((with_reducible apply dget_ne); assumption; assumption)
  | ((with_reducible apply dget_fd) <;> walk_at "f")
  | ((with_reducible apply dput_int) <;> walk_at "f")
  | ((with_reducible apply dput_fd) <;> walk_at "f")
  | ((with_reducible apply rd_upd); assumption; walk_at "f")
  | ((with_reducible apply same_put); walk_at "f"; assumption)
  | ((with_reducible apply sx_upd) <;> walk_at "f")
  | ((with_reducible refine Same.trans ?_ (by assumption)); walk_at "f")
  | ((with_reducible apply cmulLg); omega; omega)
  | ((with_reducible apply cmulRg); omega; omega)
  | ((with_reducible apply SameE.upd); walk_at "f")
  | ((with_reducible apply StL.same); assumption; walk_at "f")
  | ((with_reducible apply LT.same); assumption; walk_at "f")
  | ((with_reducible apply IsP.same); assumption; walk_at "f")
  | ((with_reducible apply IsPl.same); assumption; walk_at "f")
  | ((with_reducible apply IntD.same); assumption; walk_at "f")
  | ((with_reducible apply PrD.same); assumption; walk_at "f")
  | ((with_reducible apply Or.inl); walk_at "f")
  | ((with_reducible apply Or.inr); walk_at "f")))
local macro_rules | `(tactic| walk_at "g") => `(tactic| repeat (first
  | with_reducible apply And.intro
  | with_reducible apply Exists.intro
  | walk_at "f"
  | ((with_reducible apply iteT); assumption)
  | ((with_reducible apply iteF); assumption)
  | ((with_reducible apply iteD); (first | assumption | omega))
  | ((with_reducible apply iteN); (first | assumption | omega))
  | ((with_reducible apply iteD2); (first | assumption | omega))
  | ((with_reducible apply iteN2); (first | assumption | omega))
  | apply And.intro
  | apply Exists.intro))
section
variable {P : Program} {w : World} {K : PySem.W.Frag} {mg : Str → Option Value} {base : Heap}
theorem sameE_same {H0 H H' : Hp} {D : Addr} (s : Same H0 H) (n : H0 D = none) (t : SameE D H H') : Same H0 H' := fun b o e => t b o (ne_of_none e n) (s _ _ e)
theorem chain_last : ∀ {l : List Mv} {s e : Str} {m : Mv}, Chain s e (l ++ [m]) → m.head = e
  | [], _, _, _, ⟨_, h⟩ => h
  | _ :: l, _, _, _, ⟨_, h⟩ => chain_last (l := l) h
theorem a2_last {α : Type} {R : α → V → Prop} {l : List α} {m : α} {vs : List V} (h : A2 R (l ++ [m]) vs) : ∃ vs' v, vs = vs' ++ [v] ∧ R m v := by
  rcases snoc_cases vs with e | ⟨vs', v, e⟩
  · subst e
    have := h.length
    simp at this
  · subst e
    have hl := h.length
    have hl2 : vs'.length = l.length := by simpa using hl
    have e1 : (l ++ [m])[l.length]? = some m := by simp
    obtain ⟨b, hb, r⟩ := h.get e1
    rw [← hl2] at hb
    have e2 : (vs' ++ [v])[vs'.length]? = some v := by simp
    rw [e2] at hb
    rw [← Option.some.inj hb] at r
    exact ⟨vs', v, rfl, r⟩
theorem chain_names {l ls : List Strm} {lim : Str → Int × Int} {f : Str → Int} {s e : Str} {way : List Mv} (n : (l.map (·.name)).Nodup) (hls : ∀ s ∈ ls, s ∈ l) (w : Way (arcsOf lim f ls) s e way) : (∀ m ∈ way, m.name ∈ l.map (·.name)) ∧ way.length ≤ l.length ∧ (∀ m ∈ way, m.sign = 1 ∨ m.sign = -1) ∧ ∀ m ∈ way, 0 < m.most := by
  have h1 : ∀ m ∈ way, m.name ∈ l.map (·.name) := fun m hm => by
    obtain ⟨r, hr, ⟨a, _⟩, _⟩ := arc_of (w.mem m hm)
    rw [a]
    exact List.mem_map.mpr ⟨r, hls r hr, rfl⟩
  obtain ⟨ρ, hρ⟩ := w.rk
  have nn := way_names n w.ch (fun m hm => by
    obtain ⟨s, hs, h, _⟩ := arc_of (w.mem m hm)
    exact ⟨s, hls s hs, h⟩) hρ
  refine ⟨h1, ?_, fun m hm => ?_, fun m hm => ?_⟩
  · have := nodup_le nn fun x hx => by
      obtain ⟨m, hm, rfl⟩ := List.mem_map.mp hx
      exact h1 m hm
    rw [List.length_map, List.length_map] at this
    exact this
  · obtain ⟨r, hr, ⟨_, a⟩, _⟩ := arc_of (w.mem m hm)
    rcases a with ⟨a, _⟩ | ⟨a, _⟩
    · exact .inl a
    · exact .inr a
  · obtain ⟨r, hr, _, a, _⟩ := arc_of (w.mem m hm)
    exact a
theorem lock_free {H : Hp} {d b : Addr} {u : HO} {od : Obj} (h : upd H d (.frz od u) b = none) : H b = none := by
  by_cases z : b = d
  · subst z
    rw [upd_same] at h
    cases h
  · rw [upd_ne z] at h
    exact h
theorem upd_none {H : Hp} {a b : Addr} {o : HO} (h : upd H a o b = none) : H b = none := by
  by_cases z : b = a
  · subst z
    rw [upd_same] at h
    cases h
  · rw [upd_ne z] at h
    exact h
theorem cut_lack {pl : Plt} (hpv : PV pl) {lim : Str → Int × Int} {f : Str → Int} {R : List Str} (hw : ∀ s ∈ pl.ss, (lim s.name).1 ≤ f s.name ∧ f s.name ≤ (lim s.name).2)
    (hcl : Closed (arcsOf lim f (pl.ss.filter fun s => decide (s.tail ≠ s.head))) (pl.knots.filter fun k => decide (net pl.ss f k > 0)) (pl.knots.filter fun k => decide (net pl.ss f k < 0)))
    (r1 : ∀ s ∈ pl.knots.filter (fun k => decide (net pl.ss f k < 0)), s ∈ R) (r2 : ∀ m ∈ arcsOf lim f (pl.ss.filter fun s => decide (s.tail ≠ s.head)), m.head ∈ R → m.tail ∈ R)
    (r3 : ∀ C : Str → Prop, (∀ s ∈ pl.knots.filter (fun k => decide (net pl.ss f k < 0)), C s) → (∀ m ∈ arcsOf lim f (pl.ss.filter fun s => decide (s.tail ≠ s.head)), C m.head → C m.tail) → ∀ v ∈ R, C v)
    (hn : missN pl.knots pl.ss f ≠ 0) : 0 < lackL pl.ss lim (pl.knots.filter fun k => decide (k ∈ R)) := by
  have mL : ∀ {k}, k ∈ pl.knots → k ∈ R → k ∈ pl.knots.filter fun k => decide (k ∈ R) := fun a b => List.mem_filter.mpr ⟨a, decide_eq_true b⟩
  have oL : ∀ {k}, k ∈ pl.knots.filter (fun k => decide (k ∈ R)) → k ∈ R := fun h => of_decide_eq_true (List.mem_filter.mp h).2
  rw [lack_tight (f := f) (hpv.kn.filter _) (fun s hs a b => ?_) (fun s hs a b => ?_)]
  · have hneg : ∀ k ∈ pl.knots.filter (fun k => decide (k ∈ R)), 0 ≤ -(net pl.ss f k) := fun k hk => by
      obtain ⟨R', c1, c2, c3⟩ := hcl
      have := r3 (fun v => v ∉ R') (fun s hs => c2 s hs) (fun m hm h1 h2 => h1 (c3 m hm h2)) k (oL hk)
      by_cases z : net pl.ss f k > 0
      · exact absurd (c1 k (List.mem_filter.mpr ⟨(List.mem_filter.mp hk).1, decide_eq_true z⟩)) this
      · omega
    obtain ⟨e, he, hne⟩ := missN_pos hn
    have := sum_pos (f := fun k => -(net pl.ss f k)) hneg (mL he (r1 e (List.mem_filter.mpr ⟨he, decide_eq_true hne⟩))) (by show 0 < -_; omega)
    have e2 : ∀ l : List Str, (l.map fun k => -(net pl.ss f k)).sum = -(l.map (net pl.ss f)).sum := fun l => by
      induction l with
      | nil => rfl
      | cons x l ih =>
        rw [List.map_cons, List.map_cons, List.sum_cons, List.sum_cons, ih]
        omega
    rw [e2] at this
    exact this
  · have ne : s.tail ≠ s.head := fun z => b (z ▸ a)
    by_cases z : f s.name < (lim s.name).2
    · obtain ⟨m, hm, e1, e2⟩ := arc_up (l := pl.ss.filter fun s => decide (s.tail ≠ s.head)) (List.mem_filter.mpr ⟨hs, decide_eq_true ne⟩) z
      exact absurd (mL (hpv.tk s hs) (e1 ▸ r2 m hm (e2 ▸ oL a))) b
    · have := hw s hs
      omega
  · have ne : s.tail ≠ s.head := fun z => b (z ▸ a)
    by_cases z : (lim s.name).1 < f s.name
    · obtain ⟨m, hm, e1, e2⟩ := arc_down (l := pl.ss.filter fun s => decide (s.tail ≠ s.head)) (List.mem_filter.mpr ⟨hs, decide_eq_true ne⟩) z
      exact absurd (mL (hpv.hk s hs) (e1 ▸ r2 m hm (e2 ▸ oL a))) b
    · have := hw s hs
      omega
structure MisO (K : PySem.W.Frag) (H : Hp) (x : Addr) (num : Int) (f : Str → Int) (L : List Str) (pl : Plt) (df a : Addr) : Prop where
  ob : ∃ dx b, H x = some (.ins (C_Missing K) dx [("number", .int num), ("flows", .ref df), ("least", .ref a), ("greatest", .ref b)])
  fl : IntD H df pl.names f
  le : StL H a L
def sp_least_missing (K : PySem.W.Frag) : Sp := fun vs H Q _ => ∃ p pl d lim, vs = [.ref p, .ref d] ∧ IsPl K H p pl ∧ PV pl ∧ PrD H d pl.names lim ∧
  (∀ H', Same H H' → (∃ n ∈ pl.names, (lim n).2 < (lim n).1) → Q .non H') ∧
  ∀ H' x df a num f L, Same H H' → (∀ n ∈ pl.names, (lim n).1 ≤ (lim n).2) → MisO K H' x num f L pl df a → H df = none → H a = none → (∀ k ∈ L, k ∈ pl.knots) → L.length ≤ 24 → (pl.knots.filter fun k => decide (k ∈ L)) = L → 0 ≤ num → (num = 0 → Feas pl.knots pl.ss lim f) → (0 < num → 0 < lackL pl.ss lim L) → Q (.ref x) H'
theorem sc_least_missing : FnScope ["plant", "limits", "lines", "flows", "left", "over", "short", "way", "least", "spared", "lots", "name", "knot"] ["plant", "limits"] (defScope s_least_missing) := ⟨rfl, rfl, rfl, by decide +kernel, rfl, by decide +kernel, by decide +kernel⟩
theorem ok_least_missing (T : Tx K mg) : Has P w K mg base CX0 6 (A_least_missing K) ["plant", "limits"] [] (sp_least_missing K) := by
  obtain ⟨fd, F⟩ := T.F_least_missing
  refine ⟨fd, [], F.ok sc_least_missing (fun vs H Q E h => by
    obtain ⟨_, _, _, _, rfl, _⟩ := h
    rfl) (fun cdv A outer s H vs Q E hr h => ?_), F.bindsN (fun _ _ _ _ _ _ us hl => match us, hl with | [_, _], _ => rfl), .nil, F.kp⟩
  obtain ⟨p, pl, d, lim, rfl, hP, hpv, hd, qn, q⟩ := h
  obtain ⟨kl, sl, dx, hO⟩ := hP.ex
  have hob := hO.ob
  have hkl := hpv.kl
  have hsl := hpv.sl
  have hln := hpv.ln
  obtain ⟨r, hd1, hd2⟩ := hd.ex
  refine ⟨_, (pss_cons (ps_if (pt_cmpR op_notN (hc (ok_crossed (K := K) T) (hr.mono (by decide)) T.g_crossed pass0 (pa_cons (pv 0) (pa_cons (pv 1) pa_nil))) (pe_non) (nomark _))
      (pss_one (ps_ret (pe_non)))
      pss_nil)
      (pss_cons (ps_set (i := 2) sc_least_missing.nd rfl (Or.inl rfl) (hc (ok_lines_of (K := K) T) (hr.mono (by decide)) T.g_lines_of pass0 (pa_cons (pv 0) pa_nil)))
      (pss_cons (psLockN 1 (ps_setDc (i := 3) (own := [("name", 11)]) (g := (gName 11)) rfl sc_least_missing.nd rfl rfl (sw_dict rfl rfl rfl (by decide +kernel)) (piKeys (pv 1)) (blkOk_by (own := [("name", 11)]) (N := ["plant", "limits", "lines", "flows", "left", "over", "short", "way", "least", "spared", "lots", "name", "knot"]) (sc := defScope s_least_missing) (by decide +kernel)) (fun _ _ _ _ _ => (pg_name (i := 11) sc_least_missing.nd rfl (Or.inl rfl))) (fun _ _ _ _ _ => pts_nil) (fun _ _ _ _ _ => (pv 11)) (fun _ _ _ _ _ => (pe_ix ixT (pe_dget (hu_of hr) (pv 1) (pv 11) (fun _ _ => rfl)) (pe_int) (fun _ _ => rfl)))))
      (pss_cons (psWhl (passes_of rfl) (pt_val (pe_bl))
      (pss_cons (ps_set (i := 4) sc_least_missing.nd rfl (Or.inr rfl) (hc (ok_lacks (K := K) T) (hr.mono (by decide)) T.g_lacks pass0 (pa_cons (pv 0) (pa_cons (pv 3) pa_nil))))
      (pss_cons (ps_setLc (i := 5) (own := [("knot", 12)]) (g := (gName 12)) rfl sc_least_missing.nd rfl rfl (sw_true rfl rfl rfl (by decide +kernel)) (pi_list (hprop (ok_Plant_knots (K := K) T) (hr.mono (by decide)) T.c_Plant T.p_Plant_knots pass0 (pv 0))) (blkOk_by (own := [("knot", 12)]) (N := ["plant", "limits", "lines", "flows", "left", "over", "short", "way", "least", "spared", "lots", "name", "knot"]) (sc := defScope s_least_missing) (by decide +kernel)) (fun _ _ _ _ _ => (pg_name (i := 12) sc_least_missing.nd rfl (Or.inl rfl))) (fun _ _ _ _ _ => (pts_one (pt_cmpR op_gt (pe_dget (hu_of hr) (pv 4) (pv 12) (fun _ _ => rfl)) (pe_int) (nomark _)))) (fun _ _ _ _ _ => (pv 12)))
      (pss_cons (ps_setLc (i := 6) (own := [("knot", 12)]) (g := (gName 12)) rfl sc_least_missing.nd rfl rfl (sw_true rfl rfl rfl (by decide +kernel)) (pi_list (hprop (ok_Plant_knots (K := K) T) (hr.mono (by decide)) T.c_Plant T.p_Plant_knots pass0 (pv 0))) (blkOk_by (own := [("knot", 12)]) (N := ["plant", "limits", "lines", "flows", "left", "over", "short", "way", "least", "spared", "lots", "name", "knot"]) (sc := defScope s_least_missing) (by decide +kernel)) (fun _ _ _ _ _ => (pg_name (i := 12) sc_least_missing.nd rfl (Or.inl rfl))) (fun _ _ _ _ _ => (pts_one (pt_cmpR op_lt (pe_dget (hu_of hr) (pv 4) (pv 12) (fun _ _ => rfl)) (pe_int) (nomark _)))) (fun _ _ _ _ _ => (pv 12)))
      (pss_cons (ps_set (i := 7) sc_least_missing.nd rfl (Or.inl rfl) (hc (ok_way_between (K := K) T) (hr.mono (by decide)) T.g_way_between pass0 (pa_cons (hc (ok_arcs_of (K := K) T) (hr.mono (by decide)) T.g_arcs_of pass0 (pa_cons (pv 2) (pa_cons (pv 1) (pa_cons (pv 3) pa_nil)))) (pa_cons (pv 5) (pa_cons (pv 6) pa_nil)))))
      (pss_cons (ps_if (pt_cmpR op_isN (pv 7) (pe_non) (nomark _))
      (pss_one (ps_break))
      pss_nil)
      (pss_one (ps_expr (hc (ok_p_push (K := K) T) (hr.mono (by decide)) T.g_p_push pass0 (pa_cons (pv 3) (pa_cons (pv 7) (pa_cons (pe_callB (call_min2 rfl) (by rfl) T.b_min (by decide +kernel) (pa_cons (pe_dget (hu_of hr) (pv 4) (pe_ix ixT (pe_ix ixL (pv 7) (pe_int) (fun _ _ => rfl)) (pe_int) (fun _ _ => rfl)) (fun _ _ => rfl)) (pa_cons (pe_un un_neg (pe_dget (hu_of hr) (pv 4) (pe_ix ixT (pe_ix ixL (pv 7) (pe_un un_neg pe_int) (fun _ _ => rfl)) (pe_int) (fun _ _ => rfl)) (fun _ _ => rfl))) pa_nil))) pa_nil))))))))))))
      (pss_cons (ps_set (i := 8) sc_least_missing.nd rfl (Or.inr rfl) (hc (ok_leading_to (K := K) T) (hr.mono (by decide)) T.g_leading_to pass0 (pa_cons (pv 2) (pa_cons (pv 1) (pa_cons (pv 3) (pa_cons (pv 6) pa_nil))))))
      (pss_cons (ps_set (i := 9) sc_least_missing.nd rfl (Or.inr rfl) (hc (ok_led_from (K := K) T) (hr.mono (by decide)) T.g_led_from pass0 (pa_cons (pv 2) (pa_cons (pv 1) (pa_cons (pv 3) (pa_cons (pv 5) pa_nil))))))
      (pss_cons (ps_set (i := 10) sc_least_missing.nd rfl (Or.inl rfl) (pe_lst (pa_cons (pe_lc (own := [("knot", 12)]) (g := (gName 12)) rfl sc_least_missing.nd (pi_list (hprop (ok_Plant_knots (K := K) T) (hr.mono (by decide)) T.c_Plant T.p_Plant_knots pass0 (pv 0))) (blkOk_by (own := [("knot", 12)]) (N := ["plant", "limits", "lines", "flows", "left", "over", "short", "way", "least", "spared", "lots", "name", "knot"]) (sc := defScope s_least_missing) (by decide +kernel)) (fun _ _ _ _ _ => (pg_name (i := 12) sc_least_missing.nd rfl (Or.inl rfl))) (fun _ _ _ _ _ => (pts_one (pt_cmp (pc_din (hu_of hr) (pv 12) (pv 8))))) (fun _ _ _ _ _ => (pv 12))) (pa_cons (pe_lc (own := [("knot", 12)]) (g := (gName 12)) rfl sc_least_missing.nd (pi_list (hprop (ok_Plant_knots (K := K) T) (hr.mono (by decide)) T.c_Plant T.p_Plant_knots pass0 (pv 0))) (blkOk_by (own := [("knot", 12)]) (N := ["plant", "limits", "lines", "flows", "left", "over", "short", "way", "least", "spared", "lots", "name", "knot"]) (sc := defScope s_least_missing) (by decide +kernel)) (fun _ _ _ _ _ => (pg_name (i := 12) sc_least_missing.nd rfl (Or.inl rfl))) (fun _ _ _ _ _ => (pts_one (pt_cmp (pc_dnotin (hu_of hr) (pv 12) (pv 9))))) (fun _ _ _ _ _ => (pv 12))) pa_nil))))
      (pss_one (ps_ret (hmk (ok_Missing_init (K := K) T) (hr.mono (by decide)) T.k_Missing T.g_Missing pass0 (pa_cons (hc (ok_missing_of (K := K) T) (hr.mono (by decide)) T.g_missing_of pass0 (pa_cons (pv 0) (pa_cons (pv 3) pa_nil))) (pa_cons (pv 3) (pa_cons (pe_ix ixL (pv 10) (pe_int) (fun _ _ => rfl)) (pa_cons (pe_ix ixL (pv 10) (pe_int) (fun _ _ => rfl)) pa_nil)))))))))))))), ?_⟩
  walk_at "g"
  · intro H1 s1 hle
    walk_at "g"
    intro H2 ll s2 nll ell
    walk_at "g"
    intro od
    generalize hG : upd H2 d _ = H0
    have e0 := nw_at hG
    have hd12 : H2 d = some (.dK (fdV pl.names fun k => .ref (r k))) := s2 _ _ (s1 _ _ hd1)
    have hr2 : ∀ n ∈ pl.names, H0 (r n) = some (.tup [.int (lim n).1, .int (lim n).2]) := fun n hn => by
      rw [← hG]
      exact lock_ne hd12 (s2 _ _ (s1 _ _ (hd2 n hn))) (fun e => by cases e)
    have s0 : ∀ {H'}, Same H0 H' → Same H2 (upd H' d (.dK (fdV pl.names fun k => .ref (r k)))) := fun s => same_unlock hd12 (hG ▸ s)
    have hfr : ∀ {b}, H0 b = none → H2 b = none := fun h => lock_free (hG ▸ h)
    clear hG
    walk_at "g"
    intro D hD
    refine dcK (fun n => V.int (lim n).1) hpv.nn hD e0 (by omega) (fun n v H' Ky Kn hn s hf hv ky => ?_) (fun H3 s3 e3 => ?_)
    · subst hv
      have u1 : Rd H' d (.dK (fdV pl.names fun k => .ref (r k))) := .inr ⟨_, hf⟩
      have u2 := s _ _ (hr2 n hn)
      walk_at "g"
      exact ky _ (Same.refl _)
    · have f1 := s3 _ _ e0
      have hDd : D ≠ d := (ne_of_none e0 hD).symm
      have sm := s0 s3
      have nD2 : H2 D = none := hfr hD
      generalize hG : upd H3 d _ = H4 at sm
      have e4 : IntD H4 D pl.names (fun n => (lim n).1) := by
        rw [← hG]
        exact at_upd hDd e3
      walk_at "g"
      rw [hG]
      clear hG
      have hlen : (pl.ss.filter fun s => decide (s.tail ≠ s.head)).length ≤ 30 := Nat.le_trans (List.length_filter_le _ _) hsl
      have hln2 : ∀ s ∈ pl.ss.filter (fun s => decide (s.tail ≠ s.head)), s.name ∈ pl.names := fun s hs => List.mem_map.mpr ⟨s, (List.mem_filter.mp hs).1, rfl⟩
      have hd4 : ∀ {H'}, Same H2 H' → PrD H' d pl.names lim := fun s => hd.same (s1.trans (s2.trans s))
      have hll : ∀ {H'}, Same H2 H' → LT lineV H' ll (pl.ss.filter fun s => decide (s.tail ≠ s.head)) := fun s => ell.same s
      refine ⟨whileG (fun m σ H' => Hold (∃ y4 y5 y6 y7 y8 y9 y10 y11 y12, ∃ f : Str → Int, σ = [some (.ref p), some (.ref d), some (.ref ll), some (.ref D), y4, y5, y6, y7, y8, y9, y10, y11, y12] ∧ Same H2 H' ∧ IntD H' D pl.names f ∧ (∀ s ∈ pl.ss, (lim s.name).1 ≤ f s.name ∧ f s.name ≤ (lim s.name).2) ∧ m = (missN pl.knots pl.ss f).toNat)) _
        ⟨none, none, none, none, none, none, none, none, none, fun n => (lim n).1, rfl, sm, e4, fun s hs => ⟨Int.le_refl _, hle _ (List.mem_map.mpr ⟨s, hs, rfl⟩)⟩, rfl⟩ (fun m σ H' h => ?_)⟩
      obtain ⟨y4, y5, y6, y7, y8, y9, y10, y11, y12, f, rfl, t1, t2, t3, rfl⟩ := h.go
      have hP' : IsPl K H' p pl := hP.same (s1.trans (s2.trans t1))
      walk_at "g"
      intro H5 lf s5 nlf elf
      walk_at "g"
      intro H6 k1 s6 _ ek1
      walk_at "g"
      intro Do hDo
      refine lcV (wk_listM (ys := pl.knots) (m := V.str)) (fun k => if net pl.ss f k > 0 then some k else none) V.str hDo (lstOf ek1) (by omega) (fun i x v H7 Ky Kn ex s _ hv ky kn => ?_) (fun H7 s7 e7 => ?_)
      · subst hv
        have hx := List.mem_of_getElem? ex
        have u1 : Rd H7 lf (.dK (fdV pl.knots fun k => .int (net pl.ss f k))) := .inl (s _ _ (s6 _ _ elf))
        walk_at "g"
        refine ite_d (fun c => ?_) (fun c => ?_)
        · walk_at "g"
          exact ky _ _ (Same.refl _) (if_pos c)
        · walk_at "g"
          exact kn _ (Same.refl _) (if_neg c)
      · rw [fm_filter, List.map_id'] at e7
        have e7' : StL H7 Do (pl.knots.filter fun k => decide (net pl.ss f k > 0)) := e7
        walk_at "g"
        intro H8 k2 s8 _ ek2
        walk_at "g"
        intro Ds hDs
        refine lcV (wk_listM (ys := pl.knots) (m := V.str)) (fun k => if net pl.ss f k < 0 then some k else none) V.str hDs (lstOf ek2) (by omega) (fun i x v H9 Ky Kn ex s _ hv ky kn => ?_) (fun H9 s9 e9 => ?_)
        · subst hv
          have hx := List.mem_of_getElem? ex
          have u1 : Rd H9 lf (.dK (fdV pl.knots fun k => .int (net pl.ss f k))) := .inl (s _ _ (s8 _ _ (s7 _ _ (s6 _ _ elf))))
          walk_at "g"
          refine ite_d (fun c => ?_) (fun c => ?_)
          · walk_at "g"
            exact ky _ _ (Same.refl _) (if_pos c)
          · walk_at "g"
            exact kn _ (Same.refl _) (if_neg c)
        · rw [fm_filter, List.map_id'] at e9
          have e9' : StL H9 Ds (pl.knots.filter fun k => decide (net pl.ss f k < 0)) := e9
          have e7'' : StL H9 Do (pl.knots.filter fun k => decide (net pl.ss f k > 0)) := s9 _ _ (s8 _ _ e7')
          have elf9 : IntD H9 lf pl.knots (net pl.ss f) := s9 _ _ (s8 _ _ (s7 _ _ (s6 _ _ elf)))
          have v1 : Same H' H9 := s5.trans (s6.trans (s7.trans (s8.trans s9)))
          have v2 : Same H2 H9 := t1.trans v1
          have v3 := hll v2
          have v4 := hd4 v2
          have v5 : IntD H9 D pl.names f := v1 _ _ t2
          walk_at "g"
          intro H10 ar s10 nar ear
          have w1 : (pl.knots.filter fun k => decide (net pl.ss f k > 0)).Nodup := hpv.kn.filter _
          have w2 : ∀ k ∈ pl.knots.filter (fun k => decide (net pl.ss f k > 0)), k ∈ pl.knots := fun k hk => (List.mem_filter.mp hk).1
          have w3 : ∀ m ∈ arcsOf lim f (pl.ss.filter fun s => decide (s.tail ≠ s.head)), m.head ∈ pl.knots := fun m hm => by
            obtain ⟨s, hs, ⟨_, a⟩, _⟩ := arc_of hm
            have hs := (List.mem_filter.mp hs).1
            rcases a with ⟨_, _, e⟩ | ⟨_, _, e⟩ <;> rw [e]
            · exact hpv.hk s hs
            · exact hpv.tk s hs
          have w4 : (arcsOf lim f (pl.ss.filter fun s => decide (s.tail ≠ s.head))).length ≤ 100 := Nat.le_trans arcs_len (by omega)
          walk_at "g"
          · intro H11 s11 hcl
            have z1 : (pl.knots.filter fun k => decide (net pl.ss f k < 0)).Nodup := hpv.kn.filter _
            have z2 : ∀ k ∈ pl.knots.filter (fun k => decide (net pl.ss f k < 0)), k ∈ pl.knots := fun k hk => (List.mem_filter.mp hk).1
            have z3 : ∀ m ∈ arcsOf lim f (pl.ss.filter fun s => decide (s.tail ≠ s.head)), m.tail ∈ pl.knots := fun m hm => by
              obtain ⟨s, hs, ⟨_, a⟩, _⟩ := arc_of hm
              have hs := (List.mem_filter.mp hs).1
              rcases a with ⟨_, e, _⟩ | ⟨_, e, _⟩ <;> rw [e]
              · exact hpv.tk s hs
              · exact hpv.hk s hs
            have z4 : Same H2 H11 := v2.trans (s10.trans s11)
            have z5 : StL H11 Ds (pl.knots.filter fun k => decide (net pl.ss f k < 0)) := s11 _ _ (s10 _ _ e9')
            have z6 : StL H11 Do (pl.knots.filter fun k => decide (net pl.ss f k > 0)) := s11 _ _ (s10 _ _ e7'')
            have z7 := hll z4
            have z8 := hd4 z4
            have z9 : IntD H11 D pl.names f := s11 _ _ (s10 _ _ v5)
            walk_at "g"
            intro H12 dl R s12 ndl edl r1 r2 r3
            have q1 := hll (z4.trans s12)
            have q2 := hd4 (z4.trans s12)
            have q3 : IntD H12 D pl.names f := s12 _ _ z9
            have q4 : StL H12 Do (pl.knots.filter fun k => decide (net pl.ss f k > 0)) := s12 _ _ z6
            walk_at "g"
            intro H13 dr R2 s13 ndr edr _ _ _
            have hP13 : IsPl K H13 p pl := hP.same (s1.trans (s2.trans (z4.trans (s12.trans s13))))
            have hob13 : H13 p = some (.ins (C_Plant K) dx [("_knots", .ref kl), ("_streams", .ref sl)]) := s13 _ _ (s12 _ _ (z4 _ _ (s2 _ _ (s1 _ _ hob))))
            walk_at "g"
            intro H14 k3 s14 _ ek3
            walk_at "g"
            intro D1 hD1
            refine lcV (wk_listM (ys := pl.knots) (m := V.str)) (fun k => if k ∈ R then some k else none) V.str hD1 (lstOf ek3) (by omega) (fun i x v H15 Ky Kn ex s _ hv ky kn => ?_) (fun H15 s15 e15 => ?_)
            · subst hv
              have u1 : Rd H15 dl (.dK (fdV R fun _ => .bl true)) := .inl (s _ _ (s14 _ _ (s13 _ _ edl)))
              by_cases hk : x ∈ R
              · have u2 : DGet H15 dl (.str x) (some (.bl true)) := dget_fd (g := fun _ => .bl true) u1 hk
                walk_at "g"
                exact ky _ _ (Same.refl _) (if_pos hk)
              · have u2 : DGet H15 dl (.str x) none := dget_fd0 (g := fun _ => .bl true) u1 hk
                walk_at "g"
                exact kn _ (Same.refl _) (if_neg hk)
            · rw [fm_filter, List.map_id'] at e15
              have e15' : StL H15 D1 (pl.knots.filter fun k => decide (k ∈ R)) := e15
              walk_at "g"
              intro H16 k4 s16 _ ek4
              walk_at "g"
              intro D2 hD2
              refine lcV (wk_listM (ys := pl.knots) (m := V.str)) (fun k => if k ∉ R2 then some k else none) V.str hD2 (lstOf ek4) (by omega) (fun i x v H17 Ky Kn ex s _ hv ky kn => ?_) (fun H17 s17 e17 => ?_)
              · subst hv
                have u1 : Rd H17 dr (.dK (fdV R2 fun _ => .bl true)) := .inl (s _ _ (s16 _ _ (s15 _ _ (s14 _ _ edr))))
                by_cases hk : x ∈ R2
                · have u2 : DGet H17 dr (.str x) (some (.bl true)) := dget_fd (g := fun _ => .bl true) u1 hk
                  walk_at "g"
                  exact kn _ (Same.refl _) (if_neg fun z => z hk)
                · have u2 : DGet H17 dr (.str x) none := dget_fd0 (g := fun _ => .bl true) u1 hk
                  walk_at "g"
                  exact ky _ _ (Same.refl _) (if_pos hk)
              · walk_at "g"
                intro lo n_lo; generalize hG : upd H17 lo _ = H18; have s_H18 : Same H17 H18 := nw_same n_lo hG; have e_lo := nw_at hG; clear hG
                have w1 : Same H2 H18 := z4.trans (s12.trans (s13.trans (s14.trans (s15.trans (s16.trans (s17.trans s_H18))))))
                have w2 : IsPl K H18 p pl := hP.same (s1.trans (s2.trans w1))
                have w3 : IntD H18 D pl.names f := s_H18 _ _ (s17 _ _ (s16 _ _ (s15 _ _ (s14 _ _ (s13 _ _ q3)))))
                have w4 : StL H18 D1 (pl.knots.filter fun k => decide (k ∈ R)) := s_H18 _ _ (s17 _ _ (s16 _ _ e15'))
                have w5 := s_H18 _ _ e17
                have at0 : atI [V.ref D1, V.ref D2] (0 : Int) = some (.ref D1) := atI_nat (j := 0) rfl
                have at1 : atI [V.ref D1, V.ref D2] (1 : Int) = some (.ref D2) := atI_nat (j := 1) rfl
                walk_at "g"
                intro H19 s19
                have x3 : H19 D = some (.dK (fdV pl.names fun k => .int (f k))) := s19 _ _ w3
                have x4 : H19 D1 = some (.lst ((pl.knots.filter fun k => decide (k ∈ R)).map .str)) := s19 _ _ w4
                have x5 := s19 _ _ w5
                walk_at "g"
                intro x dxx nx ndx nex
                have f1 : D ≠ x := ne_of_none x3 nx
                have f2 : D ≠ dxx := ne_of_none x3 ndx
                have f3 : D1 ≠ x := ne_of_none x4 nx
                have f4 : D1 ≠ dxx := ne_of_none x4 ndx
                have f5 : D2 ≠ x := ne_of_none x5 nx
                have f6 : D2 ≠ dxx := ne_of_none x5 ndx
                walk_at "g"
                intro H20 d' a' b' sE nd' na' eo ed ea eb
                have zz : Same H H19 := s1.trans (s2.trans (w1.trans s19))
                refine ⟨rfl, q H20 x d' a' (missN pl.knots pl.ss f) f (pl.knots.filter fun k => decide (k ∈ R)) (zz.trans (made nx ndx sE)) hle ⟨⟨dxx, b', eo⟩, ed, ea⟩ (zz.free (upd_none (upd_none nd'))) (zz.free (upd_none (upd_none na')))
                  (fun k hk => (List.mem_filter.mp hk).1) (Nat.le_trans (List.length_filter_le _ _) hkl) ?_ missN_nn (fun e => ⟨fun s hs => (t3 s hs).1, fun s hs => (t3 s hs).2, missN_zero hpv.kn hpv.tk hpv.hk e⟩) (fun e => cut_lack hpv t3 hcl r1 r2 r3 (by omega))⟩
                refine List.filter_congr fun k hk => decide_eq_decide.mpr ⟨fun h => of_decide_eq_true (List.mem_filter.mp h).2, fun h => List.mem_filter.mpr ⟨hk, decide_eq_true h⟩⟩
          · intro H11 wa way s e s11 nwa ewa hs he hw
            have hls : ∀ s ∈ pl.ss.filter (fun s => decide (s.tail ≠ s.head)), s ∈ pl.ss := fun s hs => (List.mem_filter.mp hs).1
            obtain ⟨x1, x2, x3, x4⟩ := chain_names hpv.nn hls hw
            obtain ⟨hsk, hsp⟩ := List.mem_filter.mp hs
            obtain ⟨hek, hep⟩ := List.mem_filter.mp he
            have hsp := of_decide_eq_true hsp
            have hep := of_decide_eq_true hep
            have hse : s ≠ e := fun z => by
              subst z
              omega
            obtain ⟨us, ew1, ew2⟩ := ewa.ex
            obtain ⟨m0, t0, at0, ht0, hm0⟩ : ∃ m0 t0, atI us (0 : Int) = some (.ref t0) ∧ H11 t0 = some (.tup (arcV m0)) ∧ m0.tail = s := by
              cases ew2 with
              | nil => exact absurd hw.ch hse
              | cons r t =>
                obtain ⟨t0, rfl, ht⟩ := r
                exact ⟨_, t0, atI_nat (j := 0) rfl, ht, hw.ch.1⟩
            obtain ⟨m1, t1', at1, ht1, hm1⟩ : ∃ m1 t1, atI us (-1 : Int) = some (.ref t1) ∧ H11 t1 = some (.tup (arcV m1)) ∧ m1.head = e := by
              rcases snoc_cases way with z | ⟨w', m1, z⟩
              · subst z
                exact absurd hw.ch hse
              · subst z
                obtain ⟨us', v, z, t1, e1, h1⟩ := a2_last ew2
                subst z e1
                exact ⟨m1, t1, atI_last _ _, h1, chain_last hw.ch⟩
            have y1 : Rd H11 lf (.dK (fdV pl.knots fun k => .int (net pl.ss f k))) := .inl (s11 _ _ (s10 _ _ elf9))
            have y2 : DGet H11 lf (.str m0.tail) (some (.int (net pl.ss f s))) := by
              rw [hm0]
              exact dget_fd (g := fun k => V.int (net pl.ss f k)) y1 hsk
            have y3 : DGet H11 lf (.str m1.head) (some (.int (net pl.ss f e))) := by
              rw [hm1]
              exact dget_fd (g := fun k => V.int (net pl.ss f k)) y1 hek
            have y4 : IntD H11 D pl.names f := s11 _ _ (s10 _ _ v5)
            have x1' : ∀ m ∈ way, m.name ∈ pl.names := x1
            have x2' : way.length ≤ 100 := by omega
            walk_at "g"
            intro H12 amt hE hI h1 h2 h3
            have n1 : amt ≤ net pl.ss f s := by
              have : amt ≤ if -net pl.ss f e < net pl.ss f s then -net pl.ss f e else net pl.ss f s := h1
              split at this <;> omega
            have n2 : amt ≤ -net pl.ss f e := by
              have : amt ≤ if -net pl.ss f e < net pl.ss f s then -net pl.ss f e else net pl.ss f s := h1
              split at this <;> omega
            have n3 : 0 < amt := by
              rcases h3 with h3 | ⟨m, hm, h3⟩
              · have : amt = if -net pl.ss f e < net pl.ss f s then -net pl.ss f e else net pl.ss f s := h3
                split at this <;> omega
              · have := x4 m hm
                omega
            obtain ⟨k1, k2⟩ := push_ok hpv.nn hls hw (Int.le_of_lt n3) h2 t3
            have k3 := missN_less hpv.kn hek hse n3 n1 n2 k2
            have k4 := @missN_nn pl.knots pl.ss (pushes f amt way)
            walk_at "g"
            exact Dec.of (missN pl.knots pl.ss (pushes f amt way)).toNat (by omega) ⟨_, _, _, _, _, _, _, _, _, pushes f amt way, rfl, sameE_same (v2.trans (s10.trans s11)) nD2 hE, hI, k1, rfl⟩
  · intro H1 n s1 hn hx
    walk_at "g"
    exact qn H1 s1 ⟨n, hn, hx⟩
end
end M
end
-- part W13
section
set_option Elab.async false
set_option linter.all false
set_option maxRecDepth 100000
set_option maxHeartbeats 4000000
namespace M
open PySem PySem.Spec PyProof.Rows L2
local macro_rules | `(tactic| walk_at "e") => `(tactic| (first
  | exact rfl
  | assumption
  | exact upd_same
  | exact flat_strs
  | exact fd_keys
  | ((with_reducible apply same_at); assumption; walk_at "f")
  | ((with_reducible apply at_upd); assumption; walk_at "f")
  | omega))
local macro_rules | `(tactic| walk_at "n") => `(tactic| (first
  | assumption
  | omega
  | exact Nat.le_of_lt (small1000 (by first | assumption | omega))
  | exact (Nat.zero_le _ : 0 ≤ sizeLine)
  | exact (by decide : 1 ≤ sizeLine)
  | exact (by decide : 2 ≤ sizeLine)
  | exact (by decide : 3 ≤ sizeLine)
  | exact (by decide : 5 ≤ sizeLine)
  | exact (by decide : 6 ≤ sizeLine)
  | (show _ < 1000; exact of_decide_eq_true rfl)
  | exact len2 (by omega) (by omega)
  | exact small1000 (by first | assumption | omega)))
local macro_rules | `(tactic| walk_at "f") => `(tactic| (first
  | with_reducible assumption
  | ((with_reducible apply gEq); walk_at "e")
  | ((with_reducible apply gLe); walk_at "n")
  | ((with_reducible apply gLt); walk_at "n")
  | ((with_reducible apply gNot); (first | assumption | omega))
  | with_reducible exact Same.refl _
  | ((with_reducible apply tupOf); walk_at "f")
  | ((with_reducible apply lstOf); walk_at "f")
  | ((with_reducible apply gCls); assumption)
  | ((with_reducible apply gNoAttr); assumption)
  | ((with_reducible apply gIsPl); assumption)
  | ((with_reducible apply gStL); assumption)
  | ((with_reducible apply gIntD); assumption)
  | ((with_reducible apply gSqT); assumption)
  | ((with_reducible apply gSqL); assumption)
  | ((with_reducible apply tyV_l); walk_at "f")
  | ((with_reducible apply Rd.of); walk_at "f")
  | ((with_reducible apply dget_ne); assumption; assumption)
  | ((with_reducible apply dget_fd) <;> walk_at "f")
  | ((with_reducible apply dput_int) <;> walk_at "f")
  | ((with_reducible apply dput_fd) <;> walk_at "f")
  | ((with_reducible apply rd_upd); assumption; walk_at "f")
  | ((with_reducible apply same_put); walk_at "f"; assumption)
  | ((with_reducible apply sx_upd) <;> walk_at "f")
  | ((with_reducible refine Same.trans ?_ (by assumption)); walk_at "f")
  | ((with_reducible apply cmulLg); omega; omega)
  | ((with_reducible apply cmulRg); omega; omega)
  | ((with_reducible apply SameE.upd); walk_at "f")
  | ((with_reducible apply StL.same); assumption; walk_at "f")
  | ((with_reducible apply LT.same); assumption; walk_at "f")
  | ((with_reducible apply IsP.same); assumption; walk_at "f")
  | ((with_reducible apply IsPl.same); assumption; walk_at "f")
  | ((with_reducible apply IntD.same); assumption; walk_at "f")
  | ((with_reducible apply PrD.same); assumption; walk_at "f")
  | ((with_reducible apply Or.inl); walk_at "f")
  | ((with_reducible apply Or.inr); walk_at "f")))
local macro_rules | `(tactic| walk_at "g") => `(tactic| repeat (first
  | with_reducible apply And.intro
  | with_reducible apply Exists.intro
  | walk_at "f"
  | ((with_reducible apply iteT); assumption)
  | ((with_reducible apply iteF); assumption)
  | ((with_reducible apply iteD); (first | assumption | omega))
  | ((with_reducible apply iteN); (first | assumption | omega))
  | ((with_reducible apply iteD2); (first | assumption | omega))
  | ((with_reducible apply iteN2); (first | assumption | omega))
  | apply And.intro
  | apply Exists.intro))
section
variable {P : Program} {w : World} {K : PySem.W.Frag} {mg : Str → Option Value} {base : Heap}
structure RdV (pl : Plt) (rk : List Str) (rf : Str → Int × Int) : Prop where
  nd : rk.Nodup
  inN : ∀ n ∈ rk, n ∈ pl.names
  bd : ∀ n ∈ rk, 0 ≤ (rf n).1 ∧ (rf n).1 ≤ 1000000 ∧ 0 ≤ (rf n).2 ∧ (rf n).2 ≤ 1000000
theorem RdV.ln {pl : Plt} {rk : List Str} {rf : Str → Int × Int} (h : RdV pl rk rf) (p : PV pl) : rk.length ≤ 30 := Nat.le_trans (nodup_le h.nd h.inN) p.ln
def mx (i j : Int) : Int := if j > i then j else i
def mn (i j : Int) : Int := if j < i then j else i
def limS (rk : List Str) (rf : Str → Int × Int) (s : Strm) : Int × Int := if s.name ∈ rk then (mx s.low ((rf s.name).1 - (rf s.name).2), mn s.high ((rf s.name).1 + (rf s.name).2)) else (s.low, s.high)
def sp_check_readings (K : PySem.W.Frag) : Sp := fun vs H Q _ => ∃ p pl d rk rf, vs = [.ref p, .ref d] ∧ IsPl K H p pl ∧ PV pl ∧ PrD H d rk rf ∧ RdV pl rk rf ∧ ∀ H', Same H H' → Q .non H'
theorem sc_check_readings : FnScope ["plant", "readings", "names", "name", "reading", "part"] ["plant", "readings"] (defScope s_check_readings) := ⟨rfl, rfl, rfl, by decide +kernel, rfl, by decide +kernel, by decide +kernel⟩
theorem ok_check_readings (T : Tx K mg) : Has P w K mg base CX0 2 (A_check_readings K) ["plant", "readings"] [] (sp_check_readings K) := by
  obtain ⟨fd, F⟩ := T.F_check_readings
  refine ⟨fd, [], F.ok sc_check_readings (fun vs H Q E h => by
    obtain ⟨_, _, _, _, _, rfl, _⟩ := h
    rfl) (fun cdv A outer s H vs Q E hr h => ?_), F.bindsN (fun _ _ _ _ _ _ us hl => match us, hl with | [_, _], _ => rfl), .nil, F.kp⟩
  obtain ⟨p, pl, d, rk, rf, rfl, hP, hpv, hd, hv, q⟩ := h
  obtain ⟨kl, sl, dx, hO⟩ := hP.ex
  have hob := hO.ob
  have hkl := hpv.kl
  have hsl := hpv.sl
  have hln := hpv.ln
  obtain ⟨r, hd1, hd2⟩ := hd.ex
  have hrl := hv.ln hpv
  have hrl2 : rk.length < 64 := by omega
  refine ⟨_, (pss_cons (ps_set (i := 2) sc_check_readings.nd rfl (Or.inl rfl) (hmeth0 (ok_Plant_stream_names (K := K) T) (hr.mono (by decide)) T.c_Plant T.m_Plant_stream_names pass0 (pv 0)))
      (pss_cons (psFor (passes_of rfl) rfl (pi_list (pe_callB (call_sortedD rfl) (by rfl) T.b_sorted (by decide +kernel) (pa_cons (pv 1) pa_nil))) (pg_name (i := 3) sc_check_readings.nd rfl (Or.inl rfl))
      (pss_one (ps_if (pt_cmpR op_ninSt (pv 3) (pv 2) (by rfl))
      (pss_one (ps_never))
      pss_nil)))
      (pss_one (psFor (passes_of rfl) rfl (pi_list (pe_callB (call_sortedD rfl) (by rfl) T.b_sorted (by decide +kernel) (pa_cons (pv 1) pa_nil))) (pg_name (i := 3) sc_check_readings.nd rfl (Or.inl rfl))
      (pss_cons (ps_set (i := 4) sc_check_readings.nd rfl (Or.inl rfl) (pe_dget (hu_of hr) (pv 1) (pv 3) (fun _ _ => rfl)))
      (pss_one (ps_if (PW.pt (pw_or (pt_cmpR op_ne (pe_callB lenT (by rfl) T.b_len (by decide +kernel) (pa_cons (pv 4) pa_nil)) (pe_int) (nomark _)) (pw_or1 (pt_not (pt_val (pe_callB (allL rfl) (by rfl) T.b_all (by decide +kernel) (pa_cons (pe_lc (own := [("part", 5)]) (g := (gName 5)) rfl sc_check_readings.nd (pi_tup (pv 4)) (blkOk_by (own := [("part", 5)]) (N := ["plant", "readings", "names", "name", "reading", "part"]) (sc := defScope s_check_readings) (by decide +kernel)) (fun _ _ _ _ _ => (pg_name (i := 5) sc_check_readings.nd rfl (Or.inl rfl))) (fun _ _ _ _ _ => pts_nil) (fun _ _ _ _ _ => (pe_chain op_le op_le (pe_int) (pv 5) (pe_gint T.i_MOST_FLOW)))) pa_nil)))))))
      (pss_one (ps_never))
      pss_nil))))))), ?_⟩
  walk_at "g"
  intro H1 a s1 na ea
  have r1 : Rd H1 d (.dK (fdV rk fun k => .ref (r k))) := .inl (s1 _ _ hd1)
  walk_at "g"
  intro ys b p1 _ n_b
  generalize hG : upd H1 b _ = H2; have s_H2 : Same H1 H2 := nw_same n_b hG; have e_b := nw_at hG; clear hG
  walk_at "g"
  refine ⟨forG (wk_listM (ys := ys) (m := V.str)) (fun i σ H' => ∃ y0 y1, σ = [some (.ref p), some (.ref d), some (.ref a), y0, y1, none] ∧ Same H2 H') ⟨none, none, rfl, Same.refl _⟩ (fun i σ H' _ h => ?_) (fun i x v σ H' H'' ex h s5 hv2 => ?_) (fun σ H' h => ?_)⟩
  · obtain ⟨y0, y1, rfl, t1⟩ := h
    exact lstOf (t1 _ _ e_b)
  · obtain ⟨y0, y1, rfl, t1⟩ := h
    subst hv2
    have hm : ¬ x ∉ pl.names := fun z => z (hv.inN x (p1.mem_iff.mp (List.mem_of_getElem? ex)))
    have u0 : Same H2 H'' := t1.trans s5
    have u1 : StL H'' a pl.names := u0 _ _ (s_H2 _ _ ea)
    walk_at "g"
  · obtain ⟨y0, y1, rfl, t1⟩ := h
    have u0 : Same H H' := s1.trans (s_H2.trans t1)
    have r2 : Rd H' d (.dK (fdV rk fun k => .ref (r k))) := .inl (u0 _ _ hd1)
    walk_at "g"
    intro zs c p2 _ n_c
    generalize hG : upd H' c _ = H3; have s_H3 : Same H' H3 := nw_same n_c hG; have e_c := nw_at hG; clear hG
    walk_at "g"
    refine ⟨forG (wk_listM (ys := zs) (m := V.str)) (fun i σ H' => ∃ y0 y1 y2, σ = [some (.ref p), some (.ref d), some (.ref a), y0, y1, y2] ∧ Same H3 H') ⟨y0, y1, none, rfl, Same.refl _⟩ (fun i σ H' _ h => ?_) (fun i x v σ H' H'' ex h s5 hv2 => ?_) (fun σ H' h => ?_)⟩
    · obtain ⟨y0, y1, y2, rfl, t1⟩ := h
      exact lstOf (t1 _ _ e_c)
    · obtain ⟨y0, y1, y2, rfl, t1⟩ := h
      subst hv2
      have hx : x ∈ rk := p2.mem_iff.mp (List.mem_of_getElem? ex)
      obtain ⟨b1, b2, b3, b4⟩ := hv.bd x hx
      have v0 : Same H H'' := u0.trans (s_H3.trans (t1.trans s5))
      have v1 : Rd H'' d (.dK (fdV rk fun k => .ref (r k))) := .inl (v0 _ _ hd1)
      have v2 : H'' (r x) = some (.tup [.int (rf x).1, .int (rf x).2]) := v0 _ _ (hd2 x hx)
      have v3 : Same H3 H'' := t1.trans s5
      walk_at "g"
      intro D hD
      refine lcV (wk_tupM (ys := [(rf x).1, (rf x).2]) (m := V.int)) (fun _ => some true) V.bl hD (tupOf v2) (by show 2 ≤ 1000; decide) (fun i z v H4 Ky Kn ez s4 _ hvz ky kn => ?_) (fun H4 s4 eD => ?_)
      · subst hvz
        have hz : 0 ≤ z ∧ z ≤ 1000000 := by
          rcases List.mem_cons.mp (List.mem_of_getElem? ez) with e | e
          · rw [e]
            exact ⟨b1, b2⟩
          · rw [List.mem_singleton.mp e]
            exact ⟨b3, b4⟩
        obtain ⟨hz1, hz2⟩ := hz
        walk_at "g"
        have e2 : decide (z ≤ 1000000) = true := decide_eq_true hz2
        show Ky (.bl (decide (z ≤ 1000000))) H4
        rw [e2]
        exact ky _ true (Same.refl _) rfl
      · walk_at "g"
    · obtain ⟨y0, y1, y2, rfl, t1⟩ := h
      walk_at "g"
      exact q _ (u0.trans (s_H3.trans t1))
def sp_limits_of (K : PySem.W.Frag) : Sp := fun vs H Q _ => ∃ p pl d rk rf, vs = [.ref p, .ref d] ∧ IsPl K H p pl ∧ PV pl ∧ PrD H d rk rf ∧ RdV pl rk rf ∧ ∀ H' a lim, Same H H' → H a = none → (∀ s ∈ pl.ss, lim s.name = limS rk rf s) → PrD H' a pl.names lim → Q (.ref a) H'
theorem sc_limits_of : FnScope ["plant", "readings", "found", "name", "_", "low", "high", "number", "tolerance"] ["plant", "readings"] (defScope s_limits_of) := ⟨rfl, rfl, rfl, by decide +kernel, rfl, by decide +kernel, by decide +kernel⟩
theorem ok_limits_of (T : Tx K mg) : Has P w K mg base CX0 3 (A_limits_of K) ["plant", "readings"] [] (sp_limits_of K) := by
  obtain ⟨fd, F⟩ := T.F_limits_of
  refine ⟨fd, [], F.ok sc_limits_of (fun vs H Q E h => by
    obtain ⟨_, _, _, _, _, rfl, _⟩ := h
    rfl) (fun cdv A outer s H vs Q E hr h => ?_), F.bindsN (fun _ _ _ _ _ _ us hl => match us, hl with | [_, _], _ => rfl), .nil, F.kp⟩
  obtain ⟨p, pl, d, rk, rf, rfl, hP, hpv, hd, hv, q⟩ := h
  obtain ⟨kl, sl, dx, hO⟩ := hP.ex
  have hob := hO.ob
  have hkl := hpv.kl
  have hsl := hpv.sl
  have hln := hpv.ln
  obtain ⟨r, hd1, hd2⟩ := hd.ex
  refine ⟨_, (pss_cons (ps_expr (hc (ok_check_readings (K := K) T) (hr.mono (by decide)) T.g_check_readings pass0 (pa_cons (pv 0) (pa_cons (pv 1) pa_nil))))
      (pss_cons (ps_set (i := 2) sc_limits_of.nd rfl (Or.inl rfl) (pe_dnewK))
      (pss_cons (psFor (passes_of rfl) rfl (pi_list (hprop (ok_Plant_streams (K := K) T) (hr.mono (by decide)) T.c_Plant T.p_Plant_streams pass0 (pv 0))) (pg_tup (by rfl) (pgs_cons (pg_name (i := 3) sc_limits_of.nd rfl (Or.inl rfl)) (pgs_cons (pg_name (i := 4) sc_limits_of.nd rfl (Or.inl rfl)) (pgs_cons (pg_name (i := 4) sc_limits_of.nd rfl (Or.inl rfl)) (pgs_cons (pg_name (i := 5) sc_limits_of.nd rfl (Or.inl rfl)) (pgs_cons (pg_name (i := 6) sc_limits_of.nd rfl (Or.inl rfl)) pgs_nil))))))
      (pss_cons (psCut (ps_if (pt_cmp (pc_din (hu_of hr) (pv 3) (pv 1)))
      (pss_cons (ps_asg (pe_dget (hu_of hr) (pv 1) (pv 3) (fun _ _ => rfl)) (pg_tup (by rfl) (pgs_cons (pg_name (i := 7) sc_limits_of.nd rfl (Or.inl rfl)) (pgs_cons (pg_name (i := 8) sc_limits_of.nd rfl (Or.inl rfl)) pgs_nil))))
      (pss_cons (ps_set (i := 5) sc_limits_of.nd rfl (Or.inl rfl) (pe_callB (call_max2 rfl) (by rfl) T.b_max (by decide +kernel) (pa_cons (pv 5) (pa_cons (pe_op op_sub (pv 7) (pv 8)) pa_nil))))
      (pss_one (ps_set (i := 6) sc_limits_of.nd rfl (Or.inl rfl) (pe_callB (call_min2 rfl) (by rfl) T.b_min (by decide +kernel) (pa_cons (pv 6) (pa_cons (pe_op op_add (pv 7) (pv 8)) pa_nil)))))))
      pss_nil))
      (pss_one (ps_dput (hu_of hr) (pv 2) (pv 3) (pe_tup (pa_cons (pv 5) (pa_cons (pv 6) pa_nil))) rfl))))
      (pss_one (ps_ret (pv 2)))))), ?_⟩
  walk_at "g"
  intro H1 s1
  walk_at "g"
  intro D n_D; generalize hG : upd H1 D _ = H2; have s_H2 : Same H1 H2 := nw_same n_D hG; have e_D := nw_at hG; clear hG
  have hDH : H D = none := s1.free n_D
  walk_at "g"
  intro H3 a s3 na ea
  obtain ⟨vs, ea1, ea2⟩ := ea.ex
  have e3 := s3 _ _ e_D
  walk_at "g"
  have ndn : ∀ {i : Nat} {x : Strm}, pl.ss[i]? = some x → x.name ∉ (pl.ss.take i).map (·.name) := fun {i x} ex z => by
    obtain ⟨y, hy, e⟩ := List.mem_map.mp z
    obtain ⟨j, hj, ej⟩ := List.mem_take_iff_getElem.mp hy
    have hi := (List.getElem?_eq_some_iff.mp ex).1
    refine List.pairwise_iff_getElem.mp hpv.nn j i (by unfold Plt.names; rw [List.length_map]; omega) (by unfold Plt.names; rw [List.length_map]; exact hi) (by omega) ?_
    unfold Plt.names
    rw [List.getElem_map, List.getElem_map, ej, e, (List.getElem?_eq_some_iff.mp ex).2]
  refine ⟨forG (LT.wk (m := sV) (vs := vs) (xs := pl.ss)) (fun i σ H' => Hold (∃ y3 y4 y5 y6 y7 y8, ∃ lim : Str → Int × Int, σ = [some (.ref p), some (.ref d), some (.ref D), y3, y4, y5, y6, y7, y8] ∧ Same H H' ∧ SameX ND H3 H' ∧ (∀ s ∈ pl.ss.take i, lim s.name = limS rk rf s) ∧ PrD H' D ((pl.ss.take i).map (·.name)) lim)) ⟨none, none, none, none, none, none, fun _ => (0, 0), rfl, s1.trans (s_H2.trans s3), SameX.refl, fun s h => (nomatch h), ⟨fun _ => 0, e3, fun k h => (nomatch h)⟩⟩ (fun i σ H' _ h => ?_) (fun i x v σ H' H'' ex h s5 hv2 => ?_) (fun σ H' h => ?_)⟩
  · obtain ⟨y3, y4, y5, y6, y7, y8, lim, rfl, t1, t2, t3, t4⟩ := h.go
    exact ⟨lstOf (t2 _ _ (fun ys e => by cases e) ea1), A2.sx t2 ea2⟩
  · obtain ⟨y3, y4, y5, y6, y7, y8, lim, rfl, t1, t2, t3, t4⟩ := h.go
    obtain ⟨t, rfl, ht⟩ := hv2
    obtain ⟨rr, g1, g2⟩ := t4.ex
    have u1 : Same H H'' := t1.trans s5
    have u2 : SameX ND H3 H'' := t2.trans (.of s5)
    have g3 := s5 _ _ g1
    have hxN := ndn ex
    have hlt : ((pl.ss.take i).map (·.name)).length ≤ 1000 := by
      rw [List.length_map, List.length_take]
      omega
    walk_at "g"
    refine Cut.of (fun σ H4 => ∃ y7 y8, σ = [some (.ref p), some (.ref d), some (.ref D), some (.str x.name), some (.str x.head), some (.int (limS rk rf x).1), some (.int (limS rk rf x).2), y7, y8] ∧ H4 = H'') ?_ (fun σ H4 h2 => ?_)
    · by_cases hk : x.name ∈ rk
      · have v1 : DGet H'' d (.str x.name) (some (.ref (r x.name))) := dget_fd (g := fun k => V.ref (r k)) (.inl (u1 _ _ hd1)) hk
        have v2 : H'' (r x.name) = some (.tup [.int (rf x.name).1, .int (rf x.name).2]) := u1 _ _ (hd2 _ hk)
        have el : limS rk rf x = (mx x.low ((rf x.name).1 - (rf x.name).2), mn x.high ((rf x.name).1 + (rf x.name).2)) := if_pos hk
        rw [el]
        walk_at "g"
      · have v1 : DGet H'' d (.str x.name) none := dget_fd0 (g := fun k => V.ref (r k)) (.inl (u1 _ _ hd1)) hk
        have el : limS rk rf x = (x.low, x.high) := if_neg hk
        rw [el]
        walk_at "g"
    · obtain ⟨y7, y8, rfl, rfl⟩ := h2
      walk_at "g"
      intro t2 n_t2; generalize hG : upd H4 t2 _ = H5; have s_H5 : Same H4 H5 := nw_same n_t2 hG; have e_t2 := nw_at hG; clear hG
      have g4 : H5 D = some (.dK (fdV ((pl.ss.take i).map (·.name)) fun k => .ref (rr k))) := s_H5 _ _ g3
      have g5 := dput_new (v := .ref t2) g4 hxN hlt
      walk_at "g"
      have ht2D : t2 ≠ D := ne_at e_t2 g4 (fun e => by cases e)
      refine ⟨_, _, _, _, _, _, up lim x.name (limS rk rf x), rfl, same_put (u1.trans s_H5) hDH, sx_upd (u2.trans (.of s_H5)) g4, fun s hs => ?_, ⟨up rr x.name t2, ?_, fun k hk => ?_⟩⟩
      · rw [take_snoc ex] at hs
        rcases List.mem_append.mp hs with hs | hs
        · rw [up_ne fun e => hxN (List.mem_map.mpr ⟨s, hs, e⟩)]
          exact t3 s hs
        · rw [List.mem_singleton.mp hs, up_same]
      · rw [upd_same, take_snoc ex, List.map_append, up_ref]
        rfl
      · rw [take_snoc ex, List.map_append] at hk
        rcases List.mem_append.mp hk with hk | hk
        · have ne : k ≠ x.name := fun e => hxN (e ▸ hk)
          rw [up_ne ne, up_ne ne]
          have := s_H5 _ _ (s5 _ _ (g2 k hk))
          exact at_upd (ne_at this g4 (fun e => by cases e)) this
        · have e : k = x.name := List.mem_singleton.mp hk
          rw [e, up_same, up_same]
          exact at_upd ht2D e_t2
  · obtain ⟨y3, y4, y5, y6, y7, y8, lim, rfl, t1, t2, t3, t4⟩ := h.go
    rw [List.take_length] at t3 t4
    walk_at "g"
    exact q _ D lim t1 hDH t3 t4
end
end M
end
-- part W14
section
set_option Elab.async false
set_option linter.all false
set_option maxRecDepth 100000
set_option maxHeartbeats 4000000
namespace M
open PySem PySem.Spec PyProof.Rows L2
local macro_rules | `(tactic| walk_at "e") => `(tactic| (first
  | exact rfl
  | assumption
  | exact upd_same
  | exact flat_strs
  | exact fd_keys
  | ((with_reducible apply same_at); assumption; walk_at "f")
  | ((with_reducible apply at_upd); assumption; walk_at "f")
  | omega))
local macro_rules | `(tactic| walk_at "n") => `(tactic| (first
  | assumption
  | omega
  | exact Nat.le_of_lt (small1000 (by first | assumption | omega))
  | exact (Nat.zero_le _ : 0 ≤ sizeLine)
  | exact (by decide : 1 ≤ sizeLine)
  | exact (by decide : 2 ≤ sizeLine)
  | exact (by decide : 3 ≤ sizeLine)
  | exact (by decide : 5 ≤ sizeLine)
  | exact (by decide : 6 ≤ sizeLine)
  | (show _ < 1000; exact of_decide_eq_true rfl)
  | exact len2 (by omega) (by omega)
  | exact small1000 (by first | assumption | omega)))
local macro_rules | `(tactic| walk_at "f") => `(tactic| (first
  | with_reducible assumption
  | ((with_reducible apply gEq); walk_at "e")
  | ((with_reducible apply gLe); walk_at "n")
  | ((with_reducible apply gLt); walk_at "n")
  | ((with_reducible apply gNot); (first | assumption | omega))
  | with_reducible exact Same.refl _
  | ((with_reducible apply tupOf); walk_at "f")
  | ((with_reducible apply lstOf); walk_at "f")
  | ((with_reducible apply gCls); assumption)
  | ((with_reducible apply gNoAttr); assumption)
  | ((with_reducible apply gIsPl); assumption)
  | ((with_reducible apply gStL); assumption)
  | ((with_reducible apply gIntD); assumption)
  | ((with_reducible apply gSqT); assumption)
  | ((with_reducible apply gSqL); assumption)
  | ((with_reducible apply tyV_l); walk_at "f")
  | ((with_reducible apply Rd.of); walk_at "f")
  | ((with_reducible apply dget_ne); assumption; assumption)
  | ((with_reducible apply dget_fd) <;> walk_at "f")
  | ((with_reducible apply dput_int) <;> walk_at "f")
  | ((with_reducible apply dput_fd) <;> walk_at "f")
  | ((with_reducible apply rd_upd); assumption; walk_at "f")
  | ((with_reducible apply same_put); walk_at "f"; assumption)
  | ((with_reducible apply sx_upd) <;> walk_at "f")
  | ((with_reducible refine Same.trans ?_ (by assumption)); walk_at "f")
  | ((with_reducible apply cmulLg); omega; omega)
  | ((with_reducible apply cmulRg); omega; omega)
  | ((with_reducible apply SameE.upd); walk_at "f")
  | ((with_reducible apply StL.same); assumption; walk_at "f")
  | ((with_reducible apply LT.same); assumption; walk_at "f")
  | ((with_reducible apply IsP.same); assumption; walk_at "f")
  | ((with_reducible apply IsPl.same); assumption; walk_at "f")
  | ((with_reducible apply IntD.same); assumption; walk_at "f")
  | ((with_reducible apply PrD.same); assumption; walk_at "f")
  | ((with_reducible apply Or.inl); walk_at "f")
  | ((with_reducible apply Or.inr); walk_at "f")))
local macro_rules | `(tactic| walk_at "g") => `(tactic| repeat (first
  | with_reducible apply And.intro
  | with_reducible apply Exists.intro
  | walk_at "f"
  | ((with_reducible apply iteT); assumption)
  | ((with_reducible apply iteF); assumption)
  | ((with_reducible apply iteD); (first | assumption | omega))
  | ((with_reducible apply iteN); (first | assumption | omega))
  | ((with_reducible apply iteD2); (first | assumption | omega))
  | ((with_reducible apply iteN2); (first | assumption | omega))
  | apply And.intro
  | apply Exists.intro))
section
variable {P : Program} {w : World} {K : PySem.W.Frag} {mg : Str → Option Value} {base : Heap}
theorem feas_le {pl : Plt} {lim : Str → Int × Int} {f : Str → Int} (h : Feas pl.knots pl.ss lim f) : ¬ ∃ n ∈ pl.names, (lim n).2 < (lim n).1 := fun ⟨n, hn, hx⟩ => by
  obtain ⟨s, hs, rfl⟩ := List.mem_map.mp hn
  have h1 := h.lo s hs
  have h2 := h.hi s hs
  omega
def sp_flows_within (K : PySem.W.Frag) : Sp := fun vs H Q _ => ∃ p pl d lim, vs = [.ref p, .ref d] ∧ IsPl K H p pl ∧ PV pl ∧ PrD H d pl.names lim ∧
  (∀ H', Same H H' → (¬ ∃ f, Feas pl.knots pl.ss lim f) → Q .non H') ∧ ∀ H' a f, Same H H' → H a = none → IntD H' a pl.names f → Feas pl.knots pl.ss lim f → Q (.ref a) H'
theorem sc_flows_within : FnScope ["plant", "limits", "found"] ["plant", "limits"] (defScope s_flows_within) := ⟨rfl, rfl, rfl, by decide +kernel, rfl, by decide +kernel, by decide +kernel⟩
theorem ok_flows_within (T : Tx K mg) : Has P w K mg base CX0 7 (A_flows_within K) ["plant", "limits"] [] (sp_flows_within K) := by
  obtain ⟨fd, F⟩ := T.F_flows_within
  refine ⟨fd, [], F.ok sc_flows_within (fun vs H Q E h => by
    obtain ⟨_, _, _, _, rfl, _⟩ := h
    rfl) (fun cdv A outer s H vs Q E hr h => ?_), F.bindsN (fun _ _ _ _ _ _ us hl => match us, hl with | [_, _], _ => rfl), .nil, F.kp⟩
  obtain ⟨p, pl, d, lim, rfl, hP, hpv, hd, qn, q⟩ := h
  have k1 := T.c_Missing
  refine ⟨_, (pss_cons (ps_set (i := 2) sc_flows_within.nd rfl (Or.inl rfl) (hc (ok_least_missing (K := K) T) (hr.mono (by decide)) T.g_least_missing pass0 (pa_cons (pv 0) (pa_cons (pv 1) pa_nil))))
      (pss_cons (ps_if (PW.pt (pw_or (pt_cmpR op_isN (pv 2) (pe_non) (nomark _)) (pw_or1 (pt_cmpR op_gt (fld T.c_Missing T.n_Missing_number (pv 2)) (pe_int) (nomark _)))))
      (pss_one (ps_ret (pe_non)))
      pss_nil)
      (pss_one (ps_ret (fld T.c_Missing T.n_Missing_flows (pv 2)))))), ?_⟩
  walk_at "g"
  · intro H1 s1 hc
    walk_at "g"
    exact qn H1 s1 fun ⟨f, hf⟩ => feas_le hf hc
  · intro H1 x df a num f L s1 hle hm ndf _ hLk _ hLf hn0 hnz hnp
    obtain ⟨dx, b, ho⟩ := hm.ob
    have hni : ¬ V.ref x = V.non := fun e => by cases e
    walk_at "g"
    refine ite_d (fun c => ?_) (fun c => ?_)
    · walk_at "g"
      exact qn H1 s1 fun ⟨f', hf'⟩ => by
        have := lack_infeasible (L := L) (hLf ▸ hpv.kn.filter _) hLk hf'
        have := hnp c
        omega
    · walk_at "g"
      exact q H1 df f s1 ndf hm.fl (hnz (by omega))
inductive Pap
  | str (n : Str)
  | lot (L : List Str)
structure PapH (H : Hp) (t : Addr) (pl : Plt) (pa : Pap) : Prop where
  s : ∀ n, pa = .str n → H t = some (.tup [.str "stream", .str n]) ∧ n ∈ pl.names
  l : ∀ L, pa = .lot L → ∃ a, H t = some (.tup [.str "lot", .ref a]) ∧ StL H a L ∧ (∀ k ∈ L, k ∈ pl.knots) ∧ L.length ≤ 24 ∧ (pl.knots.filter fun k => decide (k ∈ L)) = L
def papTrue (pl : Plt) (lim : Str → Int × Int) : Pap → Prop
  | .str n => (lim n).2 < (lim n).1
  | .lot L => 0 < lackL pl.ss lim L
def papB (pl : Plt) (lim : Str → Int × Int) : Pap → Bool
  | .str n => decide ((lim n).2 < (lim n).1)
  | .lot L => decide (0 < lackL pl.ss lim L)
theorem PapH.same {H H' : Hp} {t : Addr} {pl : Plt} {pa : Pap} (s : Same H H') (h : PapH H t pl pa) : PapH H' t pl pa :=
  ⟨fun n e => ⟨s _ _ (h.s n e).1, (h.s n e).2⟩, fun L e => by
    obtain ⟨a, h1, h2, h3⟩ := h.l L e
    exact ⟨a, s _ _ h1, s _ _ h2, h3⟩⟩
def sp_paper_within (K : PySem.W.Frag) : Sp := fun vs H Q _ => ∃ p pl d lim, vs = [.ref p, .ref d] ∧ IsPl K H p pl ∧ PV pl ∧ PrD H d pl.names lim ∧
  (∀ H', Same H H' → (∃ f, Feas pl.knots pl.ss lim f) → Q .non H') ∧ ∀ H' t pa, Same H H' → H t = none → PapH H' t pl pa → papTrue pl lim pa → Q (.ref t) H'
theorem sc_paper_within : FnScope ["plant", "limits", "name", "found"] ["plant", "limits"] (defScope s_paper_within) := ⟨rfl, rfl, rfl, by decide +kernel, rfl, by decide +kernel, by decide +kernel⟩
theorem ok_paper_within (T : Tx K mg) : Has P w K mg base CX0 7 (A_paper_within K) ["plant", "limits"] [] (sp_paper_within K) := by
  obtain ⟨fd, F⟩ := T.F_paper_within
  refine ⟨fd, [], F.ok sc_paper_within (fun vs H Q E h => by
    obtain ⟨_, _, _, _, rfl, _⟩ := h
    rfl) (fun cdv A outer s H vs Q E hr h => ?_), F.bindsN (fun _ _ _ _ _ _ us hl => match us, hl with | [_, _], _ => rfl), .nil, F.kp⟩
  obtain ⟨p, pl, d, lim, rfl, hP, hpv, hd, qn, q⟩ := h
  have k1 := T.c_Missing
  refine ⟨_, (pss_cons (ps_set (i := 2) sc_paper_within.nd rfl (Or.inl rfl) (hc (ok_crossed (K := K) T) (hr.mono (by decide)) T.g_crossed pass0 (pa_cons (pv 0) (pa_cons (pv 1) pa_nil))))
      (pss_cons (ps_if (pt_cmpR op_notN (pv 2) (pe_non) (nomark _))
      (pss_one (ps_ret (pe_tup (pa_cons (pe_gstr T.i_STREAM) (pa_cons (pv 2) pa_nil)))))
      pss_nil)
      (pss_cons (ps_set (i := 3) sc_paper_within.nd rfl (Or.inl rfl) (hc (ok_least_missing (K := K) T) (hr.mono (by decide)) T.g_least_missing pass0 (pa_cons (pv 0) (pa_cons (pv 1) pa_nil))))
      (pss_cons (ps_if (pt_cmpR op_eq (fld T.c_Missing T.n_Missing_number (pv 3)) (pe_int) (nomark _))
      (pss_one (ps_ret (pe_non)))
      pss_nil)
      (pss_one (ps_ret (pe_tup (pa_cons (pe_gstr T.i_LOT) (pa_cons (fld T.c_Missing T.n_Missing_least (pv 3)) pa_nil))))))))), ?_⟩
  walk_at "g"
  · intro H1 s1 hle
    walk_at "g"
    · intro H2 s2 hc
      exfalso
      obtain ⟨n, hn, hx⟩ := hc
      have := hle n hn
      omega
    · intro H2 x df a num f L s2 _ hm ndf na hLk hLl hLf hn0 hnz hnp
      obtain ⟨dx, b, ho⟩ := hm.ob
      walk_at "g"
      refine ite_d (fun c => ?_) (fun c => ?_)
      · walk_at "g"
        exact qn H2 (s1.trans s2) ⟨f, hnz (V.int.inj c)⟩
      · have c' : 0 < num := by
          have : num ≠ 0 := fun z => c (congrArg V.int z)
          omega
        walk_at "g"
        intro t n_t; generalize hG : upd H2 t _ = H3; have s_H3 : Same H2 H3 := nw_same n_t hG; have e_t := nw_at hG; clear hG
        exact q H3 t (.lot L) (s1.trans (s2.trans s_H3)) ((s1.trans s2).free n_t) ⟨fun n e => (nomatch e), fun L' e => by
          have := Pap.lot.inj e
          subst this
          exact ⟨a, e_t, s_H3 _ _ hm.le, hLk, hLl, hLf⟩⟩ (hnp c')
  · intro H1 n s1 hn hx
    walk_at "g"
    intro t n_t; generalize hG : upd H1 t _ = H2; have s_H2 : Same H1 H2 := nw_same n_t hG; have e_t := nw_at hG; clear hG
    exact q H2 t (.str n) (s1.trans s_H2) (s1.free n_t) ⟨fun n' e => by
      have := Pap.str.inj e
      subst this
      exact ⟨e_t, hn⟩, fun L e => (nomatch e)⟩ hx
def sp_shows_none (K : PySem.W.Frag) : Sp := fun vs H Q _ => ∃ p pl d lim t pa, vs = [.ref p, .ref d, .ref t] ∧ IsPl K H p pl ∧ PV pl ∧ PrD H d pl.names lim ∧ PapH H t pl pa ∧ ∀ H', Same H H' → Q (.bl (papB pl lim pa)) H'
theorem sc_shows_none : FnScope ["plant", "limits", "paper", "word", "told"] ["plant", "limits", "paper"] (defScope s_shows_none) := ⟨rfl, rfl, rfl, by decide +kernel, rfl, by decide +kernel, by decide +kernel⟩
theorem ok_shows_none (T : Tx K mg) : Has P w K mg base CX0 6 (A_shows_none K) ["plant", "limits", "paper"] [] (sp_shows_none K) := by
  obtain ⟨fd, F⟩ := T.F_shows_none
  refine ⟨fd, [], F.ok sc_shows_none (fun vs H Q E h => by
    obtain ⟨_, _, _, _, _, _, rfl, _⟩ := h
    rfl) (fun cdv A outer s H vs Q E hr h => ?_), F.bindsN (fun _ _ _ _ _ _ us hl => match us, hl with | [_, _, _], _ => rfl), .nil, F.kp⟩
  obtain ⟨p, pl, d, lim, t, pa, rfl, hP, hpv, hd, hpa, q⟩ := h
  obtain ⟨r, hd1, hd2⟩ := hd.ex
  refine ⟨_, (pss_cons (ps_expr (hc (ok_crossed (K := K) T) (hr.mono (by decide)) T.g_crossed pass0 (pa_cons (pv 0) (pa_cons (pv 1) pa_nil))))
      (pss_cons (ps_asg (pv 2) (pg_tup (by rfl) (pgs_cons (pg_name (i := 3) sc_shows_none.nd rfl (Or.inl rfl)) (pgs_cons (pg_name (i := 4) sc_shows_none.nd rfl (Or.inl rfl)) pgs_nil))))
      (pss_cons (ps_if (pt_cmpR op_eq (pv 3) (pe_gstr T.i_STREAM) (nomark _))
      (pss_one (ps_ret (pe_and (pe_cmp (pc_din (hu_of hr) (pv 4) (pv 1)) rfl) (pe_one (pe_cmpR op_gt (pe_ix ixT (pe_dget (hu_of hr) (pv 1) (pv 4) (fun _ _ => rfl)) (pe_int) (fun _ _ => rfl)) (pe_ix ixT (pe_dget (hu_of hr) (pv 1) (pv 4) (fun _ _ => rfl)) (pe_int) (fun _ _ => rfl)) (nomark _))))))
      pss_nil)
      (pss_one (ps_ret (pe_and (hc (ok_is_lot (K := K) T) (hr.mono (by decide)) T.g_is_lot pass0 (pa_cons (pv 0) (pa_cons (pv 4) pa_nil))) (pe_one (pe_cmpR op_gt (hc (ok_lack_of (K := K) T) (hr.mono (by decide)) T.g_lack_of pass0 (pa_cons (pv 0) (pa_cons (pv 1) (pa_cons (pv 4) pa_nil)))) (pe_int) (nomark _))))))))), ?_⟩
  walk_at "g"
  · intro H1 s1 _
    have hd1' : Rd H1 d (.dK (fdV pl.names fun k => .ref (r k))) := .inl (s1 _ _ hd1)
    have hP1 := hP.same s1
    have hD1 := hd.same s1
    cases pa with
    | str n =>
      obtain ⟨ht, hn⟩ := hpa.s n rfl
      have ht1 := s1 _ _ ht
      have e1 : V.str "stream" = V.str "stream" := rfl
      have g1 : DGet H1 d (.str n) (some (.ref (r n))) := dget_fd (g := fun k => V.ref (r k)) hd1' hn
      have g2 := s1 _ _ (hd2 n hn)
      walk_at "g"
      exact q H1 s1
    | lot L =>
      obtain ⟨a, ht, ha, hLk, hLl, hLf⟩ := hpa.l L rfl
      have ht1 := s1 _ _ ht
      have ha1 : StL H1 a L := s1 _ _ ha
      have e1 : ¬ V.str "lot" = V.str "stream" := fun e => absurd (V.str.inj e) (by decide)
      walk_at "g"
      intro H2 s2
      have hD2 := hD1.same s2
      have hP2 := hP1.same s2
      walk_at "g"
      intro H3 s3
      walk_at "g"
      exact q H3 (s1.trans (s2.trans s3))
  · intro H1 n0 s1 _ _
    have hd1' : Rd H1 d (.dK (fdV pl.names fun k => .ref (r k))) := .inl (s1 _ _ hd1)
    have hP1 := hP.same s1
    have hD1 := hd.same s1
    cases pa with
    | str n =>
      obtain ⟨ht, hn⟩ := hpa.s n rfl
      have ht1 := s1 _ _ ht
      have e1 : V.str "stream" = V.str "stream" := rfl
      have g1 : DGet H1 d (.str n) (some (.ref (r n))) := dget_fd (g := fun k => V.ref (r k)) hd1' hn
      have g2 := s1 _ _ (hd2 n hn)
      walk_at "g"
      exact q H1 s1
    | lot L =>
      obtain ⟨a, ht, ha, hLk, hLl, hLf⟩ := hpa.l L rfl
      have ht1 := s1 _ _ ht
      have ha1 : StL H1 a L := s1 _ _ ha
      have e1 : ¬ V.str "lot" = V.str "stream" := fun e => absurd (V.str.inj e) (by decide)
      walk_at "g"
      intro H2 s2
      have hD2 := hD1.same s2
      have hP2 := hP1.same s2
      walk_at "g"
      intro H3 s3
      walk_at "g"
      exact q H3 (s1.trans (s2.trans s3))
def sp_flows_of (K : PySem.W.Frag) : Sp := fun vs H Q _ => ∃ p pl d rk rf, vs = [.ref p, .ref d] ∧ IsPl K H p pl ∧ PV pl ∧ PrD H d rk rf ∧ RdV pl rk rf ∧
  ∀ lim, (∀ s ∈ pl.ss, lim s.name = limS rk rf s) → (∀ H', Same H H' → (¬ ∃ f, Feas pl.knots pl.ss lim f) → Q .non H') ∧ ∀ H' a f, Same H H' → Feas pl.knots pl.ss lim f → Q (.ref a) H'
theorem sc_flows_of : FnScope ["plant", "readings"] ["plant", "readings"] (defScope s_flows_of) := ⟨rfl, rfl, rfl, by decide +kernel, rfl, by decide +kernel, by decide +kernel⟩
theorem ok_flows_of (T : Tx K mg) : Has P w K mg base CX0 8 (A_flows_of K) ["plant", "readings"] [] (sp_flows_of K) := by
  obtain ⟨fd, F⟩ := T.F_flows_of
  refine ⟨fd, [], F.ok sc_flows_of (fun vs H Q E h => by
    obtain ⟨_, _, _, _, _, rfl, _⟩ := h
    rfl) (fun cdv A outer s H vs Q E hr h => ?_), F.bindsN (fun _ _ _ _ _ _ us hl => match us, hl with | [_, _], _ => rfl), .nil, F.kp⟩
  obtain ⟨p, pl, d, rk, rf, rfl, hP, hpv, hd, hv, q⟩ := h
  refine ⟨_, (pss_one (ps_ret (hc (ok_flows_within (K := K) T) (hr.mono (by decide)) T.g_flows_within pass0 (pa_cons (pv 0) (pa_cons (hc (ok_limits_of (K := K) T) (hr.mono (by decide)) T.g_limits_of pass0 (pa_cons (pv 0) (pa_cons (pv 1) pa_nil))) pa_nil))))), ?_⟩
  walk_at "g"
  intro H1 a lim s1 na hl hL
  obtain ⟨qn, q⟩ := q lim hl
  have hP1 := hP.same s1
  walk_at "g"
  · intro H2 s2 hn
    exact qn H2 (s1.trans s2) hn
  · intro H2 a f s2 _ _ hf
    exact q H2 a f (s1.trans s2) hf
end
end M
end
-- part W15
section
set_option Elab.async false
set_option linter.all false
set_option maxRecDepth 100000
set_option maxHeartbeats 4000000
namespace M
open PySem PySem.Spec PyProof.Rows L2
local macro_rules | `(tactic| walk_at "e") => `(tactic| (first
  | exact rfl
  | assumption
  | exact upd_same
  | exact flat_strs
  | exact fd_keys
  | ((with_reducible apply same_at); assumption; walk_at "f")
  | ((with_reducible apply at_upd); assumption; walk_at "f")
  | omega))
local macro_rules | `(tactic| walk_at "n") => `(tactic| (first
  | assumption
  | omega
  | exact Nat.le_of_lt (small1000 (by first | assumption | omega))
  | exact (Nat.zero_le _ : 0 ≤ sizeLine)
  | exact (by decide : 1 ≤ sizeLine)
  | exact (by decide : 2 ≤ sizeLine)
  | exact (by decide : 3 ≤ sizeLine)
  | exact (by decide : 5 ≤ sizeLine)
  | exact (by decide : 6 ≤ sizeLine)
  | (show _ < 1000; exact of_decide_eq_true rfl)
  | exact len2 (by omega) (by omega)
  | exact small1000 (by first | assumption | omega)))
local macro_rules | `(tactic| walk_at "f") => `(tactic| (first
  | with_reducible assumption
  | ((with_reducible apply gEq); walk_at "e")
  | ((with_reducible apply gLe); walk_at "n")
  | ((with_reducible apply gLt); walk_at "n")
  | ((with_reducible apply gNot); (first | assumption | omega))
  | with_reducible exact Same.refl _
  | ((with_reducible apply tupOf); walk_at "f")
  | ((with_reducible apply lstOf); walk_at "f")
  | ((with_reducible apply gCls); assumption)
  | ((with_reducible apply gNoAttr); assumption)
  | ((with_reducible apply gIsPl); assumption)
  | ((with_reducible apply gStL); assumption)
  | ((with_reducible apply gIntD); assumption)
  | ((with_reducible apply gSqT); assumption)
  | ((with_reducible apply gSqL); assumption)
  | ((with_reducible apply tyV_l); walk_at "f")
  | ((with_reducible apply Rd.of); walk_at "f")
  | ((with_reducible apply dget_ne); assumption; assumption)
  | ((with_reducible apply dget_fd) <;> walk_at "f")
  | ((with_reducible apply dput_int) <;> walk_at "f")
  | ((with_reducible apply dput_fd) <;> walk_at "f")
  | ((with_reducible apply rd_upd); assumption; walk_at "f")
  | ((with_reducible apply same_put); walk_at "f"; assumption)
  | ((with_reducible apply sx_upd) <;> walk_at "f")
  | ((with_reducible refine Same.trans ?_ (by assumption)); walk_at "f")
  | ((with_reducible apply cmulLg); omega; omega)
  | ((with_reducible apply cmulRg); omega; omega)
  | ((with_reducible apply SameE.upd); walk_at "f")
  | ((with_reducible apply StL.same); assumption; walk_at "f")
  | ((with_reducible apply LT.same); assumption; walk_at "f")
  | ((with_reducible apply IsP.same); assumption; walk_at "f")
  | ((with_reducible apply IsPl.same); assumption; walk_at "f")
  | ((with_reducible apply IntD.same); assumption; walk_at "f")
  | ((with_reducible apply PrD.same); assumption; walk_at "f")
  | ((with_reducible apply Or.inl); walk_at "f")
  | ((with_reducible apply Or.inr); walk_at "f")))
local macro_rules | `(tactic| walk_at "g") => `(tactic| repeat (first
  | with_reducible apply And.intro
  | with_reducible apply Exists.intro
  | walk_at "f"
  | ((with_reducible apply iteT); assumption)
  | ((with_reducible apply iteF); assumption)
  | ((with_reducible apply iteD); (first | assumption | omega))
  | ((with_reducible apply iteN); (first | assumption | omega))
  | ((with_reducible apply iteD2); (first | assumption | omega))
  | ((with_reducible apply iteN2); (first | assumption | omega))
  | apply And.intro
  | apply Exists.intro))
section
variable {P : Program} {w : World} {K : PySem.W.Frag} {mg : Str → Option Value} {base : Heap}
theorem ov_eq (r : Int × Int) (f : Int) : (if (if f - r.1 < 0 then -(f - r.1) else f - r.1) - r.2 > 0 then (if f - r.1 < 0 then -(f - r.1) else f - r.1) - r.2 else 0) = ov r f := by
  unfold ov
  rw [Int.max_def]
  split <;> split <;> split <;> omega
def sp_overstep (K : PySem.W.Frag) : Sp := fun vs H Q _ => ∃ a r f, vs = [.ref a, .int f] ∧ H a = some (.tup [.int r.1, .int r.2]) ∧ Q (.int (ov r f)) H
theorem sc_overstep : FnScope ["reading", "flow", "number", "tolerance"] ["reading", "flow"] (defScope s_overstep) := ⟨rfl, rfl, rfl, by decide +kernel, rfl, by decide +kernel, by decide +kernel⟩
theorem ok_overstep (T : Tx K mg) : Has P w K mg base CX0 1 (A_overstep K) ["reading", "flow"] [] (sp_overstep K) := by
  obtain ⟨fd, F⟩ := T.F_overstep
  refine ⟨fd, [], F.ok sc_overstep (fun vs H Q E h => by
    obtain ⟨_, _, _, rfl, _⟩ := h
    rfl) (fun cdv A outer s H vs Q E hr h => ?_), F.bindsN (fun _ _ _ _ _ _ us hl => match us, hl with | [_, _], _ => rfl), .nil, F.kp⟩
  obtain ⟨a, r, f, rfl, ha, q⟩ := h
  refine ⟨_, (pss_cons (ps_asg (pv 0) (pg_tup (by rfl) (pgs_cons (pg_name (i := 2) sc_overstep.nd rfl (Or.inl rfl)) (pgs_cons (pg_name (i := 3) sc_overstep.nd rfl (Or.inl rfl)) pgs_nil))))
      (pss_one (ps_ret (pe_callB (call_max2 rfl) (by rfl) T.b_max (by decide +kernel) (pa_cons (pe_int) (pa_cons (pe_op op_sub (pe_callB call_abs (by rfl) T.b_abs (by decide +kernel) (pa_cons (pe_op op_sub (pv 1) (pv 2)) pa_nil)) (pv 3)) pa_nil)))))), ?_⟩
  walk_at "g"
  rw [ov_eq]
  exact q
def cs (rf : Str → Int × Int) (pr f : Str → Int) (n : Str) : Int := pr n * ov (rf n) (f n)
def sp_cost_of (K : PySem.W.Frag) : Sp := fun vs H Q _ => ∃ dr dp df rk pk fk rf pr f, vs = [.ref dr, .ref dp, .ref df] ∧ PrD H dr rk rf ∧ IntD H dp pk pr ∧ IntD H df fk f ∧ (∀ n ∈ rk, n ∈ pk ∧ n ∈ fk ∧ 0 ≤ pr n ∧ pr n ≤ 1000000) ∧ rk.length ≤ 100 ∧ ∀ H', Same H H' → Q (.int ((rk.map (cs rf pr f)).sum)) H'
theorem sc_cost_of : FnScope ["readings", "prices", "flows", "name"] ["readings", "prices", "flows"] (defScope s_cost_of) := ⟨rfl, rfl, rfl, by decide +kernel, rfl, by decide +kernel, by decide +kernel⟩
theorem ok_cost_of (T : Tx K mg) : Has P w K mg base CX0 2 (A_cost_of K) ["readings", "prices", "flows"] [] (sp_cost_of K) := by
  obtain ⟨fd, F⟩ := T.F_cost_of
  refine ⟨fd, [], F.ok sc_cost_of (fun vs H Q E h => by
    obtain ⟨_, _, _, _, _, _, _, _, _, rfl, _⟩ := h
    rfl) (fun cdv A outer s H vs Q E hr h => ?_), F.bindsN (fun _ _ _ _ _ _ us hl => match us, hl with | [_, _, _], _ => rfl), .nil, F.kp⟩
  obtain ⟨dr, dp, df, rk, pk, fk, rf, pr, f, rfl, hr1, hp, hf, hk, hl, q⟩ := h
  obtain ⟨r, hd1, hd2⟩ := hr1.ex
  refine ⟨_, (pss_one (ps_ret (pe_callB (sumL rfl) (by rfl) T.b_sum (by decide +kernel) (pa_cons (peLockN 0 (pe_lc (own := [("name", 3)]) (g := (gName 3)) rfl sc_cost_of.nd (piKeys (pv 0)) (blkOk_by (own := [("name", 3)]) (N := ["readings", "prices", "flows", "name"]) (sc := defScope s_cost_of) (by decide +kernel)) (fun _ _ _ _ _ => (pg_name (i := 3) sc_cost_of.nd rfl (Or.inl rfl))) (fun _ _ _ _ _ => pts_nil) (fun _ _ _ _ _ => (pe_op op_mul (pe_dget (hu_of hr) (pv 1) (pv 3) (fun _ _ => rfl)) (hc (ok_overstep (K := K) T) (hr.mono (by decide)) T.g_overstep pass0 (pa_cons (pe_dget (hu_of hr) (pv 0) (pv 3) (fun _ _ => rfl)) (pa_cons (pe_dget (hu_of hr) (pv 2) (pv 3) (fun _ _ => rfl)) pa_nil))))))) pa_nil)))), ?_⟩
  walk_at "g"
  intro od
  generalize hG : upd H dr _ = H0
  have e0 := nw_at hG
  have g1 : Rd H0 dp (.dK (fdV pk fun k => .int (pr k))) := hG ▸ rd_lock hd1 trivial (.inl hp)
  have g2 : Rd H0 df (.dK (fdV fk fun k => .int (f k))) := hG ▸ rd_lock hd1 trivial (.inl hf)
  have g3 : ∀ n ∈ rk, H0 (r n) = some (.tup [.int (rf n).1, .int (rf n).2]) := fun n hn => hG ▸ lock_ne hd1 (hd2 n hn) (fun e => by cases e)
  have s0 : ∀ {H'}, Same H0 H' → Same H (upd H' dr (.dK (fdV rk fun k => .ref (r k)))) := fun s => same_unlock hd1 (hG ▸ s)
  have hfr : ∀ {b}, H0 b = none → H b = none := fun h => lock_free (hG ▸ h)
  clear hG
  walk_at "g"
  intro D hD
  refine lcK (fun n => some (cs rf pr f n)) V.int hD e0 (by omega) (fun n v H1 Ky Kn hn s hfz hv ky kn => ?_) (fun H1 s1 eD => ?_)
  · subst hv
    obtain ⟨k1, k2, k3, k4⟩ := hk n hn
    have u1 : Rd H1 dr (.dK (fdV rk fun k => .ref (r k))) := .inr ⟨_, hfz⟩
    have u2 := same_rd s g1
    have u3 := same_rd s g2
    have u4 := s _ _ (g3 n hn)
    walk_at "g"
    exact ky _ _ (Same.refl _) rfl
  · have hDd : D ≠ dr := (ne_of_none e0 hD).symm
    have f1 := s1 _ _ e0
    refine ⟨f1, ?_⟩
    rw [fm_map] at eD
    have eD' := at_upd (o := .dK (fdV rk fun k => .ref (r k))) hDd eD
    walk_at "g"
    exact q _ (s0 s1)
def sp_worst_of (K : PySem.W.Frag) : Sp := fun vs H Q _ => ∃ dr dp df rk pk fk rf pr f, vs = [.ref dr, .ref dp, .ref df] ∧ PrD H dr rk rf ∧ IntD H dp pk pr ∧ IntD H df fk f ∧ (∀ n ∈ rk, n ∈ pk ∧ n ∈ fk ∧ 0 ≤ pr n ∧ pr n ≤ 1000000) ∧ rk.length ≤ 100 ∧
  ∀ H' m, Same H H' → m ∈ 0 :: rk.map (cs rf pr f) → (∀ y ∈ 0 :: rk.map (cs rf pr f), y ≤ m) → Q (.int m) H'
theorem sc_worst_of : FnScope ["readings", "prices", "flows", "name"] ["readings", "prices", "flows"] (defScope s_worst_of) := ⟨rfl, rfl, rfl, by decide +kernel, rfl, by decide +kernel, by decide +kernel⟩
theorem ok_worst_of (T : Tx K mg) : Has P w K mg base CX0 2 (A_worst_of K) ["readings", "prices", "flows"] [] (sp_worst_of K) := by
  obtain ⟨fd, F⟩ := T.F_worst_of
  refine ⟨fd, [], F.ok sc_worst_of (fun vs H Q E h => by
    obtain ⟨_, _, _, _, _, _, _, _, _, rfl, _⟩ := h
    rfl) (fun cdv A outer s H vs Q E hr h => ?_), F.bindsN (fun _ _ _ _ _ _ us hl => match us, hl with | [_, _, _], _ => rfl), .nil, F.kp⟩
  obtain ⟨dr, dp, df, rk, pk, fk, rf, pr, f, rfl, hr1, hp, hf, hk, hl, q⟩ := h
  obtain ⟨r, hd1, hd2⟩ := hr1.ex
  refine ⟨_, (pss_one (ps_ret (pe_callB (maxL rfl) (by rfl) T.b_max (by decide +kernel) (pa_cons (pe_op op_cat (pe_lst (pa_cons (pe_int) pa_nil)) (peLockN 0 (pe_lc (own := [("name", 3)]) (g := (gName 3)) rfl sc_worst_of.nd (piKeys (pv 0)) (blkOk_by (own := [("name", 3)]) (N := ["readings", "prices", "flows", "name"]) (sc := defScope s_worst_of) (by decide +kernel)) (fun _ _ _ _ _ => (pg_name (i := 3) sc_worst_of.nd rfl (Or.inl rfl))) (fun _ _ _ _ _ => pts_nil) (fun _ _ _ _ _ => (pe_op op_mul (pe_dget (hu_of hr) (pv 1) (pv 3) (fun _ _ => rfl)) (hc (ok_overstep (K := K) T) (hr.mono (by decide)) T.g_overstep pass0 (pa_cons (pe_dget (hu_of hr) (pv 0) (pv 3) (fun _ _ => rfl)) (pa_cons (pe_dget (hu_of hr) (pv 2) (pv 3) (fun _ _ => rfl)) pa_nil)))))))) pa_nil)))), ?_⟩
  walk_at "g"
  intro z n_z; generalize hG : upd H z _ = H9; have s_H9 : Same H H9 := nw_same n_z hG; have e_z := nw_at hG; clear hG
  have hd1' := s_H9 _ _ hd1
  walk_at "g"
  intro od
  generalize hG : upd H9 dr _ = H0
  have e0 := nw_at hG
  have g1 : Rd H0 dp (.dK (fdV pk fun k => .int (pr k))) := hG ▸ rd_lock hd1' trivial (.inl (s_H9 _ _ hp))
  have g2 : Rd H0 df (.dK (fdV fk fun k => .int (f k))) := hG ▸ rd_lock hd1' trivial (.inl (s_H9 _ _ hf))
  have g3 : ∀ n ∈ rk, H0 (r n) = some (.tup [.int (rf n).1, .int (rf n).2]) := fun n hn => hG ▸ lock_ne hd1' (s_H9 _ _ (hd2 n hn)) (fun e => by cases e)
  have g4 : H0 z = some (.lst [.int 0]) := hG ▸ lock_ne hd1' e_z (fun e => by cases e)
  have s0 : ∀ {H'}, Same H0 H' → Same H9 (upd H' dr (.dK (fdV rk fun k => .ref (r k)))) := fun s => same_unlock hd1' (hG ▸ s)
  clear hG
  walk_at "g"
  intro D hD
  refine lcK (fun n => some (cs rf pr f n)) V.int hD e0 (by omega) (fun n v H1 Ky Kn hn s hfz hv ky kn => ?_) (fun H1 s1 eD => ?_)
  · subst hv
    obtain ⟨k1, k2, k3, k4⟩ := hk n hn
    have u1 : Rd H1 dr (.dK (fdV rk fun k => .ref (r k))) := .inr ⟨_, hfz⟩
    have u2 := same_rd s g1
    have u3 := same_rd s g2
    have u4 := s _ _ (g3 n hn)
    walk_at "g"
    exact ky _ _ (Same.refl _) rfl
  · have hDd : D ≠ dr := (ne_of_none e0 hD).symm
    have hzd : z ≠ dr := ne_at (s1 _ _ g4) (s1 _ _ e0) (fun e => by cases e)
    have f1 := s1 _ _ e0
    refine ⟨f1, ?_⟩
    rw [fm_map] at eD
    have eD' := at_upd (o := .dK (fdV rk fun k => .ref (r k))) hDd eD
    have eZ' := at_upd (o := .dK (fdV rk fun k => .ref (r k))) hzd (s1 _ _ g4)
    have hl2 : (rk.map (cs rf pr f)).length ≤ 400 := by
      rw [List.length_map]
      omega
    have sm := s0 s1
    generalize upd H1 dr _ = H2 at eD' eZ' sm ⊢
    walk_at "g"
    · rw [List.length_map]
      exact Nat.le_of_lt (small1000 (by show 1 + _ ≤ _; omega))
    intro c n_c; generalize hG : upd H2 c _ = H3; have s_H3 : Same H2 H3 := nw_same n_c hG; have e_c := nw_at hG; clear hG
    have e_c2 : H3 c = some (.lst ((0 :: rk.map (cs rf pr f)).map V.int)) := e_c
    walk_at "g"
    · exact Nat.succ_pos _
    intro m hm hle
    exact q H3 m (s_H9.trans (sm.trans s_H3)) hm hle
end
end M
end
-- part W16
section
set_option Elab.async false
set_option linter.all false
set_option maxRecDepth 100000
set_option maxHeartbeats 4000000
namespace M
open PySem PySem.Spec PyProof.Rows L2
local macro_rules | `(tactic| walk_at "e") => `(tactic| (first
  | exact rfl
  | assumption
  | exact upd_same
  | exact flat_strs
  | exact fd_keys
  | ((with_reducible apply same_at); assumption; walk_at "f")
  | ((with_reducible apply at_upd); assumption; walk_at "f")
  | omega))
local macro_rules | `(tactic| walk_at "n") => `(tactic| (first
  | assumption
  | omega
  | exact Nat.le_of_lt (small1000 (by first | assumption | omega))
  | exact (Nat.zero_le _ : 0 ≤ sizeLine)
  | exact (by decide : 1 ≤ sizeLine)
  | exact (by decide : 2 ≤ sizeLine)
  | exact (by decide : 3 ≤ sizeLine)
  | exact (by decide : 5 ≤ sizeLine)
  | exact (by decide : 6 ≤ sizeLine)
  | (show _ < 1000; exact of_decide_eq_true rfl)
  | exact len2 (by omega) (by omega)
  | exact small1000 (by first | assumption | omega)))
local macro_rules | `(tactic| walk_at "f") => `(tactic| (first
  | with_reducible assumption
  | ((with_reducible apply gEq); walk_at "e")
  | ((with_reducible apply gLe); walk_at "n")
  | ((with_reducible apply gLt); walk_at "n")
  | ((with_reducible apply gNot); (first | assumption | omega))
  | with_reducible exact Same.refl _
  | ((with_reducible apply tupOf); walk_at "f")
  | ((with_reducible apply lstOf); walk_at "f")
  | ((with_reducible apply gCls); assumption)
  | ((with_reducible apply gNoAttr); assumption)
  | ((with_reducible apply gIsPl); assumption)
  | ((with_reducible apply gStL); assumption)
  | ((with_reducible apply gIntD); assumption)
  | ((with_reducible apply gSqT); assumption)
  | ((with_reducible apply gSqL); assumption)
  | ((with_reducible apply tyV_l); walk_at "f")
  | ((with_reducible apply Rd.of); walk_at "f")
  | ((with_reducible apply dget_ne); assumption; assumption)
  | ((with_reducible apply dget_fd) <;> walk_at "f")
  | ((with_reducible apply dput_int) <;> walk_at "f")
  | ((with_reducible apply dput_fd) <;> walk_at "f")
  | ((with_reducible apply rd_upd); assumption; walk_at "f")
  | ((with_reducible apply same_put); walk_at "f"; assumption)
  | ((with_reducible apply sx_upd) <;> walk_at "f")
  | ((with_reducible refine Same.trans ?_ (by assumption)); walk_at "f")
  | ((with_reducible apply cmulLg); omega; omega)
  | ((with_reducible apply cmulRg); omega; omega)
  | ((with_reducible apply SameE.upd); walk_at "f")
  | ((with_reducible apply StL.same); assumption; walk_at "f")
  | ((with_reducible apply LT.same); assumption; walk_at "f")
  | ((with_reducible apply IsP.same); assumption; walk_at "f")
  | ((with_reducible apply IsPl.same); assumption; walk_at "f")
  | ((with_reducible apply IntD.same); assumption; walk_at "f")
  | ((with_reducible apply PrD.same); assumption; walk_at "f")
  | ((with_reducible apply Or.inl); walk_at "f")
  | ((with_reducible apply Or.inr); walk_at "f")))
local macro_rules | `(tactic| walk_at "g") => `(tactic| repeat (first
  | with_reducible apply And.intro
  | with_reducible apply Exists.intro
  | walk_at "f"
  | ((with_reducible apply iteT); assumption)
  | ((with_reducible apply iteF); assumption)
  | ((with_reducible apply iteD); (first | assumption | omega))
  | ((with_reducible apply iteN); (first | assumption | omega))
  | ((with_reducible apply iteD2); (first | assumption | omega))
  | ((with_reducible apply iteN2); (first | assumption | omega))
  | apply And.intro
  | apply Exists.intro))
section
variable {P : Program} {w : World} {K : PySem.W.Frag} {mg : Str → Option Value} {base : Heap}
theorem hu_min {A : Around} {k n : Nat} (hr : Room k A) (h : n ≤ 60) : A.units + 1 + n < cLine := by
  have := hr.units
  omega
theorem nodup_leI : ∀ {l u : List Int}, l.Nodup → (∀ x ∈ l, x ∈ u) → l.length ≤ u.length
  | [], _, _, _ => Nat.zero_le _
  | a :: l, u, n, h => by
    have n2 := List.nodup_cons.mp n
    have ha : a ∈ u := h a List.mem_cons_self
    have ih := nodup_leI (l := l) (u := u.erase a) n2.2 fun x hx => by
      refine (List.mem_erase_of_ne fun e => n2.1 ?_).mpr (h x (List.mem_cons_of_mem _ hx))
      subst e
      exact hx
    rw [List.length_erase_of_mem ha] at ih
    have : 0 < u.length := List.length_pos_of_mem ha
    rw [List.length_cons]
    omega
structure Slp where
  low : Int
  high : Int
  rd : Option (Int × Int)
  price : Int
def cst (s : Slp) (f : Int) : Int := match s.rd with
  | none => 0
  | some r => s.price * ov r f
structure SlV (s : Slp) : Prop where
  a : 0 ≤ s.low
  b : s.low ≤ s.high
  c : s.high ≤ 1000000
  d : 0 ≤ s.price
  e : s.price ≤ 1000000
def IsTurn (s : Slp) (k : Int) : Prop := k = s.low ∨ k = s.high ∨ ∃ r, s.rd = some r ∧ (k = r.1 - r.2 ∨ k = r.1 + r.2) ∧ s.low < k ∧ k < s.high
theorem turn_in {s : Slp} (v : SlV s) {k : Int} (h : IsTurn s k) : s.low ≤ k ∧ k ≤ s.high := by
  have := v.b
  rcases h with h | h | ⟨r, _, _, h1, h2⟩ <;> omega
structure IsS (K : PySem.W.Frag) (H : Hp) (p : Addr) (s : Slp) : Prop where
  ex : ∃ dx v, H p = some (.ins (C_Slope K) dx [("low", .int s.low), ("high", .int s.high), ("reading", v), ("price", .int s.price)]) ∧ (s.rd = none → v = .non) ∧ ∀ r, s.rd = some r → ∃ t, v = .ref t ∧ H t = some (.tup [.int r.1, .int r.2])
theorem IsS.same {K : PySem.W.Frag} {H H' : Hp} {p : Addr} {s : Slp} (m : Same H H') (h : IsS K H p s) : IsS K H' p s := by
  obtain ⟨dx, v, h1, h2, h3⟩ := h.ex
  exact ⟨dx, v, m _ _ h1, h2, fun r e => by
    obtain ⟨t, e2, h⟩ := h3 r e
    exact ⟨t, e2, m _ _ h⟩⟩
def sp_Slope_init (K : PySem.W.Frag) : Sp := fun vs H Q _ => ∃ self t v pr dx lo hi, vs = [.ref self, .ref t, v, .int pr] ∧ H self = some (.ins (C_Slope K) dx []) ∧ H t = some (.tup [.int lo, .int hi]) ∧
  ∀ H', SameE self H H' → H' self = some (.ins (C_Slope K) dx [("low", .int lo), ("high", .int hi), ("reading", v), ("price", .int pr)]) → Q .non H'
theorem sc_Slope_init : FnScope ["self", "limits", "reading", "price"] ["self", "limits", "reading", "price"] (defScope s_Slope_init) := ⟨rfl, rfl, rfl, by decide +kernel, rfl, by decide +kernel, by decide +kernel⟩
theorem ok_Slope_init (T : Tx K mg) : Has P w K mg base CX0 1 (A_Slope_init K) ["self", "limits", "reading", "price"] [] (sp_Slope_init K) := by
  obtain ⟨fd, F⟩ := T.F_Slope_init
  refine ⟨fd, [], F.ok sc_Slope_init (fun vs H Q E h => by
    obtain ⟨_, _, _, _, _, _, _, rfl, _⟩ := h
    rfl) (fun cdv A outer s H vs Q E hr h => ?_), F.bindsN (fun _ _ _ _ _ _ us hl => match us, hl with | [_, _, _, _], _ => rfl), .nil, F.kp⟩
  obtain ⟨self, t, v, pr, dx, lo, hi, rfl, hs, ht, q⟩ := h
  have k1 := T.c_Slope
  have k2 := T.n_Slope_low
  have k3 := T.n_Slope_high
  have k4 := T.n_Slope_reading
  have k5 := T.n_Slope_price
  refine ⟨_, (pss_cons (ps_asg (pv 1) (pg_tup (by rfl) (pgs_cons (pg_atr (pv 0)) (pgs_cons (pg_atr (pv 0)) pgs_nil))))
      (pss_cons (ps_fld (pv 0) (pv 2) rfl)
      (pss_one (ps_fld (pv 0) (pv 3) rfl)))), ?_⟩
  walk_at "g"
  exact q _ (SameE.refl.upd.upd.upd.upd) upd_same
def sp_Slope_cost_at (K : PySem.W.Frag) : Sp := fun vs H Q _ => ∃ p f s, vs = [.ref p, .int f] ∧ IsS K H p s ∧ SlV s ∧ Q (.int (cst s f)) H
theorem sc_Slope_cost_at : FnScope ["self", "flow"] ["self", "flow"] (defScope s_Slope_cost_at) := ⟨rfl, rfl, rfl, by decide +kernel, rfl, by decide +kernel, by decide +kernel⟩
theorem ok_Slope_cost_at (T : Tx K mg) : Has P w K mg base CX0 2 (A_Slope_cost_at K) ["self", "flow"] [] (sp_Slope_cost_at K) := by
  obtain ⟨fd, F⟩ := T.F_Slope_cost_at
  refine ⟨fd, [], F.ok sc_Slope_cost_at (fun vs H Q E h => by
    obtain ⟨_, _, _, rfl, _⟩ := h
    rfl) (fun cdv A outer s H vs Q E hr h => ?_), F.bindsN (fun _ _ _ _ _ _ us hl => match us, hl with | [_, _], _ => rfl), .nil, F.kp⟩
  obtain ⟨p, f, s, rfl, hs, hv, q⟩ := h
  obtain ⟨dx, v, h1, h2, h3⟩ := hs.ex
  have b1 := hv.d
  have b2 := hv.e
  refine ⟨_, (pss_one (ps_ret (pe_ifExp (pt_cmpR op_isN (fld T.c_Slope T.n_Slope_reading (pv 0)) (pe_non) (nomark _)) (pe_int) (pe_op op_mul (fld T.c_Slope T.n_Slope_price (pv 0)) (hc (ok_overstep (K := K) T) (hr.mono (by decide)) T.g_overstep pass0 (pa_cons (fld T.c_Slope T.n_Slope_reading (pv 0)) (pa_cons (pv 1) pa_nil))))))), ?_⟩
  cases e : s.rd with
  | none =>
    have e1 := h2 e
    subst e1
    have e2 : V.non = V.non := rfl
    walk_at "g"
    unfold cst at q
    rw [e] at q
    exact q
  | some r =>
    obtain ⟨t, e1, ht⟩ := h3 r e
    subst e1
    have e2 : ¬ V.ref t = V.non := fun e => by cases e
    walk_at "g"
    unfold cst at q
    rw [e] at q
    exact q
def esS (s : Slp) : List Int := match s.rd with
  | none => []
  | some r => [r.1 - r.2, r.1 + r.2]
theorem es_len (s : Slp) : (esS s).length ≤ 2 := by
  unfold esS
  split <;> simp
def sp_Slope_turns (K : PySem.W.Frag) : Sp := fun vs H Q _ => ∃ p s, vs = [.ref p] ∧ IsS K H p s ∧ SlV s ∧ ∀ H' a, ∀ ts : List Int, Same H H' → ts.Pairwise (· < ·) → (∀ k, k ∈ ts ↔ IsTurn s k) → ts.length ≤ 4 → H' a = some (.lst (ts.map V.int)) → Q (.ref a) H'
theorem sc_Slope_turns : FnScope ["self", "ends", "number", "tolerance", "end"] ["self"] (defScope s_Slope_turns) := ⟨rfl, rfl, rfl, by decide +kernel, rfl, by decide +kernel, by decide +kernel⟩
theorem ok_Slope_turns (T : Tx K mg) : Has P w K mg base CX0 1 (A_Slope_turns K) ["self"] [] (sp_Slope_turns K) := by
  obtain ⟨fd, F⟩ := T.F_Slope_turns
  refine ⟨fd, [], F.ok sc_Slope_turns (fun vs H Q E h => by
    obtain ⟨_, _, rfl, _⟩ := h
    rfl) (fun cdv A outer s H vs Q E hr h => ?_), F.bindsN (fun _ _ _ _ _ _ us hl => match us, hl with | [_], _ => rfl), .nil, F.kp⟩
  obtain ⟨p, s, rfl, hs, hv, q⟩ := h
  obtain ⟨dx, v, h1, h2, h3⟩ := hs.ex
  refine ⟨_, (pss_cons (ps_set (i := 1) sc_Slope_turns.nd rfl (Or.inl rfl) (pe_lst pa_nil))
      (pss_cons (psCut (ps_if (pt_cmpR op_notN (fld T.c_Slope T.n_Slope_reading (pv 0)) (pe_non) (nomark _))
      (pss_cons (ps_asg (fld T.c_Slope T.n_Slope_reading (pv 0)) (pg_tup (by rfl) (pgs_cons (pg_name (i := 2) sc_Slope_turns.nd rfl (Or.inl rfl)) (pgs_cons (pg_name (i := 3) sc_Slope_turns.nd rfl (Or.inl rfl)) pgs_nil))))
      (pss_one (ps_set (i := 1) sc_Slope_turns.nd rfl (Or.inl rfl) (pe_lst (pa_cons (pe_op op_sub (pv 2) (pv 3)) (pa_cons (pe_op op_add (pv 2) (pv 3)) pa_nil))))))
      pss_nil))
      (pss_one (ps_ret (pe_callB (cr_sortSGI rfl) (by rfl) T.b_sorted (by decide +kernel) (pa_cons (pe_callTy (setI rfl) (by rfl) T.b_set (by decide +kernel) (pa_cons (pe_op op_cat (pe_lst (pa_cons (fld T.c_Slope T.n_Slope_low (pv 0)) (pa_cons (fld T.c_Slope T.n_Slope_high (pv 0)) pa_nil))) (pe_lc (own := [("end", 4)]) (g := (gName 4)) rfl sc_Slope_turns.nd (pi_list (pv 1)) (blkOk_by (own := [("end", 4)]) (N := ["self", "ends", "number", "tolerance", "end"]) (sc := defScope s_Slope_turns) (by decide +kernel)) (fun _ _ _ _ _ => (pg_name (i := 4) sc_Slope_turns.nd rfl (Or.inl rfl))) (fun _ _ _ _ _ => (pts_one (pt_chain op_lt op_lt (fld T.c_Slope T.n_Slope_low (pv 0)) (pv 4) (fld T.c_Slope T.n_Slope_high (pv 0))))) (fun _ _ _ _ _ => (pv 4)))) pa_nil)) pa_nil)))))), ?_⟩
  walk_at "g"
  intro e0 n_e0; generalize hG : upd H e0 _ = H1; have s_H1 : Same H H1 := nw_same n_e0 hG; have e_e0 := nw_at hG; clear hG
  walk_at "g"
  refine Cut.of (fun σ H2 => ∃ y2 y3 e, σ = [some (.ref p), some (.ref e), y2, y3, none] ∧ Same H H2 ∧ H2 e = some (.lst ((esS s).map V.int))) ?_ (fun σ H2 hh => ?_)
  · cases e : s.rd with
    | none =>
      have e1 := h2 e
      subst e1
      have e2 : ¬ ¬ V.non = V.non := fun z => z rfl
      have e3 : H1 e0 = some (.lst ((esS s).map V.int)) := by
        unfold esS
        rw [e]
        exact e_e0
      walk_at "g"
    | some r =>
      obtain ⟨t, e1, ht⟩ := h3 r e
      subst e1
      have e2 : ¬ V.ref t = V.non := fun e => by cases e
      walk_at "g"
      intro e1 n_e1; generalize hG : upd H1 e1 _ = H2; have s_H2 : Same H1 H2 := nw_same n_e1 hG; have e_e1 := nw_at hG; clear hG
      have e3 : H2 e1 = some (.lst ((esS s).map V.int)) := by
        unfold esS
        rw [e]
        exact e_e1
      walk_at "g"
  · obtain ⟨y2, y3, e, rfl, t1, he⟩ := hh
    have b1 := t1 _ _ h1
    walk_at "g"
    intro l1 n_l1; generalize hG : upd H2 l1 _ = H3; have s_H3 : Same H2 H3 := nw_same n_l1 hG; have e_l1 := nw_at hG; clear hG
    have he3 := s_H3 _ _ he
    walk_at "g"
    intro D hD
    refine lcV (wk_listM (ys := esS s) (m := V.int)) (fun k => if s.low < k ∧ k < s.high then some k else none) V.int hD (lstOf he3) (Nat.le_trans (es_len s) (by decide)) (fun i x v' H' Ky Kn ex sm _ hv' ky kn => ?_) (fun H4 s4 e4 => ?_)
    · subst hv'
      have b2 := sm _ _ (s_H3 _ _ b1)
      walk_at "g"
      refine ite_d (fun c1 => ?_) (fun c1 => ?_)
      · walk_at "g"
        refine ite_d (fun c2 => ?_) (fun c2 => ?_)
        · walk_at "g"
          exact ky _ _ (Same.refl _) (if_pos ⟨c1, c2⟩)
        · exact kn _ (Same.refl _) (if_neg fun z => c2 z.2)
      · walk_at "g"
        exact kn _ (Same.refl _) (if_neg fun z => c1 z.1)
    · rw [fm_filter, List.map_id'] at e4
      have hfl : ((esS s).filter fun k => decide (s.low < k ∧ k < s.high)).length ≤ 2 := Nat.le_trans (List.length_filter_le _ _) (es_len s)
      walk_at "g"
      · rw [List.length_map]
        exact Nat.le_of_lt (small1000 (by show 2 + _ ≤ _; omega))
      intro c n_c; generalize hG : upd H4 c _ = H5; have s_H5 : Same H4 H5 := nw_same n_c hG; have e_c := nw_at hG; clear hG
      have e_c2 : H5 c = some (.lst ((s.low :: s.high :: (esS s).filter fun k => decide (s.low < k ∧ k < s.high)).map V.int)) := e_c
      have hcl : (s.low :: s.high :: (esS s).filter fun k => decide (s.low < k ∧ k < s.high)).length ≤ 4 := by
        show _ + 1 + 1 ≤ 4
        omega
      walk_at "g"
      intro u n n_u hn
      generalize hG : upd H5 u _ = H6
      have s_H6 := nw_same n_u hG
      have e_u := nw_at hG
      clear hG
      walk_at "g"
      intro ts a p1 p2 n_a
      generalize hG : upd H6 a _ = H7
      have s_H7 := nw_same n_a hG
      have e_a := nw_at hG
      clear hG
      have hmt : ∀ k, k ∈ ts ↔ IsTurn s k := fun k => by
        rw [p2 k, List.mem_cons, List.mem_cons, List.mem_filter]
        unfold IsTurn esS
        constructor
        · rintro (h | h | ⟨h, h'⟩)
          · exact .inl h
          · exact .inr (.inl h)
          · cases e : s.rd with
            | none =>
              rw [e] at h
              cases h
            | some r =>
              rw [e] at h
              refine .inr (.inr ⟨r, rfl, ?_, (of_decide_eq_true h').1, (of_decide_eq_true h').2⟩)
              rcases List.mem_cons.mp h with h | h
              · exact .inl h
              · exact .inr (List.mem_singleton.mp h)
        · rintro (h | h | ⟨r, e, h, h', h''⟩)
          · exact .inl h
          · exact .inr (.inl h)
          · rw [e]
            refine .inr (.inr ⟨?_, decide_eq_true ⟨h', h''⟩⟩)
            rcases h with h | h
            · rw [h]
              exact List.mem_cons_self
            · rw [h]
              exact List.mem_cons_of_mem _ (List.mem_singleton.mpr rfl)
      refine q H7 a ts (t1.trans (s_H3.trans (s4.trans (s_H5.trans (s_H6.trans s_H7))))) p1 hmt ?_ e_a
      exact Nat.le_trans (nodup_leI (p1.imp fun {a b} h => Int.ne_of_lt h) fun x hx => (p2 x).mp hx) hcl
theorem minOf_spec {α : Type} [DecidableEq α] [PySem.W.DatumOrd α] {R : α → α → Prop} (refl : ∀ a, R a a) (tr : ∀ a b c, R a b → R b c → R a c) (h1 : ∀ a b, PySem.W.DatumOrd.lt a b = true → R a b) (h2 : ∀ a b, ¬ PySem.W.DatumOrd.lt a b = true → R b a) :
    ∀ (ys : List α) (y : α), PySem.W.minOf y ys ∈ y :: ys ∧ ∀ z ∈ y :: ys, R (PySem.W.minOf y ys) z
  | [], y => ⟨List.mem_cons_self, fun z hz => by
      rw [List.mem_singleton.mp hz]
      exact refl _⟩
  | x :: ys, y => by
    have e : PySem.W.minOf y (x :: ys) = PySem.W.minOf (if PySem.W.DatumOrd.lt x y = true then x else y) ys := rfl
    rw [e]
    obtain ⟨i1, i2⟩ := minOf_spec refl tr h1 h2 ys (if PySem.W.DatumOrd.lt x y = true then x else y)
    by_cases c : PySem.W.DatumOrd.lt x y = true
    · rw [if_pos c] at i1 i2 ⊢
      refine ⟨List.mem_cons_of_mem _ i1, fun z hz => ?_⟩
      rcases List.mem_cons.mp hz with e | hz
      · rw [e]
        exact tr _ _ _ (i2 x List.mem_cons_self) (h1 _ _ c)
      · exact i2 z hz
    · rw [if_neg c] at i1 i2 ⊢
      refine ⟨?_, fun z hz => ?_⟩
      · rcases List.mem_cons.mp i1 with e | i1
        · rw [e]
          exact List.mem_cons_self
        · exact List.mem_cons_of_mem _ (List.mem_cons_of_mem _ i1)
      · rcases List.mem_cons.mp hz with e | hz
        · rw [e]
          exact i2 y List.mem_cons_self
        · rcases List.mem_cons.mp hz with e | hz
          · rw [e]
            exact tr _ _ _ (i2 y List.mem_cons_self) (h2 _ _ c)
          · exact i2 z (List.mem_cons_of_mem _ hz)
theorem min_pairs (y : Int × Int) (ys : List (Int × Int)) : PySem.W.minOf y ys ∈ y :: ys ∧ ∀ z ∈ y :: ys, (PySem.W.minOf y ys).1 ≤ z.1 := by
  refine minOf_spec (R := fun a b => a.1 ≤ b.1) (fun a => Int.le_refl _) (fun a b c h h' => Int.le_trans h h') (fun a b h => ?_) (fun a b h => ?_) ys y
  · have h : (if a.1 = b.1 then decide (a.2 < b.2) else decide (a.1 < b.1)) = true := h
    split at h
    · omega
    · have := of_decide_eq_true h
      omega
  · have h : ¬ (if a.1 = b.1 then decide (a.2 < b.2) else decide (a.1 < b.1)) = true := h
    split at h
    · omega
    · have : ¬ a.1 < b.1 := fun z => h (decide_eq_true z)
      omega
theorem dp_pairs {K : PySem.W.Frag} {H : Hp} : ∀ {l : List (Int × Int)} {vs : List V}, A2 (fun x v => TupR (prV x) v H) l vs → DpAll K H vs (l.map PySem.W.Datum.toD)
  | _, _, .nil => .nil
  | _, _, .cons ⟨t, e, h⟩ r => by
    subst e
    exact .cons (.tup (tupOf h) (.cons (.int _) (.cons (.int _) .nil))) (dp_pairs r)
def sp_Slope_first (K : PySem.W.Frag) : Sp := fun vs H Q _ => ∃ p s, vs = [.ref p] ∧ IsS K H p s ∧ SlV s ∧ ∀ H' t, Same H H' → IsTurn s t → (∀ k, IsTurn s k → cst s t ≤ cst s k) → Q (.int t) H'
theorem sc_Slope_first : FnScope ["self", "turn"] ["self"] (defScope s_Slope_first) := ⟨rfl, rfl, rfl, by decide +kernel, rfl, by decide +kernel, by decide +kernel⟩
theorem ok_Slope_first (T : Tx K mg) : Has P w K mg base CX0 3 (A_Slope_first K) ["self"] [] (sp_Slope_first K) := by
  obtain ⟨fd, F⟩ := T.F_Slope_first
  refine ⟨fd, [], F.ok sc_Slope_first (fun vs H Q E h => by
    obtain ⟨_, _, rfl, _⟩ := h
    rfl) (fun cdv A outer s H vs Q E hr h => ?_), F.bindsN (fun _ _ _ _ _ _ us hl => match us, hl with | [_], _ => rfl), .nil, F.kp⟩
  obtain ⟨p, s, rfl, hs, hv, q⟩ := h
  obtain ⟨dx, v, h1, h2, h3⟩ := hs.ex
  refine ⟨_, (pss_one (ps_ret (pe_ix ixT (pe_callB (cr_minD (α := (Int × Int)) rfl (hu_min hr (by decide))) (by rfl) T.b_min (by decide +kernel) (pa_cons (pe_lc (own := [("turn", 1)]) (g := (gName 1)) rfl sc_Slope_first.nd (pi_list (hmeth0 (ok_Slope_turns (K := K) T) (hr.mono (by decide)) T.c_Slope T.m_Slope_turns pass0 (pv 0))) (blkOk_by (own := [("turn", 1)]) (N := ["self", "turn"]) (sc := defScope s_Slope_first) (by decide +kernel)) (fun _ _ _ _ _ => (pg_name (i := 1) sc_Slope_first.nd rfl (Or.inl rfl))) (fun _ _ _ _ _ => pts_nil) (fun _ _ _ _ _ => (pe_tup (pa_cons (hmeth (ok_Slope_cost_at (K := K) T) (hr.mono (by decide)) T.c_Slope T.m_Slope_cost_at pass0 (pv 0) (pa_cons (pv 1) pa_nil)) (pa_cons (pv 1) pa_nil))))) pa_nil)) (pe_int) (fun _ _ => rfl)))), ?_⟩
  walk_at "g"
  intro H1 a ts s1 _ hm hl ea
  walk_at "g"
  intro D hD
  refine lcG (wk_listM (ys := ts) (m := V.int)) (fun t => some (cst s t, t)) (fun x v H => TupR (prV x) v H) rmL_tup hD (lstOf ea) (by omega) (fun i x v' H' Ky Kn ex sm _ hv' ky kn => ?_) (fun H2 ys s2 eD a2 => ?_)
  · subst hv'
    have u1 : IsS K H' p s := hs.same (s1.trans sm)
    obtain ⟨dx', v', u2, _⟩ := u1.ex
    walk_at "g"
    intro t n_t; generalize hG : upd H' t _ = H4; have s_H4 : Same H' H4 := nw_same n_t hG; have e_t := nw_at hG; clear hG
    exact ky _ H4 _ s_H4 rfl ⟨t, rfl, e_t⟩
  · rw [fm_map] at a2
    have hne : ts ≠ [] := fun z => by
      have := (hm s.low).mpr (.inl rfl)
      rw [z] at this
      cases this
    obtain ⟨t0, ts', rfl⟩ : ∃ t0 ts', ts = t0 :: ts' := by
      cases ts with
      | nil => exact absurd rfl hne
      | cons a b => exact ⟨a, b, rfl⟩
    obtain ⟨i1, i2⟩ := min_pairs (cst s t0, t0) (ts'.map fun t => (cst s t, t))
    refine ⟨D, ys, (cst s t0, t0), ts'.map fun t => (cst s t, t), rfl, lstOf eD, dp_pairs a2, fun i v hv1 hv2 => ?_⟩
    obtain ⟨t, e, ht⟩ := (a2.getr hv1).elim fun x hx => by
      have : x = PySem.W.minOf (cst s t0, t0) (ts'.map fun t => (cst s t, t)) := Option.some.inj (hx.1.symm.trans hv2)
      exact this ▸ hx.2
    subst e
    obtain ⟨k, hk, ek⟩ := List.mem_map.mp (show PySem.W.minOf (cst s t0, t0) (ts'.map fun t => (cst s t, t)) ∈ (t0 :: ts').map (fun t => (cst s t, t)) from i1)
    rw [← ek] at ht i2
    walk_at "g"
    exact q H2 k (s1.trans s2) ((hm k).mp hk) fun j hj => i2 _ (show (cst s j, j) ∈ (t0 :: ts').map (fun t => (cst s t, t)) from List.mem_map.mpr ⟨j, (hm j).mpr hj, rfl⟩)
end
end M
end
-- part W17
section
set_option Elab.async false
set_option linter.all false
set_option maxRecDepth 100000
set_option maxHeartbeats 4000000
namespace M
open PySem PySem.Spec PyProof.Rows L2
local macro_rules | `(tactic| walk_at "e") => `(tactic| (first
  | exact rfl
  | assumption
  | exact upd_same
  | exact flat_strs
  | exact fd_keys
  | ((with_reducible apply same_at); assumption; walk_at "f")
  | ((with_reducible apply at_upd); assumption; walk_at "f")
  | omega))
local macro_rules | `(tactic| walk_at "n") => `(tactic| (first
  | assumption
  | omega
  | exact Nat.le_of_lt (small1000 (by first | assumption | omega))
  | exact (Nat.zero_le _ : 0 ≤ sizeLine)
  | exact (by decide : 1 ≤ sizeLine)
  | exact (by decide : 2 ≤ sizeLine)
  | exact (by decide : 3 ≤ sizeLine)
  | exact (by decide : 5 ≤ sizeLine)
  | exact (by decide : 6 ≤ sizeLine)
  | (show _ < 1000; exact of_decide_eq_true rfl)
  | exact len2 (by omega) (by omega)
  | exact small1000 (by first | assumption | omega)))
local macro_rules | `(tactic| walk_at "f") => `(tactic| (first
  | with_reducible assumption
  | ((with_reducible apply gEq); walk_at "e")
  | ((with_reducible apply gLe); walk_at "n")
  | ((with_reducible apply gLt); walk_at "n")
  | ((with_reducible apply gNot); (first | assumption | omega))
  | with_reducible exact Same.refl _
  | ((with_reducible apply tupOf); walk_at "f")
  | ((with_reducible apply lstOf); walk_at "f")
  | ((with_reducible apply gCls); assumption)
  | ((with_reducible apply gNoAttr); assumption)
  | ((with_reducible apply gIsPl); assumption)
  | ((with_reducible apply gStL); assumption)
  | ((with_reducible apply gIntD); assumption)
  | ((with_reducible apply gSqT); assumption)
  | ((with_reducible apply gSqL); assumption)
  | ((with_reducible apply tyV_l); walk_at "f")
  | ((with_reducible apply Rd.of); walk_at "f")
  | ((with_reducible apply dget_ne); assumption; assumption)
  | ((with_reducible apply dget_fd) <;> walk_at "f")
  | ((with_reducible apply dput_int) <;> walk_at "f")
  | ((with_reducible apply dput_fd) <;> walk_at "f")
  | ((with_reducible apply rd_upd); assumption; walk_at "f")
  | ((with_reducible apply same_put); walk_at "f"; assumption)
  | ((with_reducible apply sx_upd) <;> walk_at "f")
  | ((with_reducible refine Same.trans ?_ (by assumption)); walk_at "f")
  | ((with_reducible apply cmulLg); omega; omega)
  | ((with_reducible apply cmulRg); omega; omega)
  | ((with_reducible apply SameE.upd); walk_at "f")
  | ((with_reducible apply StL.same); assumption; walk_at "f")
  | ((with_reducible apply LT.same); assumption; walk_at "f")
  | ((with_reducible apply IsP.same); assumption; walk_at "f")
  | ((with_reducible apply IsPl.same); assumption; walk_at "f")
  | ((with_reducible apply IntD.same); assumption; walk_at "f")
  | ((with_reducible apply PrD.same); assumption; walk_at "f")
  | ((with_reducible apply Or.inl); walk_at "f")
  | ((with_reducible apply Or.inr); walk_at "f")))
local macro_rules | `(tactic| walk_at "g") => `(tactic| repeat (first
  | with_reducible apply And.intro
  | with_reducible apply Exists.intro
  | walk_at "f"
  | ((with_reducible apply iteT); assumption)
  | ((with_reducible apply iteF); assumption)
  | ((with_reducible apply iteD); (first | assumption | omega))
  | ((with_reducible apply iteN); (first | assumption | omega))
  | ((with_reducible apply iteD2); (first | assumption | omega))
  | ((with_reducible apply iteN2); (first | assumption | omega))
  | apply And.intro
  | apply Exists.intro))
section
variable {P : Program} {w : World} {K : PySem.W.Frag} {mg : Str → Option Value} {base : Heap}
structure RiseOk (s : Slp) (f m pr : Int) : Prop where
  ex : (m = 0 ∧ ∀ k, IsTurn s k → k ≤ f) ∨ (0 < m ∧ IsTurn s (f + m) ∧ (∀ k, IsTurn s k → f < k → f + m ≤ k) ∧ pr = cst s (f + 1) - cst s f)
structure FallOk (s : Slp) (f m pr : Int) : Prop where
  ex : (m = 0 ∧ ∀ k, IsTurn s k → f ≤ k) ∨ (0 < m ∧ IsTurn s (f - m) ∧ (∀ k, IsTurn s k → k < f → k ≤ f - m) ∧ pr = cst s (f - 1) - cst s f)
def sp_Slope_rise (K : PySem.W.Frag) : Sp := fun vs H Q _ => ∃ p f s, vs = [.ref p, .int f] ∧ IsS K H p s ∧ SlV s ∧ ∀ H' a m pr, Same H H' → H' a = some (.tup [.int m, .int pr]) → RiseOk s f m pr → Q (.ref a) H'
theorem sc_Slope_rise : FnScope ["self", "flow", "ahead", "turn"] ["self", "flow"] (defScope s_Slope_rise) := ⟨rfl, rfl, rfl, by decide +kernel, rfl, by decide +kernel, by decide +kernel⟩
theorem ok_Slope_rise (T : Tx K mg) : Has P w K mg base CX0 3 (A_Slope_rise K) ["self", "flow"] [] (sp_Slope_rise K) := by
  obtain ⟨fd, F⟩ := T.F_Slope_rise
  refine ⟨fd, [], F.ok sc_Slope_rise (fun vs H Q E h => by
    obtain ⟨_, _, _, rfl, _⟩ := h
    rfl) (fun cdv A outer s H vs Q E hr h => ?_), F.bindsN (fun _ _ _ _ _ _ us hl => match us, hl with | [_, _], _ => rfl), .nil, F.kp⟩
  obtain ⟨p, f, s, rfl, hs, hv, q⟩ := h
  obtain ⟨dx, v, h1, h2, h3⟩ := hs.ex
  refine ⟨_, (pss_cons (ps_setLc (i := 2) (own := [("turn", 3)]) (g := (gName 3)) rfl sc_Slope_rise.nd rfl rfl (sw_true rfl rfl rfl (by decide +kernel)) (pi_list (hmeth0 (ok_Slope_turns (K := K) T) (hr.mono (by decide)) T.c_Slope T.m_Slope_turns pass0 (pv 0))) (blkOk_by (own := [("turn", 3)]) (N := ["self", "flow", "ahead", "turn"]) (sc := defScope s_Slope_rise) (by decide +kernel)) (fun _ _ _ _ _ => (pg_name (i := 3) sc_Slope_rise.nd rfl (Or.inl rfl))) (fun _ _ _ _ _ => (pts_one (pt_cmpR op_gt (pv 3) (pv 1) (nomark _)))) (fun _ _ _ _ _ => (pv 3)))
      (pss_cons (ps_if (pt_not (ptTruL (pv 2) (by intro _; rfl)))
      (pss_one (ps_ret (pe_tup (pa_cons (pe_int) (pa_cons (pe_int) pa_nil)))))
      pss_nil)
      (pss_one (ps_ret (pe_tup (pa_cons (pe_op op_sub (pe_ix ixL (pv 2) (pe_int) (fun _ _ => rfl)) (pv 1)) (pa_cons (pe_op op_sub (hmeth (ok_Slope_cost_at (K := K) T) (hr.mono (by decide)) T.c_Slope T.m_Slope_cost_at pass0 (pv 0) (pa_cons (pe_op op_add (pv 1) (pe_int)) pa_nil)) (hmeth (ok_Slope_cost_at (K := K) T) (hr.mono (by decide)) T.c_Slope T.m_Slope_cost_at pass0 (pv 0) (pa_cons (pv 1) pa_nil))) pa_nil))))))), ?_⟩
  walk_at "g"
  intro H1 a ts s1 hp hm hl ea
  walk_at "g"
  intro D hD
  refine lcV (wk_listM (ys := ts) (m := V.int)) (fun t => if f < t then some t else none) V.int hD (lstOf ea) (by omega) (fun i x v' H' Ky Kn ex sm _ hv' ky kn => ?_) (fun H2 s2 eD => ?_)
  · subst hv'
    walk_at "g"
    refine ite_d (fun c => ?_) (fun c => ?_)
    · walk_at "g"
      exact ky _ _ (Same.refl _) (if_pos c)
    · walk_at "g"
      exact kn _ (Same.refl _) (if_neg c)
  · rw [fm_filter, List.map_id'] at eD
    have u1 : IsS K H2 p s := hs.same (s1.trans s2)
    obtain ⟨dx2, v2, u2, _⟩ := u1.ex
    walk_at "g"
    cases e : ts.filter (fun t => decide (f < t)) with
    | nil =>
      rw [e] at eD
      refine iteT ?_
      walk_at "g"
      intro t n_t; generalize hG : upd H2 t _ = H3; have s_H3 : Same H2 H3 := nw_same n_t hG; have e_t := nw_at hG; clear hG
      refine q H3 t 0 0 (s1.trans (s2.trans s_H3)) e_t ⟨.inl ⟨rfl, fun k hk => ?_⟩⟩
      have : k ∉ ts.filter (fun t => decide (f < t)) := by
        rw [e]
        exact fun z => nomatch z
      by_cases c : f < k
      · exact absurd (List.mem_filter.mpr ⟨(hm k).mpr hk, decide_eq_true c⟩) this
      · omega
    | cons x r =>
      rw [e] at eD
      have at0 : atI ((x :: r).map V.int) (0 : Int) = some (.int x) := atI_nat (j := 0) rfl
      have hx : x ∈ ts.filter (fun t => decide (f < t)) := by
        rw [e]
        exact List.mem_cons_self
      obtain ⟨hx1, hx2⟩ := List.mem_filter.mp hx
      have hx2 := of_decide_eq_true hx2
      have hpf : (x :: r).Pairwise (· < ·) := by
        rw [← e]
        exact hp.filter _
      refine iteF ?_
      walk_at "g"
      intro t n_t; generalize hG : upd H2 t _ = H3; have s_H3 : Same H2 H3 := nw_same n_t hG; have e_t := nw_at hG; clear hG
      have ef : f + (x - f) = x := by omega
      refine q H3 t (x - f) (cst s (f + 1) - cst s f) (s1.trans (s2.trans s_H3)) e_t ⟨.inr ⟨by omega, by rw [ef]; exact (hm x).mp hx1, fun k hk c => ?_, rfl⟩⟩
      rw [ef]
      have hk2 : k ∈ x :: r := by
        rw [← e]
        exact List.mem_filter.mpr ⟨(hm k).mpr hk, decide_eq_true c⟩
      rcases List.mem_cons.mp hk2 with z | z
      · omega
      · have := List.rel_of_pairwise_cons hpf z
        omega
def sp_Slope_fall (K : PySem.W.Frag) : Sp := fun vs H Q _ => ∃ p f s, vs = [.ref p, .int f] ∧ IsS K H p s ∧ SlV s ∧ ∀ H' a m pr, Same H H' → H' a = some (.tup [.int m, .int pr]) → FallOk s f m pr → Q (.ref a) H'
theorem sc_Slope_fall : FnScope ["self", "flow", "behind", "turn"] ["self", "flow"] (defScope s_Slope_fall) := ⟨rfl, rfl, rfl, by decide +kernel, rfl, by decide +kernel, by decide +kernel⟩
theorem ok_Slope_fall (T : Tx K mg) : Has P w K mg base CX0 3 (A_Slope_fall K) ["self", "flow"] [] (sp_Slope_fall K) := by
  obtain ⟨fd, F⟩ := T.F_Slope_fall
  refine ⟨fd, [], F.ok sc_Slope_fall (fun vs H Q E h => by
    obtain ⟨_, _, _, rfl, _⟩ := h
    rfl) (fun cdv A outer s H vs Q E hr h => ?_), F.bindsN (fun _ _ _ _ _ _ us hl => match us, hl with | [_, _], _ => rfl), .nil, F.kp⟩
  obtain ⟨p, f, s, rfl, hs, hv, q⟩ := h
  obtain ⟨dx, v, h1, h2, h3⟩ := hs.ex
  refine ⟨_, (pss_cons (ps_setLc (i := 2) (own := [("turn", 3)]) (g := (gName 3)) rfl sc_Slope_fall.nd rfl rfl (sw_true rfl rfl rfl (by decide +kernel)) (pi_list (hmeth0 (ok_Slope_turns (K := K) T) (hr.mono (by decide)) T.c_Slope T.m_Slope_turns pass0 (pv 0))) (blkOk_by (own := [("turn", 3)]) (N := ["self", "flow", "behind", "turn"]) (sc := defScope s_Slope_fall) (by decide +kernel)) (fun _ _ _ _ _ => (pg_name (i := 3) sc_Slope_fall.nd rfl (Or.inl rfl))) (fun _ _ _ _ _ => (pts_one (pt_cmpR op_lt (pv 3) (pv 1) (nomark _)))) (fun _ _ _ _ _ => (pv 3)))
      (pss_cons (ps_if (pt_not (ptTruL (pv 2) (by intro _; rfl)))
      (pss_one (ps_ret (pe_tup (pa_cons (pe_int) (pa_cons (pe_int) pa_nil)))))
      pss_nil)
      (pss_one (ps_ret (pe_tup (pa_cons (pe_op op_sub (pv 1) (pe_ix ixL (pv 2) (pe_un un_neg pe_int) (fun _ _ => rfl))) (pa_cons (pe_op op_sub (hmeth (ok_Slope_cost_at (K := K) T) (hr.mono (by decide)) T.c_Slope T.m_Slope_cost_at pass0 (pv 0) (pa_cons (pe_op op_sub (pv 1) (pe_int)) pa_nil)) (hmeth (ok_Slope_cost_at (K := K) T) (hr.mono (by decide)) T.c_Slope T.m_Slope_cost_at pass0 (pv 0) (pa_cons (pv 1) pa_nil))) pa_nil))))))), ?_⟩
  walk_at "g"
  intro H1 a ts s1 hp hm hl ea
  walk_at "g"
  intro D hD
  refine lcV (wk_listM (ys := ts) (m := V.int)) (fun t => if t < f then some t else none) V.int hD (lstOf ea) (by omega) (fun i x v' H' Ky Kn ex sm _ hv' ky kn => ?_) (fun H2 s2 eD => ?_)
  · subst hv'
    walk_at "g"
    refine ite_d (fun c => ?_) (fun c => ?_)
    · walk_at "g"
      exact ky _ _ (Same.refl _) (if_pos c)
    · walk_at "g"
      exact kn _ (Same.refl _) (if_neg c)
  · rw [fm_filter, List.map_id'] at eD
    have u1 : IsS K H2 p s := hs.same (s1.trans s2)
    obtain ⟨dx2, v2, u2, _⟩ := u1.ex
    walk_at "g"
    rcases snoc_cases (ts.filter fun t => decide (t < f)) with e | ⟨r, x, e⟩
    · rw [e] at eD ⊢
      refine iteT ?_
      walk_at "g"
      intro t n_t; generalize hG : upd H2 t _ = H3; have s_H3 : Same H2 H3 := nw_same n_t hG; have e_t := nw_at hG; clear hG
      refine q H3 t 0 0 (s1.trans (s2.trans s_H3)) e_t ⟨.inl ⟨rfl, fun k hk => ?_⟩⟩
      have : k ∉ ts.filter (fun t => decide (t < f)) := by
        rw [e]
        exact fun z => nomatch z
      by_cases c : k < f
      · exact absurd (List.mem_filter.mpr ⟨(hm k).mpr hk, decide_eq_true c⟩) this
      · omega
    · rw [e] at eD ⊢
      have at0 : atI ((r ++ [x]).map V.int) (-1 : Int) = some (.int x) := by
        rw [List.map_append]
        exact atI_last _ _
      have hx : x ∈ ts.filter (fun t => decide (t < f)) := by
        rw [e]
        exact List.mem_append_right _ (List.mem_singleton.mpr rfl)
      obtain ⟨hx1, hx2⟩ := List.mem_filter.mp hx
      have hx2 := of_decide_eq_true hx2
      have hpf : (r ++ [x]).Pairwise (· < ·) := by
        rw [← e]
        exact hp.filter _
      rw [show (!((r ++ [x]).map V.int).isEmpty) = true by simp]
      refine iteF ?_
      walk_at "g"
      intro t n_t; generalize hG : upd H2 t _ = H3; have s_H3 : Same H2 H3 := nw_same n_t hG; have e_t := nw_at hG; clear hG
      have ef : f - (f - x) = x := by omega
      refine q H3 t (f - x) (cst s (f - 1) - cst s f) (s1.trans (s2.trans s_H3)) e_t ⟨.inr ⟨by omega, by rw [ef]; exact (hm x).mp hx1, fun k hk c => ?_, rfl⟩⟩
      rw [ef]
      have hk2 : k ∈ r ++ [x] := by
        rw [← e]
        exact List.mem_filter.mpr ⟨(hm k).mpr hk, decide_eq_true c⟩
      rcases List.mem_append.mp hk2 with z | z
      · have := (List.pairwise_append.mp hpf).2.2 k z x (List.mem_singleton.mpr rfl)
        omega
      · rw [List.mem_singleton.mp z]
        exact Int.le_refl _
def sp_Slope_charges (K : PySem.W.Frag) : Sp := fun vs H Q _ => ∃ p w s, vs = [.ref p, .int w] ∧ IsS K H p s ∧ SlV s ∧ ∀ H' a, ∀ ts : List Int, Same H H' → (∀ k, k ∈ ts ↔ IsTurn s k) → ts.length ≤ 4 → LT prV H' a (ts.map fun t => (cst s t + w * t, t)) → Q (.ref a) H'
theorem sc_Slope_charges : FnScope ["self", "drop", "turn"] ["self", "drop"] (defScope s_Slope_charges) := ⟨rfl, rfl, rfl, by decide +kernel, rfl, by decide +kernel, by decide +kernel⟩
theorem ok_Slope_charges (T : Tx K mg) : Has P w K mg base CX0 3 (A_Slope_charges K) ["self", "drop"] [] (sp_Slope_charges K) := by
  obtain ⟨fd, F⟩ := T.F_Slope_charges
  refine ⟨fd, [], F.ok sc_Slope_charges (fun vs H Q E h => by
    obtain ⟨_, _, _, rfl, _⟩ := h
    rfl) (fun cdv A outer s H vs Q E hr h => ?_), F.bindsN (fun _ _ _ _ _ _ us hl => match us, hl with | [_, _], _ => rfl), .nil, F.kp⟩
  obtain ⟨p, dr, s, rfl, hs, hv, q⟩ := h
  obtain ⟨dx, v, h1, h2, h3⟩ := hs.ex
  refine ⟨_, (pss_one (ps_ret (pe_lc (own := [("turn", 2)]) (g := (gName 2)) rfl sc_Slope_charges.nd (pi_list (hmeth0 (ok_Slope_turns (K := K) T) (hr.mono (by decide)) T.c_Slope T.m_Slope_turns pass0 (pv 0))) (blkOk_by (own := [("turn", 2)]) (N := ["self", "drop", "turn"]) (sc := defScope s_Slope_charges) (by decide +kernel)) (fun _ _ _ _ _ => (pg_name (i := 2) sc_Slope_charges.nd rfl (Or.inl rfl))) (fun _ _ _ _ _ => pts_nil) (fun _ _ _ _ _ => (pe_tup (pa_cons (pe_op op_add (hmeth (ok_Slope_cost_at (K := K) T) (hr.mono (by decide)) T.c_Slope T.m_Slope_cost_at pass0 (pv 0) (pa_cons (pv 2) pa_nil)) (pe_op op_mul (pv 1) (pv 2))) (pa_cons (pv 2) pa_nil))))))), ?_⟩
  walk_at "g"
  intro H1 a ts s1 _ hm hl ea
  walk_at "g"
  intro D hD
  refine lcG (wk_listM (ys := ts) (m := V.int)) (fun t => some (cst s t + dr * t, t)) (fun x v H => TupR (prV x) v H) rmL_tup hD (lstOf ea) (by omega) (fun i x v' H' Ky Kn ex sm _ hv' ky kn => ?_) (fun H2 ys s2 eD a2 => ?_)
  · subst hv'
    have u1 : IsS K H' p s := hs.same (s1.trans sm)
    obtain ⟨dx', v', u2, _⟩ := u1.ex
    obtain ⟨t1, t2⟩ := turn_in hv ((hm x).mp (List.mem_of_getElem? ex))
    have b1 := hv.a
    have b2 := hv.c
    walk_at "g"
    intro t n_t; generalize hG : upd H' t _ = H4; have s_H4 : Same H' H4 := nw_same n_t hG; have e_t := nw_at hG; clear hG
    exact ky _ H4 _ s_H4 rfl ⟨t, rfl, e_t⟩
  · rw [fm_map] at a2
    walk_at "g"
    exact q H2 D ts (s1.trans s2) hm hl ⟨ys, eD, a2⟩
end
end M
end
-- part W18
section
set_option Elab.async false
set_option linter.all false
set_option maxRecDepth 100000
set_option maxHeartbeats 4000000
namespace M
open PySem PySem.Spec PyProof.Rows L2
local macro_rules | `(tactic| walk_at "e") => `(tactic| (first
  | exact rfl
  | assumption
  | exact upd_same
  | exact flat_strs
  | exact fd_keys
  | ((with_reducible apply same_at); assumption; walk_at "f")
  | ((with_reducible apply at_upd); assumption; walk_at "f")
  | omega))
local macro_rules | `(tactic| walk_at "n") => `(tactic| (first
  | assumption
  | omega
  | exact Nat.le_of_lt (small1000 (by first | assumption | omega))
  | exact (Nat.zero_le _ : 0 ≤ sizeLine)
  | exact (by decide : 1 ≤ sizeLine)
  | exact (by decide : 2 ≤ sizeLine)
  | exact (by decide : 3 ≤ sizeLine)
  | exact (by decide : 5 ≤ sizeLine)
  | exact (by decide : 6 ≤ sizeLine)
  | (show _ < 1000; exact of_decide_eq_true rfl)
  | exact len2 (by omega) (by omega)
  | exact small1000 (by first | assumption | omega)))
local macro_rules | `(tactic| walk_at "f") => `(tactic| (first
  | with_reducible assumption
  | ((with_reducible apply gEq); walk_at "e")
  | ((with_reducible apply gLe); walk_at "n")
  | ((with_reducible apply gLt); walk_at "n")
  | ((with_reducible apply gNot); (first | assumption | omega))
  | with_reducible exact Same.refl _
  | ((with_reducible apply tupOf); walk_at "f")
  | ((with_reducible apply lstOf); walk_at "f")
  | ((with_reducible apply gCls); assumption)
  | ((with_reducible apply gNoAttr); assumption)
  | ((with_reducible apply gIsPl); assumption)
  | ((with_reducible apply gStL); assumption)
  | ((with_reducible apply gIntD); assumption)
  | ((with_reducible apply gSqT); assumption)
  | ((with_reducible apply gSqL); assumption)
  | ((with_reducible apply tyV_l); walk_at "f")
  | ((with_reducible apply Rd.of); walk_at "f")
  | ((with_reducible apply dget_ne); assumption; assumption)
  | ((with_reducible apply dget_fd) <;> walk_at "f")
  | ((with_reducible apply dput_int) <;> walk_at "f")
  | ((with_reducible apply dput_fd) <;> walk_at "f")
  | ((with_reducible apply rd_upd); assumption; walk_at "f")
  | ((with_reducible apply same_put); walk_at "f"; assumption)
  | ((with_reducible apply sx_upd) <;> walk_at "f")
  | ((with_reducible refine Same.trans ?_ (by assumption)); walk_at "f")
  | ((with_reducible apply cmulLg); omega; omega)
  | ((with_reducible apply cmulRg); omega; omega)
  | ((with_reducible apply SameE.upd); walk_at "f")
  | ((with_reducible apply StL.same); assumption; walk_at "f")
  | ((with_reducible apply LT.same); assumption; walk_at "f")
  | ((with_reducible apply IsP.same); assumption; walk_at "f")
  | ((with_reducible apply IsPl.same); assumption; walk_at "f")
  | ((with_reducible apply IntD.same); assumption; walk_at "f")
  | ((with_reducible apply PrD.same); assumption; walk_at "f")
  | ((with_reducible apply Or.inl); walk_at "f")
  | ((with_reducible apply Or.inr); walk_at "f")))
local macro_rules | `(tactic| walk_at "g") => `(tactic| repeat (first
  | with_reducible apply And.intro
  | with_reducible apply Exists.intro
  | walk_at "f"
  | ((with_reducible apply iteT); assumption)
  | ((with_reducible apply iteF); assumption)
  | ((with_reducible apply iteD); (first | assumption | omega))
  | ((with_reducible apply iteN); (first | assumption | omega))
  | ((with_reducible apply iteD2); (first | assumption | omega))
  | ((with_reducible apply iteN2); (first | assumption | omega))
  | apply And.intro
  | apply Exists.intro))
section
variable {P : Program} {w : World} {K : PySem.W.Frag} {mg : Str → Option Value} {base : Heap}
/-- what is known of a def that is called with keywords -/
def HasK (P : Program) (w : World) (K : PySem.W.Frag) (mg : Str → Option Value) (base : Heap) (CX : CXT) (k : Nat) (f : Addr) (ps : List Str) (n : Nat) (ks : List Str) (gV : List V → List V → List V) (sp : Sp) : Prop :=
  ∃ fd g, FnOk P w K mg base CX k f fd ps sp ∧ KBn K fd ps n ks g gV ∧ PySem.W.keepIn K (.ref f) = true
theorem hck {X : Cx} {CX : CXT} {k n : Nat} {f : Addr} {ps ks : List Str} {gV : List V → List V → List V} {sp : Sp} {E : XK} {x : Str} {e : Expr} {es : List Expr} {kws : List Keyword} {t tk : TA} {pos npos : Pos}
    (G : HasK X.prog X.w X.K X.mg X.base CX k f ps n ks gV sp) (hr : Room k X.A) (hm : X.mg x = some (.ref f)) (hx : Passes CX X E) (ha : PA X (e :: es) t) (hkw : PK X kws tk) (hg : Gl X x := by rfl)
    (hall : (backToKw pos (keywordEach kws X.env)).all (·.1.isSome) = true := by rfl) (hks : (backToKw pos (keywordEach kws X.env)).filterMap (·.1) = ks := by rfl)
    (hdb : (x == ("__debug__" : Str)) = false := by decide) (he : starEach (e :: es) X.env = (false, eval e X.env) :: starEach es X.env := by rfl)
    (hpl : ((backTo pos (starEach (e :: es) X.env)).any (·.1) || (backToKw pos (keywordEach kws X.env)).any (·.1.isNone)) = false := by rfl) : PE X (.Call (.Name x npos) (e :: es) kws pos) (tCallN n ks.length sp gV E t tk) := by
  obtain ⟨fd, g, F, b, kp⟩ := G
  exact pe_callN F hr hg hm kp b hx ha hkw hall hks hdb he hpl
def oV : Option Int → V
  | none => .non
  | some w => .int w
def limW (rk : List Str) (rf : Str → Int × Int) (pr : Str → Int) (w : Int) (s : Strm) : Int × Int :=
  if s.name ∈ rk then (mx s.low ((rf s.name).1 - ((rf s.name).2 + w.fdiv (pr s.name))), mn s.high ((rf s.name).1 + ((rf s.name).2 + w.fdiv (pr s.name)))) else (s.low, s.high)
def limN (rk : List Str) (rf : Str → Int × Int) (pr : Str → Int) (wo : Option Int) (s : Strm) : Int × Int := match wo with
  | none => (s.low, s.high)
  | some w => limW rk rf pr w s
def sp_narrowed (K : PySem.W.Frag) : Sp := fun vs H Q _ => ∃ p pl d rk rf dp pk pr wo, vs = [.ref p, .ref d, .ref dp, oV wo] ∧ IsPl K H p pl ∧ PV pl ∧ PrD H d rk rf ∧ RdV pl rk rf ∧ IntD H dp pk pr ∧ (∀ n ∈ rk, n ∈ pk ∧ 1 ≤ pr n ∧ pr n ≤ 1000000) ∧
  ∀ H' a lim, Same H H' → H a = none → (∀ s ∈ pl.ss, lim s.name = limN rk rf pr wo s) → PrD H' a pl.names lim → Q (.ref a) H'
theorem sc_narrowed : FnScope ["plant", "readings", "prices", "worst", "limits", "name", "number", "tolerance", "low", "high", "far"] ["plant", "readings", "prices", "worst"] (defScope s_narrowed) := ⟨rfl, rfl, rfl, by decide +kernel, rfl, by decide +kernel, by decide +kernel⟩
theorem ok_narrowed (T : Tx K mg) : HasK P w K mg base CX0 4 (A_narrowed K) ["plant", "readings", "prices", "worst"] 3 ["worst"] (fun vs zs => vs ++ zs) (sp_narrowed K) := by
  obtain ⟨fd, F⟩ := T.F_narrowed
  obtain ⟨mv, hb⟩ := F.kbinds0 (ps := ["plant", "readings", "prices", "worst"]) 3 ["worst"] [] (fun vs mz zs => vs ++ zs) (by simp) (fun q h => nomatch h) (fun r1 _ r3 => r1.append r3) (fun D doc pm an cdv ct us mv ws h1 h2 h3 => match us, ws, h1, h3 with | [_, _, _], [_], _, _ => rfl)
  refine ⟨fd, _, F.ok sc_narrowed (fun vs H Q E h => by
    obtain ⟨_, _, _, _, _, _, _, _, _, rfl, _⟩ := h
    rfl) (fun cdv A outer s H vs Q E hr h => ?_), hb, F.kp⟩
  obtain ⟨p, pl, d, rk, rf, dp, pk, pr, wo, rfl, hP, hpv, hd, hv, hp, hk, q⟩ := h
  obtain ⟨kl, sl, dx, hO⟩ := hP.ex
  have hob := hO.ob
  have hkl := hpv.kl
  have hsl := hpv.sl
  have hln := hpv.ln
  obtain ⟨r, hd1, hd2⟩ := hd.ex
  have hrl := hv.ln hpv
  refine ⟨_, (pss_cons (ps_expr (hc (ok_limits_of (K := K) T) (hr.mono (by decide)) T.g_limits_of pass0 (pa_cons (pv 0) (pa_cons (pv 1) pa_nil))))
      (pss_cons (ps_set (i := 4) sc_narrowed.nd rfl (Or.inl rfl) (hc (ok_limits_of (K := K) T) (hr.mono (by decide)) T.g_limits_of pass0 (pa_cons (pv 0) (pa_cons (pe_dnewK) pa_nil))))
      (pss_cons (psCut (ps_if (pt_cmpR op_notN (pv 3) (pe_non) (nomark _))
      (pss_one (psLockN 1 (psFor (passes_of rfl) rfl (pi_items (pv 1)) (pg_tup (by rfl) (pgs_cons (pg_name (i := 5) sc_narrowed.nd rfl (Or.inl rfl)) (pgs_cons (pg_tup (by rfl) (pgs_cons (pg_name (i := 6) sc_narrowed.nd rfl (Or.inl rfl)) (pgs_cons (pg_name (i := 7) sc_narrowed.nd rfl (Or.inl rfl)) pgs_nil))) pgs_nil)))
      (pss_cons (ps_asg (pe_dget (hu_of hr) (pv 4) (pv 5) (fun _ _ => rfl)) (pg_tup (by rfl) (pgs_cons (pg_name (i := 8) sc_narrowed.nd rfl (Or.inl rfl)) (pgs_cons (pg_name (i := 9) sc_narrowed.nd rfl (Or.inl rfl)) pgs_nil))))
      (pss_cons (ps_set (i := 10) sc_narrowed.nd rfl (Or.inl rfl) (pe_op op_add (pv 7) (pe_op op_fdivN (pv 3) (pe_dget (hu_of hr) (pv 2) (pv 5) (fun _ _ => rfl)))))
      (pss_one (ps_dput (hu_of hr) (pv 4) (pv 5) (pe_tup (pa_cons (pe_callB (call_max2 rfl) (by rfl) T.b_max (by decide +kernel) (pa_cons (pv 8) (pa_cons (pe_op op_sub (pv 6) (pv 10)) pa_nil))) (pa_cons (pe_callB (call_min2 rfl) (by rfl) T.b_min (by decide +kernel) (pa_cons (pv 9) (pa_cons (pe_op op_add (pv 6) (pv 10)) pa_nil))) pa_nil))) rfl)))))))
      pss_nil))
      (pss_one (ps_ret (pv 4)))))), ?_⟩
  walk_at "g"
  intro H1 _ _ s1 _ _ _
  have hP1 := hP.same s1
  walk_at "g"
  intro e n_e; generalize hG : upd H1 e _ = H2; have s_H2 : Same H1 H2 := nw_same n_e hG; have e_e := nw_at hG; clear hG
  have hP2 := hP1.same s_H2
  have he : PrD H2 e [] rf := ⟨fun _ => 0, e_e, fun k h => (nomatch h)⟩
  have hve : RdV pl [] rf := ⟨List.nodup_nil, fun n h => (nomatch h), fun n h => (nomatch h)⟩
  walk_at "g"
  intro H3 D lim0 s3 nD hl0 hL0
  have hDH : H D = none := (s1.trans s_H2).free nD
  have hl0 : ∀ s ∈ pl.ss, lim0 s.name = (s.low, s.high) := fun s hs => hl0 s hs
  have sm3 : Same H H3 := s1.trans (s_H2.trans s3)
  walk_at "g"
  refine Cut.of (fun σ H' => Hold (∃ y5 y6 y7 y8 y9 y10, ∃ lim : Str → Int × Int, σ = [some (.ref p), some (.ref d), some (.ref dp), some (oV wo), some (.ref D), y5, y6, y7, y8, y9, y10] ∧ Same H H' ∧ PrD H' D pl.names lim ∧ ∀ s ∈ pl.ss, lim s.name = limN rk rf pr wo s)) ?_ (fun σ H' hh => by
    obtain ⟨y5, y6, y7, y8, y9, y10, lim, rfl, t1, t2, t3⟩ := hh.go
    walk_at "g"
    exact q H' D lim t1 hDH t3 t2)
  cases wo with
  | none =>
    have e2 : ¬ ¬ V.non = V.non := fun z => z rfl
    walk_at "g"
    exact ⟨_, _, _, _, _, _, lim0, rfl, sm3, hL0, hl0⟩
  | some wst =>
    have e2 : ¬ V.int wst = V.non := fun z => by cases z
    have hd13 := sm3 _ _ hd1
    obtain ⟨r0, hL1, hL2⟩ := hL0.ex
    walk_at "g"
    intro od
    generalize hG : upd H3 d _ = H0
    have e0 := nw_at hG
    have hDd : D ≠ d := (ne_of_none hd1 hDH).symm
    have g1 : Rd H0 dp (.dK (fdV pk fun k => .int (pr k))) := hG ▸ rd_lock hd13 trivial (.inl (sm3 _ _ hp))
    have g2 : ∀ n ∈ rk, H0 (r n) = some (.tup [.int (rf n).1, .int (rf n).2]) := fun n hn => hG ▸ lock_ne hd13 (sm3 _ _ (hd2 n hn)) (fun e => by cases e)
    have g3 : H0 D = some (.dK (fdV pl.names fun k => .ref (r0 k))) := by
      rw [← hG]
      exact at_upd hDd hL1
    have g4 : ∀ n ∈ pl.names, H0 (r0 n) = some (.tup [.int (lim0 n).1, .int (lim0 n).2]) := fun n hn => hG ▸ lock_ne hd13 (hL2 n hn) (fun e => by cases e)
    have hdpD : dp ≠ D := ne_of_none hp hDH
    have hdD : d ≠ D := hDd.symm
    walk_at "g"
    refine ⟨forG wk_items (fun i σ H' => Hold (∃ y5 y6 y7 y8 y9 y10, ∃ lim : Str → Int × Int, σ = [some (.ref p), some (.ref d), some (.ref dp), some (.int wst), some (.ref D), y5, y6, y7, y8, y9, y10] ∧ SameE D H0 H' ∧ PrD H' D pl.names lim ∧ ∀ s ∈ pl.ss, lim s.name = limW (rk.take i) rf pr wst s))
      ⟨none, none, none, none, none, none, lim0, rfl, SameE.refl, ⟨r0, g3, g4⟩, fun s hs => by
        rw [hl0 s hs]
        exact (if_neg (fun h => nomatch h)).symm⟩ (fun i σ H' _ h => ?_) (fun i kv v σ H' H'' ex h s5 hv2 => ?_) (fun σ H' h => ?_)⟩
    · obtain ⟨y5, y6, y7, y8, y9, y10, lim, rfl, t1, t2, t3⟩ := h.go
      exact t1 _ _ hdD e0
    · obtain ⟨y5, y6, y7, y8, y9, y10, lim, rfl, t1, t2, t3⟩ := h.go
      obtain ⟨T2, rfl, hT⟩ := hv2
      obtain ⟨n, exn, rfl⟩ : ∃ n, rk[i]? = some n ∧ kv = (kS n, .ref (r n)) := by
        unfold fdV at ex
        rw [List.getElem?_map] at ex
        cases e : rk[i]? with
        | none =>
          rw [e] at ex
          cases ex
        | some n =>
          rw [e] at ex
          exact ⟨n, rfl, (Option.some.inj ex).symm⟩
      have hn := List.mem_of_getElem? exn
      have hnN := hv.inN n hn
      obtain ⟨s0, hs0, hsn⟩ := List.mem_map.mp hnN
      obtain ⟨k1, k2, k3⟩ := hk n hn
      obtain ⟨rr, u1, u2⟩ := t2.ex
      have w1 : SameE D H0 H'' := t1.trans (.of s5)
      have hrD : r n ≠ D := ne_at (g2 n hn) g3 (fun e => by cases e)
      have w2 := w1 _ _ hrD (g2 n hn)
      have w3 : Rd H'' dp (.dK (fdV pk fun k => .int (pr k))) := g1.elim (fun h => .inl (w1 _ _ hdpD h)) fun ⟨o, h⟩ => .inr ⟨o, w1 _ _ hdpD h⟩
      have w4 := s5 _ _ u1
      have w5 : Rd H'' D (.dK (fdV pl.names fun k => .ref (rr k))) := .inl w4
      have w6 := s5 _ _ (u2 n hnN)
      have hT' : H'' T2 = some (.tup [.str n, .ref (r n)]) := hT
      have hnt : n ∉ rk.take i := fun z => by
        obtain ⟨j, hj, ej⟩ := List.mem_take_iff_getElem.mp z
        have hi := (List.getElem?_eq_some_iff.mp exn).1
        exact List.pairwise_iff_getElem.mp hv.nd j i (by omega) hi (by omega) (by rw [ej, (List.getElem?_eq_some_iff.mp exn).2])
      have el : lim n = (s0.low, s0.high) := by
        have := t3 s0 hs0
        rw [hsn] at this
        rw [this]
        unfold limW
        rw [hsn, if_neg hnt]
      have el1 : (lim n).1 = s0.low := by rw [el]
      have el2 : (lim n).2 = s0.high := by rw [el]
      walk_at "g"
      intro ta n_ta; generalize hG : upd H'' ta _ = H4; have s_H4 : Same H'' H4 := nw_same n_ta hG; have e_ta := nw_at hG; clear hG
      have x4 : H4 D = some (.dK (fdV pl.names fun k => .ref (rr k))) := s_H4 _ _ w4
      walk_at "g"
      refine ⟨_, _, _, _, _, _, up lim n (mx (lim n).1 ((rf n).1 - ((rf n).2 + wst.fdiv (pr n))), mn (lim n).2 ((rf n).1 + ((rf n).2 + wst.fdiv (pr n)))), rfl, (w1.trans (.of s_H4)).upd, ⟨up rr n ta, ?_, fun k hk => ?_⟩, fun s hs => ?_⟩
      · rw [upd_same, up_ref]
      · by_cases e : k = n
        · subst e
          rw [up_same, up_same]
          exact at_upd (ne_at e_ta x4 (fun e => by cases e)) e_ta
        · rw [up_ne e, up_ne e]
          have := s_H4 _ _ (s5 _ _ (u2 k hk))
          exact at_upd (ne_at this x4 (fun e => by cases e)) this
      · by_cases e : s.name = n
        · have es : s = s0 := same_strm hpv.nn hs hs0 (e.trans hsn.symm)
          rw [es, hsn, up_same, el]
          unfold limW
          rw [hsn, take_snoc exn, if_pos (List.mem_append_right _ (List.mem_singleton.mpr rfl))]
        · rw [up_ne e, t3 s hs]
          unfold limW
          have : s.name ∈ rk.take (i + 1) ↔ s.name ∈ rk.take i := by
            rw [take_snoc exn, List.mem_append, List.mem_singleton]
            exact ⟨fun h => h.resolve_right e, .inl⟩
          by_cases c : s.name ∈ rk.take i
          · rw [if_pos c, if_pos (this.mpr c)]
          · rw [if_neg c, if_neg fun z => c (this.mp z)]
    · obtain ⟨y5, y6, y7, y8, y9, y10, lim, rfl, t1, t2, t3⟩ := h.go
      have ed := t1 _ _ hdD e0
      have el : (fdV rk fun k => V.ref (r k)).length = rk.length := fd_len
      rw [el, List.take_length] at t3
      refine ⟨ed, ⟨_, _, _, _, _, _, lim, rfl, ?_, ?_, t3⟩⟩
      · intro b o e
        by_cases z : b = d
        · subst z
          rw [upd_same]
          exact hd1.symm.trans e
        · rw [upd_ne z]
          refine t1 _ _ (ne_of_none e hDH) ?_
          rw [← hG, upd_ne z]
          exact sm3 _ _ e
      · obtain ⟨rr, u1, u2⟩ := t2.ex
        exact ⟨rr, at_upd hDd u1, fun n hn => at_upd (ne_at (u2 n hn) ed (fun e => by cases e)) (u2 n hn)⟩
end
end M
end
-- part W19
section
set_option Elab.async false
set_option linter.all false
set_option maxRecDepth 100000
set_option maxHeartbeats 4000000
namespace M
open PySem PySem.Spec PyProof.Rows L2
local macro_rules | `(tactic| walk_at "e") => `(tactic| (first
  | exact rfl
  | assumption
  | exact upd_same
  | exact flat_strs
  | exact fd_keys
  | ((with_reducible apply same_at); assumption; walk_at "f")
  | ((with_reducible apply at_upd); assumption; walk_at "f")
  | omega))
local macro_rules | `(tactic| walk_at "n") => `(tactic| (first
  | assumption
  | omega
  | exact Nat.le_of_lt (small1000 (by first | assumption | omega))
  | exact (Nat.zero_le _ : 0 ≤ sizeLine)
  | exact (by decide : 1 ≤ sizeLine)
  | exact (by decide : 2 ≤ sizeLine)
  | exact (by decide : 3 ≤ sizeLine)
  | exact (by decide : 5 ≤ sizeLine)
  | exact (by decide : 6 ≤ sizeLine)
  | (show _ < 1000; exact of_decide_eq_true rfl)
  | exact len2 (by omega) (by omega)
  | exact small1000 (by first | assumption | omega)))
local macro_rules | `(tactic| walk_at "f") => `(tactic| (first
  | with_reducible assumption
  | ((with_reducible apply gEq); walk_at "e")
  | ((with_reducible apply gLe); walk_at "n")
  | ((with_reducible apply gLt); walk_at "n")
  | ((with_reducible apply gNot); (first | assumption | omega))
  | with_reducible exact Same.refl _
  | ((with_reducible apply tupOf); walk_at "f")
  | ((with_reducible apply lstOf); walk_at "f")
  | ((with_reducible apply gCls); assumption)
  | ((with_reducible apply gNoAttr); assumption)
  | ((with_reducible apply gIsPl); assumption)
  | ((with_reducible apply gStL); assumption)
  | ((with_reducible apply gIntD); assumption)
  | ((with_reducible apply gSqT); assumption)
  | ((with_reducible apply gSqL); assumption)
  | ((with_reducible apply tyV_l); walk_at "f")
  | ((with_reducible apply Rd.of); walk_at "f")
  | ((with_reducible apply dget_ne); assumption; assumption)
  | ((with_reducible apply dget_fd) <;> walk_at "f")
  | ((with_reducible apply dput_int) <;> walk_at "f")
  | ((with_reducible apply dput_fd) <;> walk_at "f")
  | ((with_reducible apply rd_upd); assumption; walk_at "f")
  | ((with_reducible apply same_put); walk_at "f"; assumption)
  | ((with_reducible apply sx_upd) <;> walk_at "f")
  | ((with_reducible refine Same.trans ?_ (by assumption)); walk_at "f")
  | ((with_reducible apply cmulLg); omega; omega)
  | ((with_reducible apply cmulRg); omega; omega)
  | ((with_reducible apply SameE.upd); walk_at "f")
  | ((with_reducible apply StL.same); assumption; walk_at "f")
  | ((with_reducible apply LT.same); assumption; walk_at "f")
  | ((with_reducible apply IsP.same); assumption; walk_at "f")
  | ((with_reducible apply IsPl.same); assumption; walk_at "f")
  | ((with_reducible apply IntD.same); assumption; walk_at "f")
  | ((with_reducible apply PrD.same); assumption; walk_at "f")
  | ((with_reducible apply Or.inl); walk_at "f")
  | ((with_reducible apply Or.inr); walk_at "f")))
local macro_rules | `(tactic| walk_at "g") => `(tactic| repeat (first
  | with_reducible apply And.intro
  | with_reducible apply Exists.intro
  | walk_at "f"
  | ((with_reducible apply iteT); assumption)
  | ((with_reducible apply iteF); assumption)
  | ((with_reducible apply iteD); (first | assumption | omega))
  | ((with_reducible apply iteN); (first | assumption | omega))
  | ((with_reducible apply iteD2); (first | assumption | omega))
  | ((with_reducible apply iteN2); (first | assumption | omega))
  | apply And.intro
  | apply Exists.intro))
section
variable {P : Program} {w : World} {K : PySem.W.Frag} {mg : Str → Option Value} {base : Heap}
structure SlD (K : PySem.W.Frag) (H : Hp) (a : Addr) (ks : List Str) (sl : Str → Slp) : Prop where
  ex : ∃ r : Str → Addr, H a = some (.dK (fdV ks fun k => .ref (r k))) ∧ ∀ n ∈ ks, IsS K H (r n) (sl n)
theorem SlD.same {K : PySem.W.Frag} {H H' : Hp} {a : Addr} {ks : List Str} {sl : Str → Slp} (s : Same H H') (h : SlD K H a ks sl) : SlD K H' a ks sl :=
  ⟨h.ex.imp fun r h => ⟨s _ _ h.1, fun n hn => (h.2 n hn).same s⟩⟩
theorem IsS.sx {K : PySem.W.Frag} {H H' : Hp} {p : Addr} {s : Slp} (m : SameX ND H H') (h : IsS K H p s) : IsS K H' p s := by
  obtain ⟨dx, v, h1, h2, h3⟩ := h.ex
  exact ⟨dx, v, m _ _ (fun ys e => by cases e) h1, h2, fun r e => by
    obtain ⟨t, e2, h⟩ := h3 r e
    exact ⟨t, e2, m _ _ (fun ys e => by cases e) h⟩⟩
def slN (lim : Str → Int × Int) (rk : List Str) (rf : Str → Int × Int) (pk : List Str) (pr : Str → Int) (n : Str) : Slp :=
  ⟨(lim n).1, (lim n).2, if n ∈ rk then some (rf n) else none, if n ∈ pk then pr n else 0⟩
def adr : V → Addr
  | .ref q => q
  | _ => 0
theorem choose_fd {ks : List Str} {r : Str → V} {R : Str → Addr → Prop} (h : ∀ n ∈ ks, ∃ q, r n = .ref q ∧ R n q) : ∃ g : Str → Addr, (∀ n ∈ ks, r n = .ref (g n)) ∧ ∀ n ∈ ks, R n (g n) := by
  refine ⟨fun n => adr (r n), fun n hn => ?_, fun n hn => ?_⟩
  · obtain ⟨q, e, _⟩ := h n hn
    show r n = .ref (adr (r n))
    rw [e]
    rfl
  · obtain ⟨q, e, x⟩ := h n hn
    show R n (adr (r n))
    rw [e]
    exact x
def sp_slopes_of (K : PySem.W.Frag) : Sp := fun vs H Q _ => ∃ p pl d rk rf dp pk pr, vs = [.ref p, .ref d, .ref dp, .non] ∧ IsPl K H p pl ∧ PV pl ∧ PrD H d rk rf ∧ RdV pl rk rf ∧ IntD H dp pk pr ∧ (∀ n ∈ rk, n ∈ pk ∧ 1 ≤ pr n ∧ pr n ≤ 1000000) ∧
  ∀ H' a lim, Same H H' → H a = none → (∀ s ∈ pl.ss, lim s.name = (s.low, s.high)) → SlD K H' a pl.names (slN lim rk rf pk pr) → Q (.ref a) H'
theorem sc_slopes_of : FnScope ["plant", "readings", "prices", "worst", "limits", "low", "high", "name"] ["plant", "readings", "prices", "worst"] (defScope s_slopes_of) := ⟨rfl, rfl, rfl, by decide +kernel, rfl, by decide +kernel, by decide +kernel⟩
theorem ok_slopes_of (T : Tx K mg) : Has P w K mg base CX0 5 (A_slopes_of K) ["plant", "readings", "prices", "worst"] [] (sp_slopes_of K) := by
  obtain ⟨fd, F⟩ := T.F_slopes_of
  refine ⟨fd, [], F.ok sc_slopes_of (fun vs H Q E h => by
    obtain ⟨_, _, _, _, _, _, _, _, rfl, _⟩ := h
    rfl) (fun cdv A outer s H vs Q E hr h => ?_), F.bindsN (fun _ _ _ _ _ _ us hl => match us, hl with | [_, _, _, _], _ => rfl), .nil, F.kp⟩
  obtain ⟨p, pl, d, rk, rf, dp, pk, pr, rfl, hP, hpv, hd, hv, hp, hk, q⟩ := h
  obtain ⟨kl, sl, dx, hO⟩ := hP.ex
  have hob := hO.ob
  have hkl := hpv.kl
  have hsl := hpv.sl
  have hln := hpv.ln
  obtain ⟨r, hd1, hd2⟩ := hd.ex
  refine ⟨_, (pss_cons (ps_set (i := 4) sc_slopes_of.nd rfl (Or.inr rfl) (hck (ok_narrowed (K := K) T) (hr.mono (by decide)) T.g_narrowed pass0 (pa_cons (pv 0) (pa_cons (pv 1) (pa_cons (pv 2) pa_nil))) (pk_cons (pv 3) pk_nil)))
      (pss_cons (ps_if (pt_val (pe_callB (anyL rfl) (by rfl) T.b_any (by decide +kernel) (pa_cons (peLockN 4 (pe_lc (own := [("low", 5), ("high", 6)]) (g := (gTup K 2 (gCons (gName 5) (gCons (gName 6) gNil)))) rfl sc_slopes_of.nd (pi_values (pv 4)) (blkOk_by (own := [("low", 5), ("high", 6)]) (N := ["plant", "readings", "prices", "worst", "limits", "low", "high", "name"]) (sc := defScope s_slopes_of) (by decide +kernel)) (fun _ _ _ _ _ => (pg_tup (by rfl) (pgs_cons (pg_name (i := 5) sc_slopes_of.nd rfl (Or.inl rfl)) (pgs_cons (pg_name (i := 6) sc_slopes_of.nd rfl (Or.inl rfl)) pgs_nil)))) (fun _ _ _ _ _ => pts_nil) (fun _ _ _ _ _ => (pe_cmpR op_gt (pv 5) (pv 6) (nomark _))))) pa_nil)))
      (pss_one (ps_never))
      pss_nil)
      (pss_one (ps_ret (peLockN 4 (pe_dc (own := [("name", 7)]) (g := (gName 7)) rfl sc_slopes_of.nd (piKeys (pv 4)) (blkOk_by (own := [("name", 7)]) (N := ["plant", "readings", "prices", "worst", "limits", "low", "high", "name"]) (sc := defScope s_slopes_of) (by decide +kernel)) (fun _ _ _ _ _ => (pg_name (i := 7) sc_slopes_of.nd rfl (Or.inl rfl))) (fun _ _ _ _ _ => pts_nil) (fun _ _ _ _ _ => (pv 7)) (fun _ _ _ _ _ => (hmk (ok_Slope_init (K := K) T) (hr.mono (by decide)) T.k_Slope T.g_Slope pass0 (pa_cons (pe_dget (hu_of hr) (pv 4) (pv 7) (fun _ _ => rfl)) (pa_cons (pe_dget1 (hu_of hr) (pv 1) (pv 7) ⟨rfl, rfl, rfl, rfl⟩) (pa_cons (pe_dget2 (hu_of hr) (pv 2) (pv 7) (pe_int) ⟨rfl, rfl, rfl, rfl⟩) pa_nil))))))))))), ?_⟩
  have hv0 : [V.ref p, V.ref d, V.ref dp, V.non] = [V.ref p, V.ref d, V.ref dp, oV none] := rfl
  walk_at "g"
  intro H1 D lim s1 nD hl hL
  have hl : ∀ s ∈ pl.ss, lim s.name = (s.low, s.high) := fun s hs => hl s hs
  obtain ⟨r0, hL1, hL2⟩ := hL.ex
  walk_at "g"
  intro od
  generalize hG : upd H1 D _ = H0
  have e0 := nw_at hG
  have g4 : ∀ n ∈ pl.names, H0 (r0 n) = some (.tup [.int (lim n).1, .int (lim n).2]) := fun n hn => hG ▸ lock_ne hL1 (hL2 n hn) (fun e => by cases e)
  have s0 : ∀ {H'}, Same H0 H' → Same H1 (upd H' D (.dK (fdV pl.names fun k => .ref (r0 k)))) := fun s => same_unlock hL1 (hG ▸ s)
  clear hG
  walk_at "g"
  intro B hB
  refine lcV wk_vals (fun kv => some false) V.bl hB e0 (by rw [fd_len]; omega) (fun i x v H' Ky Kn ex sm _ hv2 ky kn => ?_) (fun H2 s2 e2 => ?_)
  · subst hv2
    obtain ⟨n, hn, rfl⟩ := List.mem_map.mp (List.mem_of_getElem? ex)
    obtain ⟨s9, hs, rfl⟩ := List.mem_map.mp hn
    have u1 := sm _ _ (g4 _ hn)
    have hlow := (hpv.bd s9 hs).2.1
    have el := hl s9 hs
    walk_at "g"
    have e5 : decide ((lim s9.name).2 < (lim s9.name).1) = false := decide_eq_false (by rw [el]; show ¬ s9.high < s9.low; omega)
    show Ky (.bl (decide ((lim s9.name).2 < (lim s9.name).1))) H'
    rw [e5]
    exact ky _ false (Same.refl _) rfl
  · have f1 := s2 _ _ e0
    have hBD : B ≠ D := (ne_of_none e0 hB).symm
    have sm2 := s0 s2
    have e2' := at_upd (o := .dK (fdV pl.names fun k => .ref (r0 k))) hBD e2
    refine ⟨f1, ?_⟩
    generalize upd H2 D _ = H3 at sm2 e2' ⊢
    walk_at "g"
    rw [show ((fdV pl.names fun k => V.ref (r0 k)).filterMap fun kv => some false).any id = false by
      rw [fm_map, List.any_map]
      exact List.any_eq_false.mpr fun x _ z => by cases z]
    refine iteF ?_
    have hL3 := sm2 _ _ hL1
    walk_at "g"
    have sm3 : Same H H3 := s1.trans sm2
    intro od2
    generalize hG : upd H3 D _ = H4
    have e4 := nw_at hG
    have hd3 := sm3 _ _ hd1
    have hp3 := sm3 _ _ hp
    have hdD : d ≠ D := ne_of_none hd1 nD
    have hpD : dp ≠ D := ne_of_none hp nD
    have j1 : H4 d = some (.dK (fdV rk fun k => .ref (r k))) := by
      rw [← hG]
      exact at_upd hdD hd3
    have j2 : H4 dp = some (.dK (fdV pk fun k => .int (pr k))) := by
      rw [← hG]
      exact at_upd hpD hp3
    have j3 : ∀ n ∈ pl.names, H4 (r0 n) = some (.tup [.int (lim n).1, .int (lim n).2]) := fun n hn => hG ▸ lock_ne hL3 (sm2 _ _ (hL2 n hn)) (fun e => by cases e)
    have j4 : ∀ n ∈ rk, H4 (r n) = some (.tup [.int (rf n).1, .int (rf n).2]) := fun n hn => hG ▸ lock_ne hL3 (sm3 _ _ (hd2 n hn)) (fun e => by cases e)
    have s4 : ∀ {H'}, Same H4 H' → Same H3 (upd H' D (.dK (fdV pl.names fun k => .ref (r0 k)))) := fun s => same_unlock hL3 (hG ▸ s)
    have hfr : ∀ {b}, H4 b = none → H3 b = none := fun h => lock_free (hG ▸ h)
    clear hG
    walk_at "g"
    intro Z hZ
    refine dcKR (fun n v H => ∃ q, v = .ref q ∧ IsS K H q (slN lim rk rf pk pr n)) (fun n v H H' m ⟨q, e, h⟩ => ⟨q, e, h.sx m⟩) hpv.nn hZ e4 (by omega) (fun n v H5 Ky Kn hn sm5 hfz hv2 ky => ?_) (fun H5 rr s5 e5 a5 => ?_)
    · subst hv2
      have u1 : Rd H5 D (.dK (fdV pl.names fun k => .ref (r0 k))) := .inr ⟨_, hfz⟩
      have u2 := sm5 _ _ j1
      have u3 := sm5 _ _ j2
      have u4 := sm5 _ _ (j3 n hn)
      have u5 : IsD H5 d := .inl ⟨_, .inl u2⟩
      have u6 : IsD H5 dp := .inl ⟨_, .inl u3⟩
      have fin : ∀ (v : V) (z : Int), (∀ t, v = .ref t → n ∈ rk ∧ t = r n) → (n ∈ rk → v = .ref (r n)) → (n ∉ rk → v = .non) → z = (if n ∈ pk then pr n else 0) → ∀ H6, Same H5 H6 → ∀ x dx, H6 x = none → H6 dx = none → dx ≠ x → ∀ H', SameE x (upd (upd H6 dx (.own x)) x (.ins (C_Slope K) dx [])) H' → H' x = some (.ins (C_Slope K) dx [("low", .int (lim n).1), ("high", .int (lim n).2), ("reading", v), ("price", .int z)]) → Ky (.str n) (.ref x) H' := by
        intro v z h0 h1 h2 h3 H6 s6 x dx nx ndx nex H' sE hE
        have sM := made nx ndx sE
        refine ky _ H' (s6.trans sM) ⟨x, rfl, ⟨dx, v, by rw [hE, h3]; rfl, fun e => ?_, fun q e => ?_⟩⟩
        · by_cases c : n ∈ rk
          · have : (slN lim rk rf pk pr n).rd = some (rf n) := if_pos c
            rw [this] at e
            cases e
          · exact h2 c
        · by_cases c : n ∈ rk
          · have : (slN lim rk rf pk pr n).rd = some (rf n) := if_pos c
            rw [this] at e
            rw [← Option.some.inj e]
            exact ⟨r n, h1 c, sM _ _ (s6 _ _ (sm5 _ _ (j4 n c)))⟩
          · have : (slN lim rk rf pk pr n).rd = none := if_neg c
            rw [this] at e
            cases e
      by_cases c1 : n ∈ rk
      · have g1 : DGet H5 d (.str n) (some (.ref (r n))) := dget_fd (g := fun k => V.ref (r k)) (.inl u2) c1
        by_cases c2 : n ∈ pk
        · have g2 : DGet H5 dp (.str n) (some (.int (pr n))) := dget_fd (g := fun k => V.int (pr k)) (.inl u3) c2
          walk_at "g"
          intro x dxx nx ndx nex
          have f1 := ne_of_none u4 nx
          have f2 := ne_of_none u4 ndx
          walk_at "g"
          intro H' sE hE
          exact ⟨rfl, fin _ _ (fun t e => ⟨c1, (V.ref.inj e).symm⟩) (fun _ => rfl) (fun z => absurd c1 z) (if_pos c2).symm _ (Same.refl _) x dxx nx ndx nex H' sE hE⟩
        · have g2 : DGet H5 dp (.str n) none := dget_fd0 (g := fun k => V.int (pr k)) (.inl u3) c2
          walk_at "g"
          intro x dxx nx ndx nex
          have f1 := ne_of_none u4 nx
          have f2 := ne_of_none u4 ndx
          walk_at "g"
          intro H' sE hE
          exact ⟨rfl, fin _ _ (fun t e => ⟨c1, (V.ref.inj e).symm⟩) (fun _ => rfl) (fun z => absurd c1 z) (if_neg c2).symm _ (Same.refl _) x dxx nx ndx nex H' sE hE⟩
      · have g1 : DGet H5 d (.str n) none := dget_fd0 (g := fun k => V.ref (r k)) (.inl u2) c1
        by_cases c2 : n ∈ pk
        · have g2 : DGet H5 dp (.str n) (some (.int (pr n))) := dget_fd (g := fun k => V.int (pr k)) (.inl u3) c2
          walk_at "g"
          intro x dxx nx ndx nex
          have f1 := ne_of_none u4 nx
          have f2 := ne_of_none u4 ndx
          walk_at "g"
          intro H' sE hE
          exact ⟨rfl, fin _ _ (fun t e => (by cases e)) (fun z => absurd z c1) (fun _ => rfl) (if_pos c2).symm _ (Same.refl _) x dxx nx ndx nex H' sE hE⟩
        · have g2 : DGet H5 dp (.str n) none := dget_fd0 (g := fun k => V.int (pr k)) (.inl u3) c2
          walk_at "g"
          intro x dxx nx ndx nex
          have f1 := ne_of_none u4 nx
          have f2 := ne_of_none u4 ndx
          walk_at "g"
          intro H' sE hE
          exact ⟨rfl, fin _ _ (fun t e => (by cases e)) (fun z => absurd z c1) (fun _ => rfl) (if_neg c2).symm _ (Same.refl _) x dxx nx ndx nex H' sE hE⟩
    · have f1 := s5 _ _ e4
      have hZD : Z ≠ D := (ne_of_none e4 hZ).symm
      have sm6 := s4 s5
      obtain ⟨gg, q1, q2⟩ := choose_fd a5
      rw [fd_congr q1] at e5
      refine ⟨f1, ?_⟩
      refine q _ Z lim (sm3.trans sm6) (sm3.free (hfr hZ)) hl ⟨gg, at_upd hZD e5, fun n hn => ?_⟩
      obtain ⟨dx, v, w1, w2, w3⟩ := (q2 n hn).ex
      exact ⟨dx, v, at_upd (ne_at w1 f1 (fun e => by cases e)) w1, w2, fun q e => by
        obtain ⟨t, e2, ht⟩ := w3 q e
        exact ⟨t, e2, at_upd (ne_at ht f1 (fun e => by cases e)) ht⟩⟩
end
end M
end
-- part W20
section
set_option Elab.async false
set_option linter.all false
set_option maxRecDepth 100000
set_option maxHeartbeats 4000000
namespace M
open PySem PySem.Spec PyProof.Rows L2
local macro_rules | `(tactic| walk_at "e") => `(tactic| (first
  | exact rfl
  | assumption
  | exact upd_same
  | exact flat_strs
  | exact fd_keys
  | ((with_reducible apply same_at); assumption; walk_at "f")
  | ((with_reducible apply at_upd); assumption; walk_at "f")
  | omega))
local macro_rules | `(tactic| walk_at "n") => `(tactic| (first
  | assumption
  | omega
  | exact Nat.le_of_lt (small1000 (by first | assumption | omega))
  | exact (Nat.zero_le _ : 0 ≤ sizeLine)
  | exact (by decide : 1 ≤ sizeLine)
  | exact (by decide : 2 ≤ sizeLine)
  | exact (by decide : 3 ≤ sizeLine)
  | exact (by decide : 5 ≤ sizeLine)
  | exact (by decide : 6 ≤ sizeLine)
  | (show _ < 1000; exact of_decide_eq_true rfl)
  | exact len2 (by omega) (by omega)
  | exact small1000 (by first | assumption | omega)))
local macro_rules | `(tactic| walk_at "f") => `(tactic| (first
  | with_reducible assumption
  | ((with_reducible apply gEq); walk_at "e")
  | ((with_reducible apply gLe); walk_at "n")
  | ((with_reducible apply gLt); walk_at "n")
  | ((with_reducible apply gNot); (first | assumption | omega))
  | with_reducible exact Same.refl _
  | ((with_reducible apply tupOf); walk_at "f")
  | ((with_reducible apply lstOf); walk_at "f")
  | ((with_reducible apply gCls); assumption)
  | ((with_reducible apply gNoAttr); assumption)
  | ((with_reducible apply gIsPl); assumption)
  | ((with_reducible apply gStL); assumption)
  | ((with_reducible apply gIntD); assumption)
  | ((with_reducible apply gSqT); assumption)
  | ((with_reducible apply gSqL); assumption)
  | ((with_reducible apply tyV_l); walk_at "f")
  | ((with_reducible apply Rd.of); walk_at "f")
  | ((with_reducible apply dget_ne); assumption; assumption)
  | ((with_reducible apply dget_fd) <;> walk_at "f")
  | ((with_reducible apply dput_int) <;> walk_at "f")
  | ((with_reducible apply dput_fd) <;> walk_at "f")
  | ((with_reducible apply rd_upd); assumption; walk_at "f")
  | ((with_reducible apply same_put); walk_at "f"; assumption)
  | ((with_reducible apply sx_upd) <;> walk_at "f")
  | ((with_reducible refine Same.trans ?_ (by assumption)); walk_at "f")
  | ((with_reducible apply cmulLg); omega; omega)
  | ((with_reducible apply cmulRg); omega; omega)
  | ((with_reducible apply SameE.upd); walk_at "f")
  | ((with_reducible apply StL.same); assumption; walk_at "f")
  | ((with_reducible apply LT.same); assumption; walk_at "f")
  | ((with_reducible apply IsP.same); assumption; walk_at "f")
  | ((with_reducible apply IsPl.same); assumption; walk_at "f")
  | ((with_reducible apply IntD.same); assumption; walk_at "f")
  | ((with_reducible apply PrD.same); assumption; walk_at "f")
  | ((with_reducible apply Or.inl); walk_at "f")
  | ((with_reducible apply Or.inr); walk_at "f")))
local macro_rules | `(tactic| walk_at "g") => `(tactic| repeat (first
  | with_reducible apply And.intro
  | with_reducible apply Exists.intro
  | walk_at "f"
  | ((with_reducible apply iteT); assumption)
  | ((with_reducible apply iteF); assumption)
  | ((with_reducible apply iteD); (first | assumption | omega))
  | ((with_reducible apply iteN); (first | assumption | omega))
  | ((with_reducible apply iteD2); (first | assumption | omega))
  | ((with_reducible apply iteN2); (first | assumption | omega))
  | apply And.intro
  | apply Exists.intro))
section
variable {P : Program} {w : World} {K : PySem.W.Frag} {mg : Str → Option Value} {base : Heap}
theorem app_keep {α β : Type} {m : α → List V} {n : β → List V} {H H4 : Hp} {D t a : Addr} {us vs ws : List V} {l : List α} {k : List β} {x : β} (s : Same H H4) (e : H D = some (.lst us)) (ha : H a = some (.lst vs)) (hn : a ≠ D) (hA : A2 (fun x v => TupR (m x) v H) l vs) :
    (upd H4 D (.lst ws)) a = some (.lst vs) ∧ A2 (fun x v => TupR (m x) v (upd H4 D (.lst ws))) l vs := by
  refine ⟨?_, hA.imp fun x v r => ?_⟩
  · rw [upd_ne hn]
    exact s _ _ ha
  · exact (r.same s).sx (fun xs ys e => by cases e) (sameX_lst (s _ _ e))
structure MvOf (s : Strm) (sl : Str → Slp) (f : Str → Int) (m : Mv) : Prop where
  ne : s.tail ≠ s.head
  al : Along s m
  mo : 0 < m.most
  up : m.sign = 1 → RiseOk (sl s.name) (f s.name) m.most m.price
  dn : m.sign = -1 → FallOk (sl s.name) (f s.name) m.most m.price
def UpIn (s : Strm) (sl : Str → Slp) (f : Str → Int) (ms : List Mv) : Prop := s.tail ≠ s.head → (∀ k, IsTurn (sl s.name) k → k ≤ f s.name) ∨ ∃ m ∈ ms, m.tail = s.tail ∧ m.head = s.head ∧ m.price = cst (sl s.name) (f s.name + 1) - cst (sl s.name) (f s.name)
def DnIn (s : Strm) (sl : Str → Slp) (f : Str → Int) (ms : List Mv) : Prop := s.tail ≠ s.head → (∀ k, IsTurn (sl s.name) k → f s.name ≤ k) ∨ ∃ m ∈ ms, m.tail = s.head ∧ m.head = s.tail ∧ m.price = cst (sl s.name) (f s.name - 1) - cst (sl s.name) (f s.name)
structure MvOk (l : List Strm) (sl : Str → Slp) (f : Str → Int) (ms : List Mv) : Prop where
  of : ∀ m ∈ ms, ∃ s ∈ l, MvOf s sl f m
  up : ∀ s ∈ l, UpIn s sl f ms
  dn : ∀ s ∈ l, DnIn s sl f ms
  len : ms.length ≤ 2 * l.length
theorem UpIn.mono {s : Strm} {sl : Str → Slp} {f : Str → Int} {ms ns : List Mv} (h : UpIn s sl f ms) (i : ∀ m ∈ ms, m ∈ ns) : UpIn s sl f ns := fun n => (h n).imp id fun ⟨m, a, b⟩ => ⟨m, i m a, b⟩
theorem DnIn.mono {s : Strm} {sl : Str → Slp} {f : Str → Int} {ms ns : List Mv} (h : DnIn s sl f ms) (i : ∀ m ∈ ms, m ∈ ns) : DnIn s sl f ns := fun n => (h n).imp id fun ⟨m, a, b⟩ => ⟨m, i m a, b⟩
theorem MvOk.snoc {l : List Strm} {sl : Str → Slp} {f : Str → Int} {ms p : List Mv} {s : Strm} (h : MvOk l sl f ms) (hp : p.length ≤ 2) (ho : ∀ m ∈ p, MvOf s sl f m) (hu : UpIn s sl f p) (hd : DnIn s sl f p) : MvOk (l ++ [s]) sl f (ms ++ p) where
  of := fun m hm => by
    rcases List.mem_append.mp hm with z | z
    · obtain ⟨r, hr, x⟩ := h.of m z
      exact ⟨r, List.mem_append_left _ hr, x⟩
    · exact ⟨s, List.mem_append_right _ (List.mem_singleton.mpr rfl), ho m z⟩
  up := fun r hr => by
    rcases List.mem_append.mp hr with z | z
    · exact (h.up r z).mono fun m hm => List.mem_append_left _ hm
    · rw [List.mem_singleton.mp z]
      exact hu.mono fun m hm => List.mem_append_right _ hm
  dn := fun r hr => by
    rcases List.mem_append.mp hr with z | z
    · exact (h.dn r z).mono fun m hm => List.mem_append_left _ hm
    · rw [List.mem_singleton.mp z]
      exact hd.mono fun m hm => List.mem_append_right _ hm
  len := by
    have := h.len
    rw [List.length_append, List.length_append, List.length_singleton]
    omega
def sp_moves_of (K : PySem.W.Frag) : Sp := fun vs H Q _ => ∃ p pl ds df sl f, vs = [.ref p, .ref ds, .ref df] ∧ IsPl K H p pl ∧ PV pl ∧ SlD K H ds pl.names sl ∧ (∀ n ∈ pl.names, SlV (sl n)) ∧ IntD H df pl.names f ∧
  ∀ H' a ms, Same H H' → H a = none → LT moveV H' a ms → MvOk pl.ss sl f ms → Q (.ref a) H'
theorem sc_moves_of : FnScope ["plant", "slopes", "flows", "found", "name", "tail", "head", "_", "most", "price"] ["plant", "slopes", "flows"] (defScope s_moves_of) := ⟨rfl, rfl, rfl, by decide +kernel, rfl, by decide +kernel, by decide +kernel⟩
theorem ok_moves_of (T : Tx K mg) : Has P w K mg base CX0 4 (A_moves_of K) ["plant", "slopes", "flows"] [] (sp_moves_of K) := by
  obtain ⟨fd, F⟩ := T.F_moves_of
  refine ⟨fd, [], F.ok sc_moves_of (fun vs H Q E h => by
    obtain ⟨_, _, _, _, _, _, rfl, _⟩ := h
    rfl) (fun cdv A outer s H vs Q E hr h => ?_), F.bindsN (fun _ _ _ _ _ _ us hl => match us, hl with | [_, _, _], _ => rfl), .nil, F.kp⟩
  obtain ⟨p, pl, ds, df, sw, f, rfl, hP, hpv, hds, hsv, hdf, q⟩ := h
  obtain ⟨kl, sl, dx, hO⟩ := hP.ex
  have hob := hO.ob
  have hkl := hpv.kl
  have hsl := hpv.sl
  have hln := hpv.ln
  obtain ⟨r, hd1, hd2⟩ := hds.ex
  refine ⟨_, (pss_cons (ps_set (i := 3) sc_moves_of.nd rfl (Or.inl rfl) (pe_lst pa_nil))
      (pss_cons (psFor (passes_of rfl) rfl (pi_list (hprop (ok_Plant_streams (K := K) T) (hr.mono (by decide)) T.c_Plant T.p_Plant_streams pass0 (pv 0))) (pg_tup (by rfl) (pgs_cons (pg_name (i := 4) sc_moves_of.nd rfl (Or.inl rfl)) (pgs_cons (pg_name (i := 5) sc_moves_of.nd rfl (Or.inl rfl)) (pgs_cons (pg_name (i := 6) sc_moves_of.nd rfl (Or.inl rfl)) (pgs_cons (pg_name (i := 7) sc_moves_of.nd rfl (Or.inl rfl)) (pgs_cons (pg_name (i := 7) sc_moves_of.nd rfl (Or.inl rfl)) pgs_nil))))))
      (pss_cons (ps_asg (hmeth (ok_Slope_rise (K := K) T) (hr.mono (by decide)) T.c_Slope T.m_Slope_rise pass0 (pe_dget (hu_of hr) (pv 1) (pv 4) (fun _ _ => rfl)) (pa_cons (pe_dget (hu_of hr) (pv 2) (pv 4) (fun _ _ => rfl)) pa_nil)) (pg_tup (by rfl) (pgs_cons (pg_name (i := 8) sc_moves_of.nd rfl (Or.inl rfl)) (pgs_cons (pg_name (i := 9) sc_moves_of.nd rfl (Or.inl rfl)) pgs_nil))))
      (pss_cons (psCut (ps_if (PW.pt (pw_and (pt_cmpR op_gt (pv 8) (pe_int) (nomark _)) (pw_and1 (pt_cmpR op_ne (pv 5) (pv 6) (nomark _)))))
      (pss_one (ps_expr (pe_bm PySem.F.plainAttrs_list PySem.F.slot_list_append PySem.F.type_list_append mt_append (pv 3) (pa_cons (pe_tup (pa_cons (pv 5) (pa_cons (pv 6) (pa_cons (pv 8) (pa_cons (pv 9) (pa_cons (pv 4) (pa_cons (pe_int) pa_nil))))))) pa_nil))))
      pss_nil))
      (pss_cons (ps_asg (hmeth (ok_Slope_fall (K := K) T) (hr.mono (by decide)) T.c_Slope T.m_Slope_fall pass0 (pe_dget (hu_of hr) (pv 1) (pv 4) (fun _ _ => rfl)) (pa_cons (pe_dget (hu_of hr) (pv 2) (pv 4) (fun _ _ => rfl)) pa_nil)) (pg_tup (by rfl) (pgs_cons (pg_name (i := 8) sc_moves_of.nd rfl (Or.inl rfl)) (pgs_cons (pg_name (i := 9) sc_moves_of.nd rfl (Or.inl rfl)) pgs_nil))))
      (pss_one (ps_if (PW.pt (pw_and (pt_cmpR op_gt (pv 8) (pe_int) (nomark _)) (pw_and1 (pt_cmpR op_ne (pv 5) (pv 6) (nomark _)))))
      (pss_one (ps_expr (pe_bm PySem.F.plainAttrs_list PySem.F.slot_list_append PySem.F.type_list_append mt_append (pv 3) (pa_cons (pe_tup (pa_cons (pv 6) (pa_cons (pv 5) (pa_cons (pv 8) (pa_cons (pv 9) (pa_cons (pv 4) (pa_cons (pe_un un_neg pe_int) pa_nil))))))) pa_nil))))
      pss_nil))))))
      (pss_one (ps_ret (pv 3))))), ?_⟩
  walk_at "g"
  intro D n_D; generalize hG : upd H D _ = H1; have s_H1 : Same H H1 := nw_same n_D hG; have e_D := nw_at hG; clear hG
  have hP1 := hP.same s_H1
  walk_at "g"
  intro H3 a s3 na ea
  obtain ⟨vs, ea1, ea2⟩ := ea.ex
  have e3 := s3 _ _ e_D
  walk_at "g"
  refine ⟨forG (LT.wk (m := sV) (vs := vs) (xs := pl.ss)) (fun i σ H' => Hold (∃ y4 y5 y6 y7 y8 y9, ∃ us : List V, ∃ ms : List Mv, σ = [some (.ref p), some (.ref ds), some (.ref df), some (.ref D), y4, y5, y6, y7, y8, y9] ∧ Same H H' ∧ H' a = some (.lst vs) ∧ A2 (fun x v => TupR (sV x) v H') pl.ss vs ∧ H' D = some (.lst us) ∧ A2 (fun m v => TupR (moveV m) v H') ms us ∧ MvOk (pl.ss.take i) sw f ms))
    ⟨none, none, none, none, none, none, [], [], rfl, s_H1.trans s3, ea1, ea2, e3, .nil, ⟨fun m h => (nomatch h), fun m h => (nomatch h), fun m h => (nomatch h), Nat.zero_le _⟩⟩ (fun i σ H' _ h => ?_) (fun i x v σ H' H'' ex h s5 hv2 => ?_) (fun σ H' h => ?_)⟩
  · obtain ⟨y4, y5, y6, y7, y8, y9, us, ms, rfl, t1, t2, t3, t4, t5, t6⟩ := h.go
    exact ⟨lstOf t2, t3⟩
  · obtain ⟨y4, y5, y6, y7, y8, y9, us, ms, rfl, t1, t2, t3, t4, t5, t6⟩ := h.go
    obtain ⟨t, rfl, ht⟩ := hv2
    have hx := List.mem_of_getElem? ex
    have hxn : x.name ∈ pl.names := List.mem_map.mpr ⟨x, hx, rfl⟩
    have u1 : Same H H'' := t1.trans s5
    have u2 : Rd H'' ds (.dK (fdV pl.names fun k => .ref (r k))) := .inl (u1 _ _ hd1)
    have u3 : IsS K H'' (r x.name) (sw x.name) := (hd2 _ hxn).same u1
    have u4 : Rd H'' df (.dK (fdV pl.names fun k => .int (f k))) := .inl (u1 _ _ hdf)
    have u5 := hsv _ hxn
    obtain ⟨dxs, vss, u6, _⟩ := u3.ex
    walk_at "g"
    intro H4 b m1 pr1 s4 eb hr1
    have w2 := s4 _ _ (s5 _ _ t4)
    have w1 : Same H H4 := u1.trans s4
    have w3 : A2 (fun m v => TupR (moveV m) v H4) ms us := (t5.imp fun m v => TupR.same s5).imp fun m v => TupR.same s4
    have w4 := s4 _ _ (s5 _ _ t2)
    have w5 : A2 (fun x v => TupR (sV x) v H4) pl.ss vs := (t3.imp fun m v => TupR.same s5).imp fun m v => TupR.same s4
    have hul : us.length ≤ 100 := by
      rw [t5.length]
      have := t6.len
      have h2 : (pl.ss.take i).length ≤ pl.ss.length := by
        rw [List.length_take]
        omega
      omega
    have haD : a ≠ D := (ne_of_none e_D na).symm
    walk_at "g"
    refine Cut.of (fun σ H5 => Hold (∃ us : List V, ∃ p1 : List Mv, σ = [some (.ref p), some (.ref ds), some (.ref df), some (.ref D), some (.str x.name), some (.str x.tail), some (.str x.head), some (.int x.high), some (.int m1), some (.int pr1)] ∧ Same H H5 ∧ H5 a = some (.lst vs) ∧ A2 (fun x v => TupR (sV x) v H5) pl.ss vs ∧ H5 D = some (.lst us) ∧ A2 (fun m v => TupR (moveV m) v H5) (ms ++ p1) us ∧ us.length ≤ 101 ∧ p1.length ≤ 1 ∧ (∀ m ∈ p1, MvOf x sw f m) ∧ UpIn x sw f p1)) ?_ (fun σ H5 hh => ?_)
    · by_cases c1 : 0 < m1 ∧ x.tail ≠ x.head
      · obtain ⟨c2, c3⟩ := c1
        have c4 : ¬ V.str x.tail = V.str x.head := fun z => c3 (V.str.inj z)
        walk_at "g"
        intro t2 n_t2; generalize hG : upd H4 t2 _ = H5; have s_H5 : Same H4 H5 := nw_same n_t2 hG; have e_t2 := nw_at hG; clear hG
        walk_at "g"
        obtain ⟨k1, k2⟩ := app_keep (n := moveV) (k := ms) (x := ⟨x.tail, x.head, m1, pr1, x.name, 1⟩) (t := t2) (ws := us ++ [V.ref t2]) s_H5 w2 w4 haD w5
        have hpr : pr1 = cst (sw x.name) (f x.name + 1) - cst (sw x.name) (f x.name) := by
          rcases hr1.ex with ⟨z, _⟩ | ⟨_, _, _, z⟩
          · omega
          · exact z
        refine ⟨us ++ [.ref t2], [⟨x.tail, x.head, m1, pr1, x.name, 1⟩], rfl, same_put (w1.trans s_H5) n_D, k1, k2, upd_same, app_tup s_H5 w2 w3 e_t2, ?_, Nat.le_refl _, fun m hm => ?_, fun _ => .inr ⟨_, List.mem_singleton.mpr rfl, rfl, rfl, hpr⟩⟩
        · rw [List.length_append]
          exact Nat.add_le_add_right hul 1
        · rw [List.mem_singleton.mp hm]
          exact ⟨c3, ⟨rfl, .inl ⟨rfl, rfl, rfl⟩⟩, c2, fun _ => hr1, fun e => absurd e (by show ¬ (1 : Int) = -1; decide)⟩
      · have fin : Hold (∃ us' : List V, ∃ p1 : List Mv, [some (V.ref p), some (.ref ds), some (.ref df), some (.ref D), some (.str x.name), some (.str x.tail), some (.str x.head), some (.int x.high), some (.int m1), some (.int pr1)] = [some (V.ref p), some (.ref ds), some (.ref df), some (.ref D), some (.str x.name), some (.str x.tail), some (.str x.head), some (.int x.high), some (.int m1), some (.int pr1)] ∧ Same H H4 ∧ H4 a = some (.lst vs) ∧ A2 (fun x v => TupR (sV x) v H4) pl.ss vs ∧ H4 D = some (.lst us') ∧ A2 (fun m v => TupR (moveV m) v H4) (ms ++ p1) us' ∧ us'.length ≤ 101 ∧ p1.length ≤ 1 ∧ (∀ m ∈ p1, MvOf x sw f m) ∧ UpIn x sw f p1) := by
          refine ⟨us, [], rfl, w1, w4, w5, w2, ?_, by omega, Nat.zero_le _, fun m hm => (nomatch hm), fun ne => .inl ?_⟩
          · rw [List.append_nil]
            exact w3
          · rcases hr1.ex with ⟨_, z⟩ | ⟨z, _⟩
            · exact z
            · exact absurd ⟨z, ne⟩ c1
        by_cases c2 : 0 < m1
        · have c4 : V.str x.tail = V.str x.head := by
            by_cases z : x.tail = x.head
            · rw [z]
            · exact absurd ⟨c2, z⟩ c1
          walk_at "g"
          exact fin
        · walk_at "g"
    · obtain ⟨us, p1, rfl, t1, t2, t3, t4, t5, t7, t8, t9, t10⟩ := hh.go
      have u2 : Rd H5 ds (.dK (fdV pl.names fun k => .ref (r k))) := .inl (t1 _ _ hd1)
      have u3 : IsS K H5 (r x.name) (sw x.name) := (hd2 _ hxn).same t1
      have u4 : Rd H5 df (.dK (fdV pl.names fun k => .int (f k))) := .inl (t1 _ _ hdf)
      obtain ⟨dxs2, vss2, u6, _⟩ := u3.ex
      walk_at "g"
      intro H6 b2 m2 pr2 s6 eb2 hr2
      have w2 := s6 _ _ t4
      have w1 : Same H H6 := t1.trans s6
      have w3 : A2 (fun m v => TupR (moveV m) v H6) (ms ++ p1) us := t5.imp fun m v => TupR.same s6
      have w4 := s6 _ _ t2
      have w5 : A2 (fun x v => TupR (sV x) v H6) pl.ss vs := t3.imp fun m v => TupR.same s6
      have hus : us.length ≤ 400 := by omega
      walk_at "g"
      by_cases c1 : 0 < m2 ∧ x.tail ≠ x.head
      · obtain ⟨c2, c3⟩ := c1
        have c4 : ¬ V.str x.tail = V.str x.head := fun z => c3 (V.str.inj z)
        walk_at "g"
        intro t2 n_t2; generalize hG : upd H6 t2 _ = H7; have s_H7 : Same H6 H7 := nw_same n_t2 hG; have e_t2 := nw_at hG; clear hG
        walk_at "g"
        obtain ⟨k1, k2⟩ := app_keep (n := moveV) (k := ms) (x := ⟨x.head, x.tail, m2, pr2, x.name, -1⟩) (t := t2) (ws := us ++ [V.ref t2]) s_H7 w2 w4 haD w5
        have hpr : pr2 = cst (sw x.name) (f x.name - 1) - cst (sw x.name) (f x.name) := by
          rcases hr2.ex with ⟨z, _⟩ | ⟨_, _, _, z⟩
          · omega
          · exact z
        refine ⟨_, _, _, _, _, _, us ++ [.ref t2], (ms ++ p1) ++ [⟨x.head, x.tail, m2, pr2, x.name, -1⟩], rfl, same_put (w1.trans s_H7) n_D, k1, k2, upd_same, app_tup s_H7 w2 w3 e_t2, ?_⟩
        rw [take_snoc ex, List.append_assoc]
        refine t6.snoc ?_ (fun m hm => ?_) (t10.mono fun m hm => List.mem_append_left _ hm) fun _ => .inr ⟨_, List.mem_append_right _ (List.mem_singleton.mpr rfl), rfl, rfl, hpr⟩
        · rw [List.length_append]
          exact Nat.add_le_add_right t8 1
        · rcases List.mem_append.mp hm with z | z
          · exact t9 m z
          · rw [List.mem_singleton.mp z]
            exact ⟨c3, ⟨rfl, .inr ⟨rfl, rfl, rfl⟩⟩, c2, fun e => absurd e (by show ¬ (-1 : Int) = 1; decide), fun _ => hr2⟩
      · have hdn : DnIn x sw f p1 := fun ne => .inl (by
          rcases hr2.ex with ⟨_, z⟩ | ⟨z, _⟩
          · exact z
          · exact absurd ⟨z, ne⟩ c1)
        have hmv : MvOk (pl.ss.take (i + 1)) sw f (ms ++ p1) := by
          rw [take_snoc ex]
          exact t6.snoc (by omega) t9 t10 hdn
        by_cases c2 : 0 < m2
        · have c4 : V.str x.tail = V.str x.head := by
            by_cases z : x.tail = x.head
            · rw [z]
            · exact absurd ⟨c2, z⟩ c1
          walk_at "g"
          exact ⟨_, _, _, _, _, _, us, ms ++ p1, rfl, w1, w4, w5, w2, w3, hmv⟩
        · walk_at "g"
          exact ⟨_, _, _, _, _, _, us, ms ++ p1, rfl, w1, w4, w5, w2, w3, hmv⟩
  · obtain ⟨y4, y5, y6, y7, y8, y9, us, ms, rfl, t1, t2, t3, t4, t5, t6⟩ := h.go
    rw [List.take_length] at t6
    walk_at "g"
    exact q H' D ms t1 n_D ⟨us, t4, t5⟩ t6
end
end M
end
-- part W21
section
set_option Elab.async false
set_option linter.all false
set_option maxRecDepth 100000
set_option maxHeartbeats 4000000
namespace M
open PySem PySem.Spec PyProof.Rows L2
local macro_rules | `(tactic| walk_at "e") => `(tactic| (first
  | exact rfl
  | assumption
  | exact upd_same
  | exact flat_strs
  | exact fd_keys
  | ((with_reducible apply same_at); assumption; walk_at "f")
  | ((with_reducible apply at_upd); assumption; walk_at "f")
  | omega))
local macro_rules | `(tactic| walk_at "n") => `(tactic| (first
  | assumption
  | omega
  | exact Nat.le_of_lt (small1000 (by first | assumption | omega))
  | exact (Nat.zero_le _ : 0 ≤ sizeLine)
  | exact (by decide : 1 ≤ sizeLine)
  | exact (by decide : 2 ≤ sizeLine)
  | exact (by decide : 3 ≤ sizeLine)
  | exact (by decide : 5 ≤ sizeLine)
  | exact (by decide : 6 ≤ sizeLine)
  | (show _ < 1000; exact of_decide_eq_true rfl)
  | exact len2 (by omega) (by omega)
  | exact small1000 (by first | assumption | omega)))
local macro_rules | `(tactic| walk_at "f") => `(tactic| (first
  | with_reducible assumption
  | ((with_reducible apply gEq); walk_at "e")
  | ((with_reducible apply gLe); walk_at "n")
  | ((with_reducible apply gLt); walk_at "n")
  | ((with_reducible apply gNot); (first | assumption | omega))
  | with_reducible exact Same.refl _
  | ((with_reducible apply tupOf); walk_at "f")
  | ((with_reducible apply lstOf); walk_at "f")
  | ((with_reducible apply gCls); assumption)
  | ((with_reducible apply gNoAttr); assumption)
  | ((with_reducible apply gIsPl); assumption)
  | ((with_reducible apply gStL); assumption)
  | ((with_reducible apply gIntD); assumption)
  | ((with_reducible apply gSqT); assumption)
  | ((with_reducible apply gSqL); assumption)
  | ((with_reducible apply tyV_l); walk_at "f")
  | ((with_reducible apply Rd.of); walk_at "f")
  | ((with_reducible apply dget_ne); assumption; assumption)
  | ((with_reducible apply dget_fd) <;> walk_at "f")
  | ((with_reducible apply dput_int) <;> walk_at "f")
  | ((with_reducible apply dput_fd) <;> walk_at "f")
  | ((with_reducible apply rd_upd); assumption; walk_at "f")
  | ((with_reducible apply same_put); walk_at "f"; assumption)
  | ((with_reducible apply sx_upd) <;> walk_at "f")
  | ((with_reducible refine Same.trans ?_ (by assumption)); walk_at "f")
  | ((with_reducible apply cmulLg); omega; omega)
  | ((with_reducible apply cmulRg); omega; omega)
  | ((with_reducible apply SameE.upd); walk_at "f")
  | ((with_reducible apply StL.same); assumption; walk_at "f")
  | ((with_reducible apply LT.same); assumption; walk_at "f")
  | ((with_reducible apply IsP.same); assumption; walk_at "f")
  | ((with_reducible apply IsPl.same); assumption; walk_at "f")
  | ((with_reducible apply IntD.same); assumption; walk_at "f")
  | ((with_reducible apply PrD.same); assumption; walk_at "f")
  | ((with_reducible apply Or.inl); walk_at "f")
  | ((with_reducible apply Or.inr); walk_at "f")))
local macro_rules | `(tactic| walk_at "g") => `(tactic| repeat (first
  | with_reducible apply And.intro
  | with_reducible apply Exists.intro
  | walk_at "f"
  | ((with_reducible apply iteT); assumption)
  | ((with_reducible apply iteF); assumption)
  | ((with_reducible apply iteD); (first | assumption | omega))
  | ((with_reducible apply iteN); (first | assumption | omega))
  | ((with_reducible apply iteD2); (first | assumption | omega))
  | ((with_reducible apply iteN2); (first | assumption | omega))
  | apply And.intro
  | apply Exists.intro))
section
variable {P : Program} {w : World} {K : PySem.W.Frag} {mg : Str → Option Value} {base : Heap}
def sp_Least_init (K : PySem.W.Frag) : Sp := fun vs H Q _ => ∃ self d n e dx kvs lvs, vs = [.ref self, .ref d, .int n, .ref e] ∧ H self = some (.ins (C_Least K) dx []) ∧ H d = some (.dK kvs) ∧ H e = some (.dK lvs) ∧
  ∀ H' d' e', SameE self H H' → H d' = none → H e' = none → H' self = some (.ins (C_Least K) dx [("flows", .ref d'), ("cost", .int n), ("heights", .ref e')]) → H' d' = some (.dK kvs) → H' e' = some (.dK lvs) → Q .non H'
theorem sc_Least_init : FnScope ["self", "flows", "cost", "heights"] ["self", "flows", "cost", "heights"] (defScope s_Least_init) := ⟨rfl, rfl, rfl, by decide +kernel, rfl, by decide +kernel, by decide +kernel⟩
theorem ok_Least_init (T : Tx K mg) : Has P w K mg base CX0 1 (A_Least_init K) ["self", "flows", "cost", "heights"] [] (sp_Least_init K) := by
  obtain ⟨fd, F⟩ := T.F_Least_init
  refine ⟨fd, [], F.ok sc_Least_init (fun vs H Q E h => by
    obtain ⟨_, _, _, _, _, _, _, rfl, _⟩ := h
    rfl) (fun cdv A outer s H vs Q E hr h => ?_), F.bindsN (fun _ _ _ _ _ _ us hl => match us, hl with | [_, _, _, _], _ => rfl), .nil, F.kp⟩
  obtain ⟨self, d, n, e, dx, kvs, lvs, rfl, hs, hd, he, q⟩ := h
  have k1 := T.c_Least
  have k2 := T.n_Least_flows
  have k3 := T.n_Least_cost
  have k4 := T.n_Least_heights
  have n1 : d ≠ self := ne_at hd hs (fun e => by cases e)
  have n2 : e ≠ self := ne_at he hs (fun e => by cases e)
  refine ⟨_, (pss_cons (ps_fld (pv 0) (pe_callTy call_dictD (by rfl) T.b_dict (by decide +kernel) (pa_cons (pv 1) pa_nil)) rfl)
      (pss_cons (ps_fld (pv 0) (pv 2) rfl)
      (pss_one (ps_fld (pv 0) (pe_callTy call_dictD (by rfl) T.b_dict (by decide +kernel) (pa_cons (pv 3) pa_nil)) rfl)))), ?_⟩
  walk_at "g"
  intro d' n_d'; generalize hG : upd H d' _ = H1; have s_H1 : Same H H1 := nw_same n_d' hG; have e_d' := nw_at hG; clear hG
  have hs1 := s_H1 _ _ hs
  have he1 := s_H1 _ _ he
  walk_at "g"
  intro e' m2
  generalize hG : upd _ self _ = H3 at m2 ⊢
  have t3 : SameE self H1 H3 := ow_e (SameE.refl.upd) hG
  have e3 := nw_at hG
  have p1 : d' ≠ self := ne_at e_d' hs1 (fun e => by cases e)
  have ed3 : H3 d' = some (.dK kvs) := t3 _ _ p1 e_d'
  clear hG
  generalize hG : upd H3 e' _ = H4
  have t4 := nw_same m2 hG
  have ea := nw_at hG
  clear hG
  have e4 := t4 _ _ e3
  walk_at "g"
  have p2 : e' ≠ self := (ne_of_none e3 m2).symm
  refine q _ d' e' ?_ n_d' ?_ upd_same ?_ ?_
  · exact ((SameE.of s_H1).trans (t3.trans (.of t4))).upd
  · exact s_H1.free (t3.free p2 m2)
  · rw [upd_ne p1]
    exact t4 _ _ ed3
  · rw [upd_ne p2]
    exact ea
structure Ent where
  p : Int
  c : Int
  mv : Option Mv
/-- v is the tuple of the entry e -/
def EntR (e : Ent) (t : Addr) (H : Hp) : Prop := ∃ v, H t = some (.tup [.int e.p, .int e.c, v]) ∧ (e.mv = none → v = .non) ∧ ∀ m, e.mv = some m → TupR (moveV m) v H
theorem EntR.same {e : Ent} {t : Addr} {H H' : Hp} (s : Same H H') (h : EntR e t H) : EntR e t H' := h.imp fun v h => ⟨s _ _ h.1, h.2.1, fun m x => (h.2.2 m x).same s⟩
theorem EntR.sx {e : Ent} {t : Addr} {H H' : Hp} (s : SameX ND H H') (h : EntR e t H) : EntR e t H' := h.imp fun v h => ⟨s _ _ (fun ys e => by cases e) h.1, h.2.1, fun m x => (h.2.2 m x).sx (fun xs ys e => by cases e) s⟩
structure EntD (H : Hp) (d : Addr) (ks : List Str) (e : Str → Ent) : Prop where
  ex : ∃ r : Str → Addr, H d = some (.dK (fdV ks fun k => .ref (r k))) ∧ ∀ k ∈ ks, EntR (e k) (r k) H
theorem EntD.same {H H' : Hp} {d : Addr} {ks : List Str} {e : Str → Ent} (s : Same H H') (h : EntD H d ks e) : EntD H' d ks e := ⟨h.ex.imp fun r h => ⟨s _ _ h.1, fun k hk => (h.2 k hk).same s⟩⟩
def sp_l_way_back (K : PySem.W.Frag) : Sp := fun vs H Q _ => ∃ d x A S R e ρ, vs = [.ref d, .str x] ∧ EntD H d R e ∧ Preds A S R (fun k => (e k).mv) ρ ∧ x ∈ R ∧
  ∀ H' a way s, Same H H' → H a = none → LT moveV H' a way → s ∈ S → s ∈ R → (e s).mv = none → Way A s x way.reverse → Q (.ref a) H'
theorem sc_l_way_back : FnScope ["found", "knot", "way"] ["found", "knot"] (defScope s_l_way_back) := ⟨rfl, rfl, rfl, by decide +kernel, rfl, by decide +kernel, by decide +kernel⟩
theorem ok_l_way_back (T : Tx K mg) : Has P w K mg base CX0 1 (A_l_way_back K) ["found", "knot"] [] (sp_l_way_back K) := by
  obtain ⟨fd, F⟩ := T.F_l_way_back
  refine ⟨fd, [], F.ok sc_l_way_back (fun vs H Q E h => by
    obtain ⟨_, _, _, _, _, _, _, rfl, _⟩ := h
    rfl) (fun cdv A outer s H vs Q E hr h => ?_), F.bindsN (fun _ _ _ _ _ _ us hl => match us, hl with | [_, _], _ => rfl), .nil, F.kp⟩
  obtain ⟨d, x, A, S, R, e, ρ, rfl, hd, hP, hx, q⟩ := h
  obtain ⟨r, hd1, hd2⟩ := hd.ex
  refine ⟨_, (pss_cons (ps_set (i := 2) sc_l_way_back.nd rfl (Or.inl rfl) (pe_lst pa_nil))
      (pss_cons (psWhl (passes_of rfl) (pt_cmpR op_notN (pe_ix ixT (pe_dget (hu_of hr) (pv 0) (pv 1) (fun _ _ => rfl)) (pe_int) (fun _ _ => rfl)) (pe_non) (nomark _))
      (pss_cons (ps_expr (pe_bm PySem.F.plainAttrs_list PySem.F.slot_list_append PySem.F.type_list_append mt_append (pv 2) (pa_cons (pe_ix ixT (pe_dget (hu_of hr) (pv 0) (pv 1) (fun _ _ => rfl)) (pe_int) (fun _ _ => rfl)) pa_nil)))
      (pss_one (ps_set (i := 1) sc_l_way_back.nd rfl (Or.inl rfl) (pe_ix ixT (pe_ix ixL (pv 2) (pe_un un_neg pe_int) (fun _ _ => rfl)) (pe_int) (fun _ _ => rfl))))))
      (pss_one (ps_ret (pv 2))))), ?_⟩
  walk_at "g"
  intro D n_D; generalize hG : upd H D _ = H1; have s_H1 : Same H H1 := nw_same n_D hG; have e_D := nw_at hG; clear hG
  walk_at "g"
  refine ⟨whileG (fun n σ H' => Hold (∃ z, ∃ us : List V, ∃ l : List Mv, σ = [some (.ref d), some (.str z), some (.ref D)] ∧ Same H H' ∧ H' D = some (.lst us) ∧ A2 (fun m v => TupR (moveV m) v H') l us ∧ z ∈ R ∧ Chain z x l.reverse ∧ (∀ m ∈ l, m ∈ A ∧ ρ m.tail < ρ m.head) ∧ n = (ρ z).toNat ∧ l.length + n ≤ 1000))
    (ρ x).toNat ⟨x, [], [], rfl, s_H1, e_D, .nil, hx, rfl, fun m hm => (nomatch hm), rfl, ?_⟩ (fun n σ H' h => ?_)⟩
  · have := hP.lo x hx
    show 0 + (ρ x).toNat ≤ 1000
    omega
  · obtain ⟨z, us, l, rfl, t1, t2, t3, t4, t5, t6, rfl, t8⟩ := h.go
    have u1 : Rd H' d (.dK (fdV R fun k => .ref (r k))) := .inl (t1 _ _ hd1)
    obtain ⟨v, g0, g1, g2⟩ := (hd2 z t4).same t1
    have t9 := t3.length
    have at2 : atI [V.int (e z).p, V.int (e z).c, v] (2 : Int) = some v := atI_nat (j := 2) rfl
    cases ee : (e z).mv with
    | none =>
      have g3 := g1 ee
      have g4 : ¬ ¬ v = V.non := fun z => z g3
      walk_at "g"
      exact q H' D l z t1 n_D ⟨us, t2, t3⟩ (hP.st z t4 ee) t4 ee ⟨t5, fun m hm => (t6 m (List.mem_reverse.mp hm)).1, ρ, fun m hm => (t6 m (List.mem_reverse.mp hm)).2⟩
    | some m =>
      obtain ⟨t, g3, g5⟩ := g2 m ee
      subst g3
      have g7 : t ≠ D := ne_at g5 t2 (fun e => by cases e)
      have g9 : ¬ V.ref t = V.non := fun z => by cases z
      obtain ⟨p1, p2, p3, p4⟩ := hP.ar z t4 m ee
      have p5 := hP.lo m.tail p3
      have p6 := hP.lo z t4
      have hul : us.length ≤ 1000 := by omega
      have hat : atI (us ++ [V.ref t]) (-1 : Int) = some (.ref t) := atI_last _ _
      walk_at "g"
      refine Dec.of (ρ m.tail).toNat (by omega) ⟨m.tail, _, l ++ [m], rfl, same_put t1 n_D, upd_same, app_tup (Same.refl _) t2 t3 g5, p3, ?_, fun m' hm => ?_, rfl, ?_⟩
      · rw [List.reverse_append]
        refine ⟨rfl, ?_⟩
        rw [p2]
        exact t5
      · rcases List.mem_append.mp hm with hm | hm
        · exact t6 m' hm
        · rw [List.mem_singleton.mp hm, p2]
          exact ⟨p1, p4⟩
      · rw [List.length_append]
        show l.length + 1 + _ ≤ 1000
        omega
end
end M
end
-- part Mc
section
set_option Elab.async false
set_option linter.all false
set_option maxRecDepth 100000
set_option maxHeartbeats 4000000
namespace M
open PySem PySem.Spec PyProof.Rows L2
def lexLt (a b : Int × Int) : Prop := a.1 < b.1 ∨ (a.1 = b.1 ∧ a.2 < b.2)
instance (a b : Int × Int) : Decidable (lexLt a b) := by
  unfold lexLt
  exact inferInstance
def eV (e : Ent) : Int × Int := (e.p, e.c)
/-- what the move m tells of its head -/
def told (e : Str → Ent) (m : Mv) : Int × Int := ((e m.tail).p + m.price, (e m.tail).c + 1)
def redLt (π : Str → Int) (e : Str → Ent) (u v : Str) : Prop := lexLt ((e u).p - π u, (e u).c) ((e v).p - π v, (e v).c)
instance (π : Str → Int) (e : Str → Ent) (u v : Str) : Decidable (redLt π e u v) := by
  unfold redLt
  exact inferInstance
def Sat (R : List Str) (e : Str → Ent) (m : Mv) : Prop := m.head ∈ R ∧ ¬ lexLt (told e m) (eV (e m.head))
def below (π : Str → Int) (R : List Str) (e : Str → Ent) (v : Str) : Nat := (R.filter fun u => decide (redLt π e u v)).length
/-- the search's state: in the round j (from 0), i moves of it done; ch: some move of this round has changed a place (ranks: the last round that changed it, counted from 1) -/
structure FI (ks S : List Str) (A : List Mv) (π : Str → Int) (R : List Str) (e : Str → Ent) (rk : Str → Nat) (j i : Nat) (ch : Bool) : Prop where
  nd : R.Nodup
  inK : ∀ v ∈ R, v ∈ ks
  SR : ∀ s ∈ S, s ∈ R ∧ ¬ lexLt (0, 0) (eV (e s))
  ent : ∀ v ∈ R, ((e v).mv = none → v ∈ S ∧ (e v).p = 0 ∧ (e v).c = 0) ∧ ∀ m, (e v).mv = some m → m ∈ A ∧ m.head = v ∧ m.tail ∈ R ∧ ¬ lexLt (eV (e v)) (told e m)
  cn : ∀ v ∈ R, 0 ≤ (e v).c
  rank : ∀ v ∈ R, rk v ≤ below π R e v
  arcs : ∀ q m, A[q]? = some m → m.tail ∈ R → Sat R e m ∨ (if q < i then j + 1 else j) ≤ rk m.tail
  noch : ch = false → ∀ v ∈ R, rk v ≤ j
theorem FI.start {ks S : List Str} {A : List Mv} {π : Str → Int} (n : S.Nodup) (h : ∀ s ∈ S, s ∈ ks) : FI ks S A π S (fun _ => ⟨0, 0, none⟩) (fun _ => 0) 0 0 false where
  nd := n
  inK := h
  SR := fun s hs => ⟨hs, fun z => by
    rcases z with z | ⟨_, z⟩
    · exact absurd z (Int.lt_irrefl _)
    · exact absurd z (Int.lt_irrefl _)⟩
  ent := fun v hv => ⟨fun _ => ⟨hv, rfl, rfl⟩, fun m e => nomatch e⟩
  cn := fun v hv => Int.le_refl _
  rank := fun v hv => Nat.zero_le _
  arcs := fun q m e hm => .inr (by
    split
    · rename_i h
      exact absurd h (Nat.not_lt_zero _)
    · exact Nat.zero_le _)
  noch := fun _ v hv => Nat.le_refl _
/-- a move that tells nothing new -/
theorem FI.skip {ks S : List Str} {A : List Mv} {π : Str → Int} {R : List Str} {e : Str → Ent} {rk : Str → Nat} {j i : Nat} {ch : Bool} {m : Mv} (h : FI ks S A π R e rk j i ch) (em : A[i]? = some m) (hs : m.tail ∈ R → Sat R e m) : FI ks S A π R e rk j (i + 1) ch :=
  { nd := h.nd, inK := h.inK, SR := h.SR, ent := h.ent, cn := h.cn, rank := h.rank, noch := h.noch
    arcs := fun q x ex hx => by
      by_cases c : q = i
      · subst c
        rw [em] at ex
        rw [← Option.some.inj ex] at hx ⊢
        exact .inl (hs hx)
      · refine (h.arcs q x ex hx).imp id fun z => ?_
        split at z <;> split <;> omega }
theorem FI.round {ks S : List Str} {A : List Mv} {π : Str → Int} {R : List Str} {e : Str → Ent} {rk : Str → Nat} {j : Nat} (h : FI ks S A π R e rk j A.length true) (hk : ∀ v ∈ R, rk v ≤ j + 1) : FI ks S A π R e rk (j + 1) 0 false :=
  { nd := h.nd, inK := h.inK, SR := h.SR, ent := h.ent, cn := h.cn, rank := h.rank, noch := fun _ => hk
    arcs := fun q x ex hx => by
      have hq := (List.getElem?_eq_some_iff.mp ex).1
      refine (h.arcs q x ex hx).imp id fun z => ?_
      rw [if_pos hq] at z
      rw [if_neg (Nat.not_lt_zero _)]
      exact z }
theorem FI.done {ks S : List Str} {A : List Mv} {π : Str → Int} {R : List Str} {e : Str → Ent} {rk : Str → Nat} {j : Nat} (h : FI ks S A π R e rk j A.length false) : ∀ m ∈ A, m.tail ∈ R → Sat R e m := fun m hm ht => by
  obtain ⟨q, eq⟩ := List.mem_iff_getElem?.mp hm
  have hq := (List.getElem?_eq_some_iff.mp eq).1
  refine (h.arcs q m eq ht).elim id fun z => ?_
  rw [if_pos hq] at z
  have := h.noch rfl _ ht
  omega
theorem filter_le {p p' : Str → Bool} : ∀ {L : List Str}, (∀ u ∈ L, p u = true → p' u = true) → (L.filter p).length ≤ (L.filter p').length
  | [], _ => Nat.le_refl _
  | a :: L, h => by
    have ih := filter_le (L := L) fun u hu => h u (List.mem_cons_of_mem _ hu)
    have ha := h a List.mem_cons_self
    cases c : p a with
    | true =>
      rw [List.filter_cons_of_pos c, List.filter_cons_of_pos (ha c)]
      exact Nat.succ_le_succ ih
    | false =>
      rw [List.filter_cons_of_neg (by rw [c]; exact Bool.false_ne_true)]
      cases c' : p' a with
      | true =>
        rw [List.filter_cons_of_pos c']
        exact Nat.le_succ_of_le ih
      | false =>
        rw [List.filter_cons_of_neg (by rw [c']; exact Bool.false_ne_true)]
        exact ih
theorem filter_lt {p p' : Str → Bool} {x : Str} : ∀ {L : List Str}, (∀ u ∈ L, p u = true → p' u = true) → x ∈ L → p x = false → p' x = true → (L.filter p).length + 1 ≤ (L.filter p').length
  | [], _, hx, _, _ => nomatch hx
  | a :: L, h, hx, h1, h2 => by
    have hL : ∀ u ∈ L, p u = true → p' u = true := fun u hu => h u (List.mem_cons_of_mem _ hu)
    have ih0 := filter_le hL
    by_cases e : a = x
    · subst e
      rw [List.filter_cons_of_neg (by rw [h1]; exact Bool.false_ne_true), List.filter_cons_of_pos h2]
      exact Nat.succ_le_succ ih0
    · have hx : x ∈ L := (List.mem_cons.mp hx).resolve_left fun z => e z.symm
      have ih := filter_lt hL hx h1 h2
      have ha := h a List.mem_cons_self
      cases c : p a with
      | true =>
        rw [List.filter_cons_of_pos c, List.filter_cons_of_pos (ha c)]
        exact Nat.succ_le_succ ih
      | false =>
        rw [List.filter_cons_of_neg (by rw [c]; exact Bool.false_ne_true)]
        cases c' : p' a with
        | true =>
          rw [List.filter_cons_of_pos c']
          exact Nat.le_succ_of_le ih
        | false =>
          rw [List.filter_cons_of_neg (by rw [c']; exact Bool.false_ne_true)]
          exact ih
theorem lex_irr (a : Int × Int) : ¬ lexLt a a := fun z => by
  unfold lexLt at z
  omega
theorem FI.upd {ks S : List Str} {A : List Mv} {π : Str → Int} {R R' : List Str} {e e' : Str → Ent} {rk rk' : Str → Nat} {j i : Nat} {ch : Bool} {m : Mv} (h : FI ks S A π R e rk j i ch) (em : A[i]? = some m) (ht : m.tail ∈ R) (hn : ¬ Sat R e m) (hK : m.head ∈ ks) (hpos : 0 ≤ m.price + π m.tail - π m.head)
    (hR : (m.head ∈ R ∧ R' = R) ∨ (m.head ∉ R ∧ R' = R ++ [m.head])) (eh : e' m.head = ⟨(told e m).1, (told e m).2, some m⟩) (eo : ∀ v, v ≠ m.head → e' v = e v) (rh : rk' m.head = j + 1) (ro : ∀ v, v ≠ m.head → rk' v = rk v) : FI ks S A π R' e' rk' j (i + 1) true := by
  have mR : ∀ v, v ∈ R' ↔ v ∈ R ∨ v = m.head := fun v => by
    rcases hR with ⟨a, b⟩ | ⟨a, b⟩
    · rw [b]
      exact ⟨.inl, fun z => z.elim id fun z => z ▸ a⟩
    · rw [b, List.mem_append, List.mem_singleton]
  have hlt : m.head ∈ R → lexLt (told e m) (eV (e m.head)) := fun z => Classical.byContradiction fun y => hn ⟨z, y⟩
  have hth : m.tail ≠ m.head := fun z => by
    have := hlt (z ▸ ht)
    unfold lexLt told eV at this
    rw [← z] at this hpos
    simp only at this
    omega
  have et : e' m.tail = e m.tail := eo _ hth
  have tt : told e' m = told e m := by
    unfold told
    rw [et]
  have hrk : j ≤ rk m.tail := by
    have := (h.arcs i m em ht).resolve_left hn
    rw [if_neg (Nat.lt_irrefl _)] at this
    exact this
  refine ⟨?_, fun v hv => ?_, fun s hs => ?_, fun v hv => ?_, fun v hv => ?_, fun v hv => ?_, fun q x ex hx => ?_, fun z => nomatch z⟩
  · rcases hR with ⟨a, b⟩ | ⟨a, b⟩
    · rw [b]
      exact h.nd
    · rw [b]
      exact nodup_snoc h.nd a
  · rcases (mR v).mp hv with z | z
    · exact h.inK v z
    · rw [z]
      exact hK
  · refine ⟨(mR s).mpr (.inl (h.SR s hs).1), ?_⟩
    by_cases c : s = m.head
    · rw [c, eh]
      have h1 := hlt (c ▸ (h.SR s hs).1)
      have h2 := (h.SR s hs).2
      rw [c] at h2
      unfold lexLt eV at *
      simp only at *
      omega
    · rw [eo s c]
      exact (h.SR s hs).2
  · by_cases c : v = m.head
    · rw [c, eh]
      refine ⟨fun z => (nomatch z), fun y ey => ?_⟩
      rw [← Option.some.inj ey, tt]
      exact ⟨List.mem_of_getElem? em, rfl, (mR _).mpr (.inl ht), lex_irr _⟩
    · rw [eo v c]
      have hv : v ∈ R := ((mR v).mp hv).resolve_right c
      refine ⟨(h.ent v hv).1, fun y ey => ?_⟩
      obtain ⟨a1, a2, a3, a4⟩ := (h.ent v hv).2 y ey
      refine ⟨a1, a2, (mR _).mpr (.inl a3), ?_⟩
      by_cases c2 : y.tail = m.head
      · have h1 := hlt (c2 ▸ a3)
        unfold told at a4 ⊢
        rw [c2] at a4 ⊢
        rw [eh]
        unfold lexLt eV told at *
        simp only at *
        omega
      · unfold told at a4 ⊢
        rw [eo _ c2]
        exact a4
  · by_cases c : v = m.head
    · rw [c, eh]
      have := h.cn m.tail ht
      show 0 ≤ (e m.tail).c + 1
      omega
    · rw [eo v c]
      exact h.cn v (((mR v).mp hv).resolve_right c)
  · have mono : ∀ p' : Str → Bool, (R.filter p').length ≤ (R'.filter p').length := fun p' => by
      rcases hR with ⟨a, b⟩ | ⟨a, b⟩
      · rw [b]
        exact Nat.le_refl _
      · rw [b, List.filter_append, List.length_append]
        exact Nat.le_add_right _ _
    have t1 : (told e m).1 = (e m.tail).p + m.price := rfl
    have t2 : (told e m).2 = (e m.tail).c + 1 := rfl
    by_cases c : v = m.head
    · rw [c, rh]
      refine Nat.le_trans ?_ (mono _)
      refine Nat.le_trans (Nat.succ_le_succ (Nat.le_trans hrk (h.rank m.tail ht))) ?_
      refine filter_lt (fun u hu hp => ?_) ht (decide_eq_false (lex_irr _)) (decide_eq_true ?_)
      · have hp := of_decide_eq_true hp
        refine decide_eq_true ?_
        by_cases cu : u = m.head
        · exfalso
          have h1 := hlt (cu ▸ hu)
          rw [cu] at hp
          unfold redLt lexLt at hp
          unfold lexLt at h1
          rw [t1, t2] at h1
          have k7 : (eV (e m.head)).1 = (e m.head).p := rfl
          have k8 : (eV (e m.head)).2 = (e m.head).c := rfl
          rw [k7, k8] at h1
          simp only at hp
          omega
        · unfold redLt lexLt at hp ⊢
          rw [eo u cu, eh, t1, t2]
          simp only at hp ⊢
          omega
      · unfold redLt lexLt
        rw [et, eh, t1, t2]
        simp only
        omega
    · have hv : v ∈ R := ((mR v).mp hv).resolve_right c
      rw [ro v c]
      refine Nat.le_trans (h.rank v hv) (Nat.le_trans (filter_le fun u hu hp => ?_) (mono _))
      have hp := of_decide_eq_true hp
      refine decide_eq_true ?_
      by_cases cu : u = m.head
      · have h1 := hlt (cu ▸ hu)
        rw [cu] at hp ⊢
        unfold redLt lexLt at hp ⊢
        unfold lexLt at h1
        have k7 : (eV (e m.head)).1 = (e m.head).p := rfl
        have k8 : (eV (e m.head)).2 = (e m.head).c := rfl
        rw [k7, k8] at h1
        rw [eh, eo v c]
        simp only at hp ⊢
        omega
      · unfold redLt at hp ⊢
        rw [eo u cu, eo v c]
        exact hp
  · by_cases c : x.tail = m.head
    · refine .inr ?_
      rw [c, rh]
      split <;> omega
    · have hx : x.tail ∈ R := ((mR _).mp hx).resolve_right c
      rw [ro _ c]
      have tx : told e' x = told e x := by
        unfold told
        rw [eo _ c]
      by_cases cq : q = i
      · subst cq
        rw [em] at ex
        have exm := Option.some.inj ex
        subst exm
        refine .inl ⟨(mR _).mpr (.inr rfl), ?_⟩
        rw [tt, eh]
        exact lex_irr _
      · rcases h.arcs q x ex hx with ⟨s1, s2⟩ | z
        · refine .inl ⟨(mR _).mpr (.inl s1), ?_⟩
          rw [tx]
          by_cases ch2 : x.head = m.head
          · have h1 := hlt (ch2 ▸ s1)
            rw [ch2] at s2 ⊢
            rw [eh]
            unfold lexLt at *
            have k7 : (eV (e m.head)).1 = (e m.head).p := rfl
            have k8 : (eV (e m.head)).2 = (e m.head).c := rfl
            rw [k7, k8] at h1 s2
            show ¬ ((told e x).1 < (told e m).1 ∨ ((told e x).1 = (told e m).1 ∧ (told e x).2 < (told e m).2))
            omega
          · rw [eo _ ch2]
            exact s2
        · refine .inr ?_
          split at z <;> split <;> omega
theorem FI.last {ks S : List Str} {A : List Mv} {π : Str → Int} {R : List Str} {e : Str → Ent} {rk : Str → Nat} {j : Nat} {ch : Bool} (h : FI ks S A π R e rk j 0 ch) (hj : ks.length ≤ j) : ∀ m ∈ A, m.tail ∈ R → Sat R e m := fun m hm ht => by
  obtain ⟨q, eq⟩ := List.mem_iff_getElem?.mp hm
  refine (h.arcs q m eq ht).elim id fun z => ?_
  rw [if_neg (Nat.not_lt_zero _)] at z
  have h1 := h.rank _ ht
  have h2 := nodup_le h.nd h.inK
  have h3 : below π R e m.tail + 1 ≤ (R.filter fun _ => true).length := filter_lt (fun u _ _ => rfl) ht (decide_eq_false (lex_irr _)) rfl
  have h4 := List.length_filter_le (fun _ : Str => true) R
  omega
/-- what far_from finds: distances that no move betters, each reached by its own move -/
structure Far (S : List Str) (A : List Mv) (R : List Str) (e : Str → Ent) : Prop where
  nd : R.Nodup
  SR : ∀ s ∈ S, s ∈ R ∧ (e s).p ≤ 0
  st : ∀ v ∈ R, (e v).mv = none → v ∈ S ∧ (e v).p = 0
  ar : ∀ v ∈ R, ∀ m, (e v).mv = some m → m ∈ A ∧ m.head = v ∧ m.tail ∈ R ∧ (e v).p = (e m.tail).p + m.price ∧ (e m.tail).c < (e v).c
  cl : ∀ m ∈ A, m.tail ∈ R → m.head ∈ R ∧ (e m.head).p ≤ (e m.tail).p + m.price
theorem FI.far {ks S : List Str} {A : List Mv} {π : Str → Int} {R : List Str} {e : Str → Ent} {rk : Str → Nat} {j i : Nat} {ch : Bool} (h : FI ks S A π R e rk j i ch) (hs : ∀ m ∈ A, m.tail ∈ R → Sat R e m) : Far S A R e where
  nd := h.nd
  SR := fun s hm => ⟨(h.SR s hm).1, by
    have := (h.SR s hm).2
    have k7 : (eV (e s)).1 = (e s).p := rfl
    unfold lexLt at this
    rw [k7] at this
    omega⟩
  st := fun v hv z => ⟨((h.ent v hv).1 z).1, ((h.ent v hv).1 z).2.1⟩
  ar := fun v hv m em => by
    obtain ⟨a1, a2, a3, a4⟩ := (h.ent v hv).2 m em
    have a5 := (hs m a1 a3).2
    rw [a2] at a5
    have k7 : (eV (e v)).1 = (e v).p := rfl
    have k8 : (eV (e v)).2 = (e v).c := rfl
    have t1 : (told e m).1 = (e m.tail).p + m.price := rfl
    have t2 : (told e m).2 = (e m.tail).c + 1 := rfl
    unfold lexLt at a4 a5
    rw [k7, k8, t1, t2] at a4 a5
    exact ⟨a1, a2, a3, by omega, by omega⟩
  cl := fun m hm ht => by
    obtain ⟨b1, b2⟩ := hs m hm ht
    have k7 : (eV (e m.head)).1 = (e m.head).p := rfl
    have t1 : (told e m).1 = (e m.tail).p + m.price := rfl
    unfold lexLt at b2
    rw [k7, t1] at b2
    exact ⟨b1, by omega⟩
end M
end
-- part W22
section
set_option Elab.async false
set_option linter.all false
set_option maxRecDepth 100000
set_option maxHeartbeats 4000000
namespace M
open PySem PySem.Spec PyProof.Rows L2
local macro_rules | `(tactic| walk_at "e") => `(tactic| (first
  | exact rfl
  | assumption
  | exact upd_same
  | exact flat_strs
  | exact fd_keys
  | ((with_reducible apply same_at); assumption; walk_at "f")
  | ((with_reducible apply at_upd); assumption; walk_at "f")
  | omega))
local macro_rules | `(tactic| walk_at "n") => `(tactic| (first
  | assumption
  | omega
  | exact Nat.le_of_lt (small1000 (by first | assumption | omega))
  | exact (Nat.zero_le _ : 0 ≤ sizeLine)
  | exact (by decide : 1 ≤ sizeLine)
  | exact (by decide : 2 ≤ sizeLine)
  | exact (by decide : 3 ≤ sizeLine)
  | exact (by decide : 5 ≤ sizeLine)
  | exact (by decide : 6 ≤ sizeLine)
  | (show _ < 1000; exact of_decide_eq_true rfl)
  | exact len2 (by omega) (by omega)
  | exact small1000 (by first | assumption | omega)))
local macro_rules | `(tactic| walk_at "f") => `(tactic| (first
  | with_reducible assumption
  | ((with_reducible apply gEq); walk_at "e")
  | ((with_reducible apply gLe); walk_at "n")
  | ((with_reducible apply gLt); walk_at "n")
  | ((with_reducible apply gNot); (first | assumption | omega))
  | with_reducible exact Same.refl _
  | ((with_reducible apply tupOf); walk_at "f")
  | ((with_reducible apply lstOf); walk_at "f")
  | ((with_reducible apply gCls); assumption)
  | ((with_reducible apply gNoAttr); assumption)
  | ((with_reducible apply gIsPl); assumption)
  | ((with_reducible apply gStL); assumption)
  | ((with_reducible apply gIntD); assumption)
  | ((with_reducible apply gSqT); assumption)
  | ((with_reducible apply gSqL); assumption)
  | ((with_reducible apply tyV_l); walk_at "f")
  | ((with_reducible apply Rd.of); walk_at "f")
  | ((with_reducible apply dget_ne); assumption; assumption)
  | ((with_reducible apply dget_fd) <;> walk_at "f")
  | ((with_reducible apply dput_int) <;> walk_at "f")
  | ((with_reducible apply dput_fd) <;> walk_at "f")
  | ((with_reducible apply rd_upd); assumption; walk_at "f")
  | ((with_reducible apply same_put); walk_at "f"; assumption)
  | ((with_reducible apply sx_upd) <;> walk_at "f")
  | ((with_reducible refine Same.trans ?_ (by assumption)); walk_at "f")
  | ((with_reducible apply cmulLg); omega; omega)
  | ((with_reducible apply cmulRg); omega; omega)
  | ((with_reducible apply SameE.upd); walk_at "f")
  | ((with_reducible apply StL.same); assumption; walk_at "f")
  | ((with_reducible apply LT.same); assumption; walk_at "f")
  | ((with_reducible apply IsP.same); assumption; walk_at "f")
  | ((with_reducible apply IsPl.same); assumption; walk_at "f")
  | ((with_reducible apply IntD.same); assumption; walk_at "f")
  | ((with_reducible apply PrD.same); assumption; walk_at "f")
  | ((with_reducible apply Or.inl); walk_at "f")
  | ((with_reducible apply Or.inr); walk_at "f")))
local macro_rules | `(tactic| walk_at "g") => `(tactic| repeat (first
  | with_reducible apply And.intro
  | with_reducible apply Exists.intro
  | walk_at "f"
  | ((with_reducible apply iteT); assumption)
  | ((with_reducible apply iteF); assumption)
  | ((with_reducible apply iteD); (first | assumption | omega))
  | ((with_reducible apply iteN); (first | assumption | omega))
  | ((with_reducible apply iteD2); (first | assumption | omega))
  | ((with_reducible apply iteN2); (first | assumption | omega))
  | apply And.intro
  | apply Exists.intro))
section
variable {P : Program} {w : World} {K : PySem.W.Frag} {mg : Str → Option Value} {base : Heap}
theorem ht_lex (p q : Int × Int) : HT.lexLt [p.1, p.2] [q.1, q.2] = decide (lexLt p q) := by
  rw [HT.lexLt_cons, HT.lexLt_cons, HT.lexLt_nil_nil]
  unfold lexLt
  by_cases a : p.1 = q.1
  · rw [if_pos a]
    by_cases b : p.2 = q.2
    · rw [if_pos b]
      exact (decide_eq_false (by omega)).symm
    · rw [if_neg b]
      exact decide_eq_decide.mpr (by omega)
  · rw [if_neg a]
    exact decide_eq_decide.mpr (by omega)
def rLtP : R2 := fun x y H Q => ∃ (a b : Addr) (p q : Int × Int), x = .ref a ∧ y = .ref b ∧ H a = some (.tup [.int p.1, .int p.2]) ∧ H b = some (.tup [.int q.1, .int q.2]) ∧ Q (.bl (decide (lexLt p q))) H
theorem ltP {X : Cx} (hu : X.A.units < cLine) : OpR X (compareOp .Lt) rLtP := op_imp (op_ltT hu) fun x y H Q ⟨a, b, p, q, e1, e2, h1, h2, h⟩ => ⟨a, b, [p.1, p.2], [q.1, q.2], e1, e2, tupOf h1, tupOf h2, by
  rw [ht_lex]
  exact h⟩
theorem entD_put {H : Hp} {D t t4 : Addr} {R R' : List Str} {r : Str → Addr} {e : Str → Ent} {x : Str} {p c : Int} {m : Mv} (hD : H D = some (.dK (fdV R fun k => .ref (r k)))) (hE : ∀ k ∈ R, EntR (e k) (r k) H) (h4 : H t4 = some (.tup [.int p, .int c, .ref t])) (ht : H t = some (.tup (moveV m))) (hR : ∀ v ∈ R', v ∈ R ∨ v = x) :
    EntD (upd H D (.dK (fdV R' (up (fun k => .ref (r k)) x (.ref t4))))) D R' (up e x ⟨p, c, some m⟩) := by
  have sx : SameX ND H (upd H D (.dK (fdV R' (up (fun k => .ref (r k)) x (.ref t4))))) := sameX_dK hD
  refine ⟨up r x t4, by rw [upd_same, up_ref], fun k hk => ?_⟩
  by_cases z : k = x
  · rw [z, up_same, up_same]
    exact ⟨_, sx _ _ (fun ys e => by cases e) h4, fun e => (nomatch e), fun y e => by
      rw [← Option.some.inj e]
      exact ⟨t, rfl, sx _ _ (fun ys e => by cases e) ht⟩⟩
  · rw [up_ne z, up_ne z]
    exact (hE k ((hR k hk).resolve_right z)).sx sx
def sp_far_from (K : PySem.W.Frag) : Sp := fun vs H Q _ => ∃ a b c ks S A, ∃ π : Str → Int, vs = [.ref a, .ref b, .ref c] ∧ StL H a ks ∧ StL H b S ∧ LT moveV H c A ∧ S.Nodup ∧ (∀ s ∈ S, s ∈ ks) ∧ (∀ m ∈ A, m.head ∈ ks) ∧ (∀ m ∈ A, 0 ≤ m.price + π m.tail - π m.head) ∧ ks.length ≤ 24 ∧ A.length ≤ 100 ∧
  ∀ H' d R e, Same H H' → H d = none → EntD H' d R e → Far S A R e → (∀ v ∈ R, v ∈ ks) → Q (.ref d) H'
theorem sc_far_from : FnScope ["knots", "starts", "moves", "found", "changed", "_", "move", "price", "count", "told", "knot"] ["knots", "starts", "moves"] (defScope s_far_from) := ⟨rfl, rfl, rfl, by decide +kernel, rfl, by decide +kernel, by decide +kernel⟩
theorem ok_far_from (T : Tx K mg) : Has P w K mg base CX0 1 (A_far_from K) ["knots", "starts", "moves"] [] (sp_far_from K) := by
  obtain ⟨fd, F⟩ := T.F_far_from
  refine ⟨fd, [], F.ok sc_far_from (fun vs H Q E h => by
    obtain ⟨_, _, _, _, _, _, _, rfl, _⟩ := h
    rfl) (fun cdv A outer s H vs Q E hr h => ?_), F.bindsN (fun _ _ _ _ _ _ us hl => match us, hl with | [_, _, _], _ => rfl), .nil, F.kp⟩
  obtain ⟨a, b, c, ks, S, Ms, π, rfl, ha, hb, hc', hS, hSk, hMk, hpos, hkl, hMl, q⟩ := h
  obtain ⟨vs, hc1, hc2⟩ := hc'.ex
  have hSl := nodup_le hS hSk
  refine ⟨_, (pss_cons (ps_setDc (i := 3) (own := [("knot", 10)]) (g := (gName 10)) rfl sc_far_from.nd rfl rfl (sw_dict rfl rfl rfl (by decide +kernel)) (pi_list (pv 1)) (blkOk_by (own := [("knot", 10)]) (N := ["knots", "starts", "moves", "found", "changed", "_", "move", "price", "count", "told", "knot"]) (sc := defScope s_far_from) (by decide +kernel)) (fun _ _ _ _ _ => (pg_name (i := 10) sc_far_from.nd rfl (Or.inl rfl))) (fun _ _ _ _ _ => pts_nil) (fun _ _ _ _ _ => (pv 10)) (fun _ _ _ _ _ => (pe_tup (pa_cons (pe_int) (pa_cons (pe_int) (pa_cons (pe_non) pa_nil))))))
      (pss_cons (ps_set (i := 4) sc_far_from.nd rfl (Or.inl rfl) (pe_bl))
      (pss_cons (psFor (passes_of rfl) rfl (pi_list (pv 0)) (pg_name (i := 5) sc_far_from.nd rfl (Or.inl rfl))
      (pss_one (ps_if (pt_val (pv 4))
      (pss_cons (ps_set (i := 4) sc_far_from.nd rfl (Or.inl rfl) (pe_bl))
      (pss_one (psFor (passes_of rfl) rfl (pi_list (pv 2)) (pg_name (i := 6) sc_far_from.nd rfl (Or.inl rfl))
      (pss_one (ps_if (pt_cmp (pc_din (hu_of hr) (pe_ix ixT (pv 6) (pe_int) (fun _ _ => rfl)) (pv 3)))
      (pss_cons (ps_asg (pe_dget (hu_of hr) (pv 3) (pe_ix ixT (pv 6) (pe_int) (fun _ _ => rfl)) (fun _ _ => rfl)) (pg_tup (by rfl) (pgs_cons (pg_name (i := 7) sc_far_from.nd rfl (Or.inl rfl)) (pgs_cons (pg_name (i := 8) sc_far_from.nd rfl (Or.inl rfl)) (pgs_cons (pg_name (i := 5) sc_far_from.nd rfl (Or.inl rfl)) pgs_nil)))))
      (pss_cons (ps_set (i := 9) sc_far_from.nd rfl (Or.inl rfl) (pe_tup (pa_cons (pe_op op_add (pv 7) (pe_ix ixT (pv 6) (pe_int) (fun _ _ => rfl))) (pa_cons (pe_op op_add (pv 8) (pe_int)) pa_nil))))
      (pss_one (ps_if (PW.pt (pw_or (pt_cmp (pc_dnotin (hu_of hr) (pe_ix ixT (pv 6) (pe_int) (fun _ _ => rfl)) (pv 3))) (pw_or1 (pt_cmpR (ltP hr.units0) (pv 9) (pe_slice slT (pe_dget (hu_of hr) (pv 3) (pe_ix ixT (pv 6) (pe_int) (fun _ _ => rfl)) (fun _ _ => rfl)) po_none (po_some (pe_int))) (nomark _)))))
      (pss_cons (ps_dput (hu_of hr) (pv 3) (pe_ix ixT (pv 6) (pe_int) (fun _ _ => rfl)) (pe_op catT (pv 9) (pe_tup (pa_cons (pv 6) pa_nil))) rfl)
      (pss_one (ps_set (i := 4) sc_far_from.nd rfl (Or.inl rfl) (pe_bl))))
      pss_nil))))
      pss_nil)))))
      pss_nil)))
      (pss_one (ps_ret (pv 3)))))), ?_⟩
  walk_at "g"
  intro D hD
  refine dcG (wk_listM (ys := S) (m := V.str)) kS (fun _ v H => TupR [.int 0, .int 0, .non] v H) (fun b v H H' s r => r.sx (fun xs ys e => by cases e) s) (nodup_kS hS) hD (lstOf hb) (by omega) (fun i x v H' Ky Kn ex s _ hv ky => ?_) (fun H1 kvs s1 e1 a1 => ?_)
  · subst hv
    walk_at "g"
    intro t n_t; generalize hG : upd H' t _ = H4; have s_H4 : Same H' H4 := nw_same n_t hG; have e_t := nw_at hG; clear hG
    exact ky _ H4 s_H4 ⟨t, rfl, e_t⟩
  obtain ⟨r0, ek0, hr0⟩ : ∃ r : Str → V, kvs = fdV S r ∧ ∀ n ∈ S, TupR [.int 0, .int 0, .non] (r n) H1 := by
    have : A2 (fun (x : Key × V) kv => kv.1 = x.1 ∧ ∀ n, x.1 = kS n → TupR [.int 0, .int 0, .non] kv.2 H1) (fdV S fun _ => .non) kvs := by
      clear e1
      unfold fdV
      generalize S = S0 at a1
      induction S0 generalizing kvs with
      | nil => cases a1; exact .nil
      | cons x S0 ih =>
        cases a1 with
        | cons h t => exact .cons ⟨h.1, fun _ _ => h.2⟩ (ih _ t)
    exact a2_fd (R := fun n v => TupR [.int 0, .int 0, .non] v H1) hS this
  obtain ⟨g0, hg1, hg2⟩ := choose_fd (R := fun n q => H1 q = some (.tup [.int 0, .int 0, .non])) fun n hn => hr0 n hn
  rw [ek0, fd_congr hg1] at e1
  walk_at "g"
  refine ⟨forG (wk_listM (ys := ks) (m := V.str)) (fun j σ H' => Hold (∃ y5 y6 y7 y8 y9 y10, ∃ R : List Str, ∃ e : Str → Ent, ∃ ch : Bool, σ = [some (.ref a), some (.ref b), some (.ref c), some (.ref D), some (.bl ch), y5, y6, y7, y8, y9, y10] ∧ Same H H' ∧ EntD H' D R e ∧ (ch = true → ∃ rk, FI ks S Ms π R e rk j 0 false) ∧ (ch = false → ∃ rk j' i' c', FI ks S Ms π R e rk j' i' c' ∧ ∀ m ∈ Ms, m.tail ∈ R → Sat R e m)))
    ⟨none, none, none, none, none, none, S, fun _ => ⟨0, 0, none⟩, true, rfl, s1, ⟨g0, e1, fun n hn => ⟨.non, hg2 n hn, fun _ => rfl, fun m z => (nomatch z)⟩⟩, fun _ => ⟨_, FI.start hS hSk⟩, fun z => (nomatch z)⟩ (fun j σ H' _ h => ?_) (fun j x v σ H' H'' ex h s5 hv2 => ?_) (fun σ H' h => ?_)⟩
  · obtain ⟨y5, y6, y7, y8, y9, y10, R, e, ch, rfl, t1, t2, t3, t4⟩ := h.go
    exact lstOf (t1 _ _ ha)
  · obtain ⟨y5, y6, y7, y8, y9, y10, R, e, ch, rfl, t1, t2, t3, t4⟩ := h.go
    subst hv2
    cases ch with
    | false =>
      walk_at "g"
      exact ⟨_, _, _, _, _, _, R, e, false, rfl, t1.trans s5, t2.same s5, fun z => (nomatch z), t4⟩
    | true =>
      obtain ⟨rk0, f0⟩ := t3 rfl
      have hcc : ∀ {H5}, Same H H5 → H5 c = some (.lst vs) := fun s => s _ _ hc1
      have hcH := hcc (t1.trans s5)
      walk_at "g"
      refine ⟨forG (LT.wk (m := moveV) (vs := vs) (xs := Ms)) (fun i σ H' => Hold (∃ y5 y6 y7 y8 y9 y10, ∃ R : List Str, ∃ e : Str → Ent, ∃ rk : Str → Nat, ∃ ch : Bool, σ = [some (.ref a), some (.ref b), some (.ref c), some (.ref D), some (.bl ch), y5, y6, y7, y8, y9, y10] ∧ Same H H' ∧ EntD H' D R e ∧ FI ks S Ms π R e rk j i ch ∧ ∀ v ∈ R, rk v ≤ j + 1))
        ⟨_, _, _, _, _, _, R, e, rk0, false, rfl, t1.trans s5, t2.same s5, f0, fun v hv => Nat.le_succ_of_le (f0.noch rfl v hv)⟩ (fun i σ H' _ h => ?_) (fun i m v σ H3 H4 em h s6 hv3 => ?_) (fun σ H' h => ?_)⟩
      · obtain ⟨y5, y6, y7, y8, y9, y10, R, e, rk, ch, rfl, u1, u2, u3, u4⟩ := h.go
        exact ⟨lstOf (u1 _ _ hc1), hc2.imp fun m v r => r.same u1⟩
      · obtain ⟨y5, y6, y7, y8, y9, y10, R, e, rk, ch, rfl, u1, u2, u3, u4⟩ := h.go
        obtain ⟨t, rfl, ht⟩ := hv3
        have hm := List.mem_of_getElem? em
        have w1 : Same H H4 := u1.trans s6
        have w2 := u2.same s6
        obtain ⟨r, z1, z2⟩ := w2.ex
        have hRl : R.length ≤ 24 := Nat.le_trans (nodup_le u3.nd u3.inK) hkl
        by_cases c1 : m.tail ∈ R
        · have g1 : DGet H4 D (.str m.tail) (some (.ref (r m.tail))) := dget_fd (g := fun k => V.ref (r k)) (.inl z1) c1
          obtain ⟨v1, z3, z4, z5⟩ := z2 _ c1
          walk_at "g"
          intro t2 n_t2; generalize hG : upd H4 t2 _ = H5; have s_H5 : Same H4 H5 := nw_same n_t2 hG; have e_t2 := nw_at hG; clear hG
          have z1' := s_H5 _ _ z1
          have ht' := s_H5 _ _ ht
          have hm2 := hMk m hm
          have nz1 : [V.int (told e m).1, V.int (told e m).2] ≠ [] := fun z => by cases z
          have nz2 : [V.ref t] ≠ [] := fun z => by cases z
          by_cases c2 : m.head ∈ R
          · have g2 : DGet H5 D (.str m.head) (some (.ref (r m.head))) := dget_fd (g := fun k => V.ref (r k)) (.inl z1') c2
            obtain ⟨v2, z6, z7, z8⟩ := (z2 _ c2).same s_H5
            walk_at "g"
            · intro _ ez
              exfalso
              have : HT.sIx 3 3 (some 2) = 3 := ez
              revert this
              decide
            · intro t3 n_t3; generalize hG : upd H5 t3 _ = H6; have s_H6 : Same H5 H6 := nw_same n_t3 hG; have e_t3 := nw_at hG; clear hG
              have e_t3' : H6 t3 = some (.tup [.int (eV (e m.head)).1, .int (eV (e m.head)).2]) := e_t3
              have e_t2' : H6 t2 = some (.tup [.int (told e m).1, .int (told e m).2]) := s_H6 _ _ e_t2
              have z1'' := s_H6 _ _ z1'
              have ht'' := s_H6 _ _ ht'
              walk_at "g"
              refine ite_d (fun cl => ?_) (fun cl => ?_)
              · walk_at "g"
                intro t6 n_t6; generalize hG : upd H6 t6 _ = H7; have s_H7 : Same H6 H7 := nw_same n_t6 hG; have e_t6 := nw_at hG; clear hG
                have q1 := s_H7 _ _ e_t2'
                walk_at "g"
                intro t7 n_t7; generalize hG : upd H7 t7 _ = H8; have s_H8 : Same H7 H8 := nw_same n_t7 hG; have e_t7 := nw_at hG; clear hG
                have q2 : H8 t7 = some (.tup [.int (told e m).1, .int (told e m).2, .ref t]) := e_t7
                have q3 := s_H8 _ _ (s_H7 _ _ z1'')
                have q4 := s_H8 _ _ (s_H7 _ _ ht'')
                have q5 : Same H4 H8 := s_H5.trans (s_H6.trans (s_H7.trans s_H8))
                have hput : DPut H8 D (.str m.head) (.ref t7) (upd H8 D (.dK (fdV R (up (fun k => .ref (r k)) m.head (.ref t7))))) := dput_fd q3 c2 (by omega)
                walk_at "g"
                refine ⟨_, _, _, _, _, _, R, up e m.head ⟨(told e m).1, (told e m).2, some m⟩, up rk m.head (j + 1), true, rfl, same_put (w1.trans q5) hD, entD_put q3 (fun k hk => (z2 k hk).same q5) q2 q4 (fun v hv => .inl hv), u3.upd em c1 (fun z => z.2 cl) hm2 (hpos m hm) (.inl ⟨c2, rfl⟩) up_same (fun v hv => up_ne hv) up_same (fun v hv => up_ne hv), fun v hv => ?_⟩
                by_cases zz : v = m.head
                · rw [zz, up_same]
                  exact Nat.le_refl _
                · rw [up_ne zz]
                  exact u4 v hv
              · walk_at "g"
                exact ⟨_, _, _, _, _, _, R, e, rk, ch, rfl, w1.trans (s_H5.trans s_H6), w2.same (s_H5.trans s_H6), u3.skip em fun _ => ⟨c2, cl⟩, u4⟩
          · have g2 : DGet H5 D (.str m.head) none := dget_fd0 (g := fun k => V.ref (r k)) (.inl z1') c2
            have e_t2' : H5 t2 = some (.tup [.int (told e m).1, .int (told e m).2]) := e_t2
            walk_at "g"
            intro t6 n_t6; generalize hG : upd H5 t6 _ = H7; have s_H7 : Same H5 H7 := nw_same n_t6 hG; have e_t6 := nw_at hG; clear hG
            have q1 := s_H7 _ _ e_t2'
            walk_at "g"
            intro t7 n_t7; generalize hG : upd H7 t7 _ = H8; have s_H8 : Same H7 H8 := nw_same n_t7 hG; have e_t7 := nw_at hG; clear hG
            have q2 : H8 t7 = some (.tup [.int (told e m).1, .int (told e m).2, .ref t]) := e_t7
            have q3 := s_H8 _ _ (s_H7 _ _ z1')
            have q4 := s_H8 _ _ (s_H7 _ _ ht')
            have q5 : Same H4 H8 := s_H5.trans (s_H7.trans s_H8)
            have hput : DPut H8 D (.str m.head) (.ref t7) (upd H8 D (.dK (fdV (R ++ [m.head]) (up (fun k => .ref (r k)) m.head (.ref t7))))) := dput_new q3 c2 (by omega)
            walk_at "g"
            refine ⟨_, _, _, _, _, _, R ++ [m.head], up e m.head ⟨(told e m).1, (told e m).2, some m⟩, up rk m.head (j + 1), true, rfl, same_put (w1.trans q5) hD, entD_put q3 (fun k hk => (z2 k hk).same q5) q2 q4 (fun v hv => by
              rw [List.mem_append, List.mem_singleton] at hv
              exact hv), u3.upd em c1 (fun z => c2 z.1) hm2 (hpos m hm) (.inr ⟨c2, rfl⟩) up_same (fun v hv => up_ne hv) up_same (fun v hv => up_ne hv), fun v hv => ?_⟩
            by_cases zz : v = m.head
            · rw [zz, up_same]
              exact Nat.le_refl _
            · rw [up_ne zz]
              rw [List.mem_append, List.mem_singleton] at hv
              exact u4 v (hv.resolve_right zz)
        · have g1 : DGet H4 D (.str m.tail) none := dget_fd0 (g := fun k => V.ref (r k)) (.inl z1) c1
          walk_at "g"
          exact ⟨_, _, _, _, _, _, R, e, rk, ch, rfl, w1, w2, u3.skip em fun z => absurd z c1, u4⟩
      · obtain ⟨y5, y6, y7, y8, y9, y10, R, e, rk, ch, rfl, u1, u2, u3, u4⟩ := h.go
        cases ch with
        | true =>
          walk_at "g"
          exact ⟨_, _, _, _, _, _, R, e, true, rfl, u1, u2, fun _ => ⟨rk, u3.round u4⟩, fun z => (nomatch z)⟩
        | false =>
          walk_at "g"
          exact ⟨_, _, _, _, _, _, R, e, false, rfl, u1, u2, fun z => (nomatch z), fun _ => ⟨rk, _, _, _, u3, u3.done⟩⟩
  · obtain ⟨y5, y6, y7, y8, y9, y10, R, e, ch, rfl, t1, t2, t3, t4⟩ := h.go
    walk_at "g"
    cases ch with
    | true =>
      obtain ⟨rk, f⟩ := t3 rfl
      exact q H' D R e t1 hD t2 (f.far (f.last (Nat.le_refl _))) f.inK
    | false =>
      obtain ⟨rk, j', i', c', f, hs⟩ := t4 rfl
      exact q H' D R e t1 hD t2 (f.far hs) f.inK
end
end M
end
-- part W23
section
set_option Elab.async false
set_option linter.all false
set_option maxRecDepth 100000
set_option maxHeartbeats 4000000
namespace M
open PySem PySem.Spec PyProof.Rows L2
local macro_rules | `(tactic| walk_at "e") => `(tactic| (first
  | exact rfl
  | assumption
  | exact upd_same
  | exact flat_strs
  | exact fd_keys
  | ((with_reducible apply same_at); assumption; walk_at "f")
  | ((with_reducible apply at_upd); assumption; walk_at "f")
  | omega))
local macro_rules | `(tactic| walk_at "n") => `(tactic| (first
  | assumption
  | omega
  | exact Nat.le_of_lt (small1000 (by first | assumption | omega))
  | exact (Nat.zero_le _ : 0 ≤ sizeLine)
  | exact (by decide : 1 ≤ sizeLine)
  | exact (by decide : 2 ≤ sizeLine)
  | exact (by decide : 3 ≤ sizeLine)
  | exact (by decide : 5 ≤ sizeLine)
  | exact (by decide : 6 ≤ sizeLine)
  | (show _ < 1000; exact of_decide_eq_true rfl)
  | exact len2 (by omega) (by omega)
  | exact small1000 (by first | assumption | omega)))
local macro_rules | `(tactic| walk_at "f") => `(tactic| (first
  | with_reducible assumption
  | ((with_reducible apply gEq); walk_at "e")
  | ((with_reducible apply gLe); walk_at "n")
  | ((with_reducible apply gLt); walk_at "n")
  | ((with_reducible apply gNot); (first | assumption | omega))
  | with_reducible exact Same.refl _
  | ((with_reducible apply tupOf); walk_at "f")
  | ((with_reducible apply lstOf); walk_at "f")
  | ((with_reducible apply gCls); assumption)
  | ((with_reducible apply gNoAttr); assumption)
  | ((with_reducible apply gIsPl); assumption)
  | ((with_reducible apply gStL); assumption)
  | ((with_reducible apply gIntD); assumption)
  | ((with_reducible apply gSqT); assumption)
  | ((with_reducible apply gSqL); assumption)
  | ((with_reducible apply tyV_l); walk_at "f")
  | ((with_reducible apply Rd.of); walk_at "f")
  | ((with_reducible apply dget_ne); assumption; assumption)
  | ((with_reducible apply dget_fd) <;> walk_at "f")
  | ((with_reducible apply dput_int) <;> walk_at "f")
  | ((with_reducible apply dput_fd) <;> walk_at "f")
  | ((with_reducible apply rd_upd); assumption; walk_at "f")
  | ((with_reducible apply same_put); walk_at "f"; assumption)
  | ((with_reducible apply sx_upd) <;> walk_at "f")
  | ((with_reducible refine Same.trans ?_ (by assumption)); walk_at "f")
  | ((with_reducible apply cmulLg); omega; omega)
  | ((with_reducible apply cmulRg); omega; omega)
  | ((with_reducible apply SameE.upd); walk_at "f")
  | ((with_reducible apply StL.same); assumption; walk_at "f")
  | ((with_reducible apply LT.same); assumption; walk_at "f")
  | ((with_reducible apply IsP.same); assumption; walk_at "f")
  | ((with_reducible apply IsPl.same); assumption; walk_at "f")
  | ((with_reducible apply IntD.same); assumption; walk_at "f")
  | ((with_reducible apply PrD.same); assumption; walk_at "f")
  | ((with_reducible apply Or.inl); walk_at "f")
  | ((with_reducible apply Or.inr); walk_at "f")))
local macro_rules | `(tactic| walk_at "g") => `(tactic| repeat (first
  | with_reducible apply And.intro
  | with_reducible apply Exists.intro
  | walk_at "f"
  | ((with_reducible apply iteT); assumption)
  | ((with_reducible apply iteF); assumption)
  | ((with_reducible apply iteD); (first | assumption | omega))
  | ((with_reducible apply iteN); (first | assumption | omega))
  | ((with_reducible apply iteD2); (first | assumption | omega))
  | ((with_reducible apply iteN2); (first | assumption | omega))
  | apply And.intro
  | apply Exists.intro))
section
variable {P : Program} {w : World} {K : PySem.W.Frag} {mg : Str → Option Value} {base : Heap}
theorem hcS {X : Cx} {CX : CXT} {k : Nat} {f : Addr} {ps : List Str} {dvs : List V} {sp : Sp} {E : L2.St → XK} {x : Str} {e : Expr} {es : List Expr} {t : TA} {pos npos : Pos} (G : Has X.prog X.w X.K X.mg X.base CX k f ps dvs sp) (hr : Room k X.A) (hm : X.mg x = some (.ref f)) (hx : ∀ σ, PassesAt CX X σ (E σ)) (ha : PA X (e :: es) t) (hg : Gl X x := by rfl)
    (hdb : (x == ("__debug__" : Str)) = false := by decide) (he : starEach (e :: es) X.env = (false, eval e X.env) :: starEach es X.env := by rfl) (hpl : (backTo pos (starEach es X.env)).any (·.1) = false := by rfl) :
    PE X (.Call (.Name x npos) (e :: es) [] pos) (tCallSD sp dvs E t) := by
  obtain ⟨fd, ds, F, b, v, kp⟩ := G
  exact pe_callSD F hr hg hm kp b v hx ha hdb he hpl
/-- an expression that is never reached -/
theorem pe_nv {X : Cx} {e : Expr} : PE X e (fun _ _ _ => False) := ⟨fun _ _ _ _ _ _ h => h.elim⟩
theorem perm_map_inv {α β : Type} {g : α → β} {cs ds : List β} (p : cs.Perm ds) : ∀ {l : List α}, ds = l.map g → ∃ l' : List α, l'.Perm l ∧ cs = l'.map g := by
  induction p with
  | nil =>
    intro l e
    cases l with
    | nil => exact ⟨[], .nil, rfl⟩
    | cons x l => cases e
  | cons x p ih =>
    intro l e
    cases l with
    | nil => cases e
    | cons y l =>
      rw [List.map_cons] at e
      obtain ⟨h1, h2⟩ := List.cons.inj e
      obtain ⟨l', q, e'⟩ := ih h2
      exact ⟨y :: l', .cons y q, by rw [List.map_cons, e', h1]⟩
  | swap x y l0 =>
    intro l e
    match l, e with
    | [], e => cases e
    | [_], e => cases e
    | a :: b :: l, e =>
      rw [List.map_cons, List.map_cons] at e
      obtain ⟨h1, h2⟩ := List.cons.inj e
      obtain ⟨h2, h3⟩ := List.cons.inj h2
      exact ⟨b :: a :: l, .swap _ _ _, by rw [List.map_cons, List.map_cons, h1, h2, h3]⟩
  | trans p q ih1 ih2 =>
    intro l e
    obtain ⟨l2, q2, e2⟩ := ih2 e
    obtain ⟨l1, q1, e1⟩ := ih1 e2
    exact ⟨l1, q1.trans q2, e1⟩
theorem a2_pairs {α β : Type} {R : α → β → Prop} : ∀ {as : List α} {bs : List β}, A2 R as bs → ∃ ps : List (β × α), ps.map (·.1) = bs ∧ ps.map (·.2) = as ∧ ∀ p ∈ ps, R p.2 p.1
  | _, _, .nil => ⟨[], rfl, rfl, fun p h => nomatch h⟩
  | _, _, .cons (a := a) (b := b) r t => by
    obtain ⟨ps, e1, e2, h⟩ := a2_pairs t
    refine ⟨(b, a) :: ps, by rw [List.map_cons, e1], by rw [List.map_cons, e2], fun p hp => ?_⟩
    rcases List.mem_cons.mp hp with e | hp
    · rw [e]
      exact r
    · exact h p hp
theorem pairs_a2 {α β : Type} {R : α → β → Prop} : ∀ {ps : List (β × α)}, (∀ p ∈ ps, R p.2 p.1) → A2 R (ps.map (·.2)) (ps.map (·.1))
  | [], _ => .nil
  | p :: ps, h => .cons (h p List.mem_cons_self) (pairs_a2 fun q hq => h q (List.mem_cons_of_mem _ hq))
def sDat (s : Strm) : PyData := .tuple [.str s.name, .str s.tail, .str s.head, .int s.low, .int s.high]
theorem dp_strm {K : PySem.W.Frag} {H : Hp} {s : Strm} {v : V} (h : TupR (sV s) v H) : Dp K H v (sDat s) := by
  obtain ⟨t, e, h⟩ := h
  subst e
  exact .tup (tupOf h) (.cons (.str _) (.cons (.str _) (.cons (.str _) (.cons (.int _) (.cons (.int _) .nil)))))
theorem PV.perm {p q : Plt} (h : PV p) (a : q.knots.Perm p.knots) (b : q.ss.Perm p.ss) : PV q where
  kn := a.nodup_iff.mpr h.kn
  k1 := by rw [a.length_eq]; exact h.k1
  kl := by rw [a.length_eq]; exact h.kl
  nn := (b.map _).nodup_iff.mpr h.nn
  sl := by rw [b.length_eq]; exact h.sl
  tk := fun s hs => a.mem_iff.mpr (h.tk s (b.mem_iff.mp hs))
  hk := fun s hs => a.mem_iff.mpr (h.hk s (b.mem_iff.mp hs))
  bd := fun s hs => h.bd s (b.mem_iff.mp hs)
  ok := fun k hk => h.ok k (a.mem_iff.mp hk)
  on := fun n hn => h.on n ((b.map _).mem_iff.mp hn)
theorem alike_strm (a b : Strm) : PySem.W.alike (sDat a) (sDat b) = true := by
  simp only [sDat, PySem.W.alike, PySem.W.alikeAll, Bool.and_true]
theorem depth_strm (a : Strm) : (sDat a).depth ≤ 32 := by
  simp [sDat, PyData.depth, PyData.depthAll]
def rSortS (K : PySem.W.Frag) : List V → Hp → VK → Prop := fun vs H Q => ∃ a ss, vs = [V.ref a] ∧ LT sV H a ss ∧ ss.length ≤ 1000 ∧ ∀ (ss' : List Strm) (us : List V) (p : Addr), ss'.Perm ss → A2 (fun x v => TupR (sV x) v H) ss' us → H p = none → Q (.ref p) (upd H p (.lst us))
theorem cr_sortStrm {X : Cx} (hu : X.A.units + 64 < cLine) : CallR X (.builtin "sorted") (rSortS X.K) := call_imp (cr_sortD hu) fun vs H Q ⟨a, ss, e, h, hl, q⟩ => by
  obtain ⟨ws, h1, h2⟩ := h.ex
  obtain ⟨ps, e1, e2, hps⟩ := a2_pairs h2
  have hpl : ps.length = ss.length := by rw [← e2, List.length_map]
  refine ⟨a, ps.map fun p => (p.1, sDat p.2), e, ?_, fun b hb => ?_, fun d hd d' hd' => ?_, .inl fun d hd => ?_, ?_, fun cs p hp hn => ?_⟩
  · rw [List.map_map]
    exact lstOf (by rw [h1, ← e1]; rfl)
  · obtain ⟨p, hp, rfl⟩ := List.mem_map.mp hb
    exact ⟨dp_strm (hps p hp), depth_strm _⟩
  · rw [List.map_map] at hd hd'
    obtain ⟨p, _, rfl⟩ := List.mem_map.mp hd
    obtain ⟨p', _, rfl⟩ := List.mem_map.mp hd'
    exact alike_strm _ _
  · rw [List.map_map] at hd
    obtain ⟨p, _, rfl⟩ := List.mem_map.mp hd
    exact ⟨_, _, rfl⟩
  · rw [List.length_map]
    omega
  · obtain ⟨ps', hp', rfl⟩ := perm_map_inv hp rfl
    have := q (ps'.map (·.2)) (ps'.map (·.1)) p (by rw [← e2]; exact hp'.map _) (pairs_a2 fun p hp => hps p (hp'.mem_iff.mp hp)) hn
    rw [List.map_map]
    exact this
def sp_Plant_init (K : PySem.W.Frag) : Sp := fun vs H Q _ => ∃ self a b pl dx, vs = [.ref self, .ref a, .ref b] ∧ H self = some (.ins (C_Plant K) dx []) ∧ StL H a pl.knots ∧ LT sV H b pl.ss ∧ PV pl ∧
  ∀ H' pn kl sl, SameE self H H' → pn.knots.Perm pl.knots → pn.ss.Perm pl.ss → sortedS pn.knots = true → IsP K H' self pn kl sl dx → Q .non H'
theorem sc_Plant_init : FnScope ["self", "knots", "streams", "stream"] ["self", "knots", "streams"] (defScope s_Plant_init) := ⟨rfl, rfl, rfl, by decide +kernel, rfl, by decide +kernel, by decide +kernel⟩
theorem ok_Plant_init (T : Tx K mg) : Has P w K mg base CX0 3 (A_Plant_init K) ["self", "knots", "streams"] [] (sp_Plant_init K) := by
  obtain ⟨fd, F⟩ := T.F_Plant_init
  refine ⟨fd, [], F.ok sc_Plant_init (fun vs H Q E h => by
    obtain ⟨_, _, _, _, _, rfl, _⟩ := h
    rfl) (fun cdv A outer s H vs Q E hr h => ?_), F.bindsN (fun _ _ _ _ _ _ us hl => match us, hl with | [_, _, _], _ => rfl), .nil, F.kp⟩
  obtain ⟨self, a, b, pl, dx, rfl, hs, ha, hb, hpv, q⟩ := h
  have k1 := T.c_Plant
  have k2 := T.n_Plant__knots
  have k3 := T.n_Plant__streams
  have hkl := hpv.kl
  have hk1 := hpv.k1
  have hsl := hpv.sl
  refine ⟨_, (pss_cons (ps_if (PW.pt (pw_or (pt_not (pt_chain op_le op_le (pe_int) (pe_callB lenL (by rfl) T.b_len (by decide +kernel) (pa_cons (pv 1) pa_nil)) (pe_gint T.i_MOST_KNOTS))) (pw_or1 (pt_not (pt_val (hc (ok_are_names (K := K) T) (hr.mono (by decide)) T.g_are_names pass0 (pa_cons (pv 1) pa_nil)))))))
      (pss_one (ps_never))
      pss_nil)
      (pss_cons (ps_if (PW.pt (pw_or (pt_cmpR op_gt (pe_callB lenL (by rfl) T.b_len (by decide +kernel) (pa_cons (pv 2) pa_nil)) (pe_gint T.i_MOST_STREAMS) (nomark _)) (pw_or1 (pt_not (pt_val (pe_callB (allL rfl) (by rfl) T.b_all (by decide +kernel) (pa_cons (pe_lc (own := [("stream", 3)]) (g := (gName 3)) rfl sc_Plant_init.nd (pi_list (pv 2)) (blkOk_by (own := [("stream", 3)]) (N := ["self", "knots", "streams", "stream"]) (sc := defScope s_Plant_init) (by decide +kernel)) (fun _ _ _ _ _ => (pg_name (i := 3) sc_Plant_init.nd rfl (Or.inl rfl))) (fun _ _ _ _ _ => pts_nil) (fun _ _ _ _ _ => (hc (ok_is_stream (K := K) T) (hr.mono (by decide)) T.g_is_stream pass0 (pa_cons (pv 3) (pa_cons (pv 1) pa_nil))))) pa_nil)))))))
      (pss_one (ps_never))
      pss_nil)
      (pss_cons (ps_if (pt_not (pt_val (hc (ok_are_names (K := K) T) (hr.mono (by decide)) T.g_are_names pass0 (pa_cons (pe_lc (own := [("stream", 3)]) (g := (gName 3)) rfl sc_Plant_init.nd (pi_list (pv 2)) (blkOk_by (own := [("stream", 3)]) (N := ["self", "knots", "streams", "stream"]) (sc := defScope s_Plant_init) (by decide +kernel)) (fun _ _ _ _ _ => (pg_name (i := 3) sc_Plant_init.nd rfl (Or.inl rfl))) (fun _ _ _ _ _ => pts_nil) (fun _ _ _ _ _ => (pe_ix ixT (pv 3) (pe_int) (fun _ _ => rfl)))) pa_nil))))
      (pss_one (ps_never))
      pss_nil)
      (pss_cons (ps_fld (pv 0) (pe_callB cr_sortSt (by rfl) T.b_sorted (by decide +kernel) (pa_cons (pv 1) pa_nil)) rfl)
      (pss_one (ps_fld (pv 0) (pe_callB (cr_sortStrm (by first | exact hu_of hr | exact hr.units)) (by rfl) T.b_sorted (by decide +kernel) (pa_cons (pv 2) pa_nil)) rfl)))))), ?_⟩
  have l1 : 1 ≤ ((pl.knots.map V.str).length : Int) := by
    rw [List.length_map]
    omega
  have l2 : ((pl.knots.map V.str).length : Int) ≤ 24 := by
    rw [List.length_map]
    omega
  have hok := hpv.ok
  have hkn := hpv.kn
  obtain ⟨vs, hb1, hb2⟩ := hb.ex
  have hvl := hb2.length
  have hlk : pl.knots.length ≤ 60 := by omega
  walk_at "g"
  intro H1 s1
  have hb11 := s1 _ _ hb1
  have hl3 : ¬ (60 : Int) < vs.length := by omega
  walk_at "g"
  intro D hD
  have ha1 := s1 _ _ ha
  refine lcV (LT.wk (m := sV) (vs := vs) (xs := pl.ss)) (fun _ => some true) V.bl hD ⟨lstOf hb11, hb2.imp fun x v r => r.same s1⟩ (by omega) (fun i x v H' Ky Kn ex sm _ hv ky kn => ?_) (fun H2 s2 eD => ?_)
  · obtain ⟨t, rfl, ht⟩ := hv
    have hx := List.mem_of_getElem? ex
    have g1 := hpv.tk x hx
    have g2 := hpv.hk x hx
    obtain ⟨g3, g4, g5⟩ := hpv.bd x hx
    have ha2 : StL H' a pl.knots := sm _ _ ha1
    walk_at "g"
    exact ky _ true (Same.refl _) rfl
  have hb12 := s2 _ _ hb11
  have ha2 := s2 _ _ ha1
  walk_at "g"
  rw [show (List.filterMap (fun x => some true) pl.ss).all id = true by simp]
  refine iteF ?_
  walk_at "g"
  intro D2 hD2
  refine lcV (LT.wk (m := sV) (vs := vs) (xs := pl.ss)) (fun s => some s.name) V.str hD2 ⟨lstOf hb12, hb2.imp fun x v r => r.same (s1.trans s2)⟩ (by omega) (fun i x v H' Ky Kn ex sm _ hv ky kn => ?_) (fun H3 s3 eD2 => ?_)
  · obtain ⟨t, rfl, ht⟩ := hv
    walk_at "g"
    exact ky _ _ (Same.refl _) rfl
  rw [fm_map] at eD2
  have eD2' : StL H3 D2 pl.names := eD2
  have hon := hpv.on
  have hnn := hpv.nn
  have hnl : pl.names.length ≤ 60 := Nat.le_trans hpv.ln (by decide)
  walk_at "g"
  intro H4 s4
  have sm : Same H H4 := s1.trans (s2.trans (s3.trans s4))
  have ha4 : StL H4 a pl.knots := sm _ _ ha
  have hb4 := sm _ _ hb1
  have hs4 := sm _ _ hs
  have hk64 : pl.knots.length < 64 := by omega
  walk_at "g"
  intro ys kl p1 p2 n_kl
  generalize hG : upd H4 kl _ = H5
  have s_H5 := nw_same n_kl hG
  have e_kl := nw_at hG
  clear hG
  have hs5 := s_H5 _ _ hs4
  have s6 : SameE self H5 (upd H5 self (.ins (C_Plant K) dx (putF "_knots" (.ref kl) []))) := SameE.refl.upd
  have e6 : (upd H5 self (.ins (C_Plant K) dx (putF "_knots" (.ref kl) []))) self = some (.ins (C_Plant K) dx (putF "_knots" (.ref kl) [])) := upd_same
  have nbs : b ≠ self := ne_at hb4 hs4 (fun e => by cases e)
  have nks : kl ≠ self := ne_at e_kl hs5 (fun e => by cases e)
  have hb6 := s6 _ _ nbs (s_H5 _ _ hb4)
  have ek6 := s6 _ _ nks e_kl
  have hA6 : LT sV (upd H5 self (.ins (C_Plant K) dx (putF "_knots" (.ref kl) []))) b pl.ss := ⟨vs, hb6, hb2.imp fun x v ⟨t, e, r⟩ => ⟨t, e, s6 _ _ (ne_at (s_H5 _ _ (sm _ _ r)) hs5 (fun e => by cases e)) (s_H5 _ _ (sm _ _ r))⟩⟩
  have hsl9 : pl.ss.length ≤ 1000 := by omega
  walk_at "g"
  intro ss' us sl p3 p4 n_sl
  generalize hG : upd (upd H5 self _) sl _ = H7
  have s_H7 := nw_same n_sl hG
  have e_sl := nw_at hG
  clear hG
  have e7 := s_H7 _ _ e6
  walk_at "g"
  have nss : sl ≠ self := (ne_of_none e6 n_sl).symm
  have s67 : SameE self H (upd H7 self (.ins (C_Plant K) dx [("_knots", .ref kl), ("_streams", .ref sl)])) := (((SameE.of (sm.trans s_H5)).trans s6).trans (.of s_H7)).upd
  exact q _ ⟨ys, ss'⟩ kl sl s67 p1 p3 p2 ⟨upd_same, at_upd nks (s_H7 _ _ ek6), us, at_upd nss e_sl, p4.imp fun x v ⟨t, e, r⟩ => ⟨t, e, at_upd (ne_at (s_H7 _ _ r) e7 (fun e => by cases e)) (s_H7 _ _ r)⟩⟩
end
end M
end
-- part Md
section
set_option Elab.async false
set_option linter.all false
set_option maxRecDepth 100000
set_option maxHeartbeats 4000000
namespace M
open PySem PySem.Spec PyProof.Rows L2
/-! ### the cost along a stream -/
structure SlT (s : Slp) : Prop where
  v : SlV s
  t : ∀ r, s.rd = some r → 0 ≤ r.2
theorem ov_lo {r : Int × Int} {f : Int} (h : 0 ≤ r.2) (l : f ≤ r.1 - r.2) : ov r f = r.1 - r.2 - f := by
  unfold ov
  omega
theorem ov_hi {r : Int × Int} {f : Int} (h : 0 ≤ r.2) (l : r.1 + r.2 ≤ f) : ov r f = f - (r.1 + r.2) := by
  unfold ov
  omega
theorem ov_mid {r : Int × Int} {f : Int} (l : r.1 - r.2 ≤ f) (l2 : f ≤ r.1 + r.2) : ov r f = 0 := by
  unfold ov
  omega
theorem ov_conv (r : Int × Int) (f : Int) : ov r f + ov r f ≤ ov r (f - 1) + ov r (f + 1) := by
  unfold ov
  omega
theorem ov_nn (r : Int × Int) (f : Int) : 0 ≤ ov r f := by
  unfold ov
  omega
theorem cst_none {s : Slp} (e : s.rd = none) (x : Int) : cst s x = 0 := by
  unfold cst
  rw [e]
theorem cst_some {s : Slp} {r : Int × Int} (e : s.rd = some r) (x : Int) : cst s x = s.price * ov r x := by
  unfold cst
  rw [e]
theorem cst_conv {s : Slp} (h : 0 ≤ s.price) (f : Int) : cst s f - cst s (f - 1) ≤ cst s (f + 1) - cst s f := by
  cases e : s.rd with
  | none =>
    rw [cst_none e, cst_none e, cst_none e]
    omega
  | some r =>
    rw [cst_some e, cst_some e, cst_some e]
    have := Int.mul_le_mul_of_nonneg_left (ov_conv r f) h
    rw [Int.mul_add, Int.mul_add] at this
    omega
theorem turn_some {s : Slp} {r : Int × Int} (e : s.rd = some r) {k : Int} : IsTurn s k ↔ k = s.low ∨ k = s.high ∨ ((k = r.1 - r.2 ∨ k = r.1 + r.2) ∧ s.low < k ∧ k < s.high) := by
  unfold IsTurn
  constructor
  · rintro (h | h | ⟨r', e', h⟩)
    · exact .inl h
    · exact .inr (.inl h)
    · rw [e] at e'
      rw [← Option.some.inj e'] at h
      exact .inr (.inr h)
  · rintro (h | h | h)
    · exact .inl h
    · exact .inr (.inl h)
    · exact .inr (.inr ⟨r, e, h⟩)
theorem turn_none {s : Slp} (e : s.rd = none) {k : Int} : IsTurn s k ↔ k = s.low ∨ k = s.high := by
  unfold IsTurn
  constructor
  · rintro (h | h | ⟨r', e', h⟩)
    · exact .inl h
    · exact .inr h
    · rw [e] at e'
      cases e'
  · rintro (h | h)
    · exact .inl h
    · exact .inr (.inl h)
/-- the cost is straight from a to b -/
def Lin (s : Slp) (a b : Int) : Prop := ∃ α β, ∀ x, a ≤ x → x ≤ b → cst s x = α + β * x
theorem lin_of {s : Slp} (v : SlT s) {a b : Int} (ha : s.low ≤ a) (hb : b ≤ s.high) (h : ∀ k, IsTurn s k → ¬(a < k ∧ k < b)) : Lin s a b := by
  cases e : s.rd with
  | none =>
    refine ⟨0, 0, fun x _ _ => ?_⟩
    rw [cst_none e]
    omega
  | some r =>
    have ht := v.t r e
    by_cases c1 : b ≤ r.1 - r.2
    · refine ⟨s.price * (r.1 - r.2), -s.price, fun x _ hx => ?_⟩
      rw [cst_some e, ov_lo ht (by omega), Int.mul_sub, Int.neg_mul]
      omega
    · by_cases c2 : r.1 + r.2 ≤ a
      · refine ⟨-(s.price * (r.1 + r.2)), s.price, fun x hx _ => ?_⟩
        rw [cst_some e, ov_hi ht (by omega), Int.mul_sub]
        omega
      · have k1 : r.1 - r.2 ≤ a := by
          have := h (r.1 - r.2)
          by_cases z : r.1 - r.2 ≤ a
          · exact z
          · exact absurd ⟨by omega, by omega⟩ (this ((turn_some e).mpr (.inr (.inr ⟨.inl rfl, by omega, by omega⟩))))
        have k2 : b ≤ r.1 + r.2 := by
          have := h (r.1 + r.2)
          by_cases z : b ≤ r.1 + r.2
          · exact z
          · exact absurd ⟨by omega, by omega⟩ (this ((turn_some e).mpr (.inr (.inr ⟨.inr rfl, by omega, by omega⟩))))
        refine ⟨0, 0, fun x h1 h2 => ?_⟩
        rw [cst_some e, ov_mid (by omega) (by omega)]
        omega
theorem turn_prev {s : Slp} (v : SlT s) {x : Int} (h : s.low ≤ x) : ∃ a, IsTurn s a ∧ a ≤ x ∧ ∀ k, IsTurn s k → k ≤ x → k ≤ a := by
  by_cases c : s.high ≤ x
  · exact ⟨s.high, .inr (.inl rfl), c, fun k hk _ => (turn_in v.v hk).2⟩
  · cases e : s.rd with
    | none =>
      refine ⟨s.low, .inl rfl, h, fun k hk hx => ?_⟩
      rcases (turn_none e).mp hk with z | z <;> omega
    | some r =>
      have ht := v.t r e
      by_cases c2 : s.low < r.1 + r.2 ∧ r.1 + r.2 ≤ x
      · refine ⟨r.1 + r.2, (turn_some e).mpr (.inr (.inr ⟨.inr rfl, by omega, by omega⟩)), by omega, fun k hk hx => ?_⟩
        rcases (turn_some e).mp hk with z | z | ⟨z, _⟩ <;> omega
      · by_cases c1 : s.low < r.1 - r.2 ∧ r.1 - r.2 ≤ x
        · refine ⟨r.1 - r.2, (turn_some e).mpr (.inr (.inr ⟨.inl rfl, by omega, by omega⟩)), by omega, fun k hk hx => ?_⟩
          rcases (turn_some e).mp hk with z | z | ⟨z, _⟩ <;> omega
        · refine ⟨s.low, .inl rfl, h, fun k hk hx => ?_⟩
          rcases (turn_some e).mp hk with z | z | ⟨z, _⟩ <;> omega
theorem turn_next {s : Slp} (v : SlT s) {x : Int} (h : x ≤ s.high) : ∃ a, IsTurn s a ∧ x ≤ a ∧ ∀ k, IsTurn s k → x ≤ k → a ≤ k := by
  by_cases c : x ≤ s.low
  · exact ⟨s.low, .inl rfl, c, fun k hk _ => (turn_in v.v hk).1⟩
  · cases e : s.rd with
    | none =>
      refine ⟨s.high, .inr (.inl rfl), h, fun k hk hx => ?_⟩
      rcases (turn_none e).mp hk with z | z <;> omega
    | some r =>
      have ht := v.t r e
      by_cases c2 : r.1 - r.2 < s.high ∧ x ≤ r.1 - r.2
      · refine ⟨r.1 - r.2, (turn_some e).mpr (.inr (.inr ⟨.inl rfl, by omega, by omega⟩)), by omega, fun k hk hx => ?_⟩
        rcases (turn_some e).mp hk with z | z | ⟨z, _⟩ <;> omega
      · by_cases c1 : r.1 + r.2 < s.high ∧ x ≤ r.1 + r.2
        · refine ⟨r.1 + r.2, (turn_some e).mpr (.inr (.inr ⟨.inr rfl, by omega, by omega⟩)), by omega, fun k hk hx => ?_⟩
          rcases (turn_some e).mp hk with z | z | ⟨z, _⟩ <;> omega
        · refine ⟨s.high, .inr (.inl rfl), h, fun k hk hx => ?_⟩
          rcases (turn_some e).mp hk with z | z | ⟨z, _⟩ <;> omega
/-- whatever each unit costs more: some turn is least -/
theorem turn_min {s : Slp} (v : SlT s) (w : Int) {x : Int} (h1 : s.low ≤ x) (h2 : x ≤ s.high) : ∃ k, IsTurn s k ∧ cst s k + w * k ≤ cst s x + w * x := by
  obtain ⟨a, a1, a2, a3⟩ := turn_prev v h1
  obtain ⟨b, b1, b2, b3⟩ := turn_next v h2
  obtain ⟨α, β, hL⟩ := lin_of v (turn_in v.v a1).1 (turn_in v.v b1).2 fun k hk z => by
    by_cases c : k ≤ x
    · have := a3 k hk c
      omega
    · have := b3 k hk (by omega)
      omega
  by_cases c : 0 ≤ β + w
  · refine ⟨a, a1, ?_⟩
    rw [hL a (by omega) (by omega), hL x a2 b2]
    have := Int.mul_le_mul_of_nonneg_left a2 c
    rw [Int.add_mul, Int.add_mul] at this
    omega
  · refine ⟨b, b1, ?_⟩
    rw [hL b (by omega) (by omega), hL x a2 b2]
    have := Int.mul_le_mul_of_nonneg_left b2 (show 0 ≤ -(β + w) by omega)
    rw [Int.neg_mul, Int.neg_mul, Int.add_mul, Int.add_mul] at this
    omega
theorem conv_up {g : Int → Int} (c : ∀ y, g y - g (y - 1) ≤ g (y + 1) - g y) {f : Int} (h : g f ≤ g (f + 1)) : ∀ n : Nat, g (f + n) ≤ g (f + n + 1) ∧ g f ≤ g (f + n)
  | 0 => by
    have e : f + ((0 : Nat) : Int) = f := by omega
    rw [e]
    exact ⟨h, Int.le_refl _⟩
  | n + 1 => by
    obtain ⟨i1, i2⟩ := conv_up c h n
    have e : f + ((n + 1 : Nat) : Int) = f + n + 1 := by omega
    rw [e]
    have k := c (f + n + 1)
    have e2 : f + n + 1 - 1 = f + n := by omega
    rw [e2] at k
    exact ⟨by omega, by omega⟩
theorem conv_all {g : Int → Int} (c : ∀ y, g y - g (y - 1) ≤ g (y + 1) - g y) {f x : Int} (h1 : f < x → g f ≤ g (f + 1)) (h2 : x < f → g f ≤ g (f - 1)) : g f ≤ g x := by
  by_cases z : f < x
  · have := (conv_up c (h1 z) (x - f).toNat).2
    have e : f + ((x - f).toNat : Int) = x := by omega
    rw [e] at this
    exact this
  · by_cases z2 : x < f
    · have := (conv_up (g := fun y => g (-y)) (f := -f) (fun y => by
        have := c (-y)
        have e1 : -(y - 1) = -y + 1 := by omega
        have e2 : -(y + 1) = -y - 1 := by omega
        show g (-y) - g (-(y - 1)) ≤ g (-(y + 1)) - g (-y)
        rw [e1, e2]
        omega) (by
        show g (- -f) ≤ g (-(-f + 1))
        have e1 : - -f = f := by omega
        have e2 : -(-f + 1) = f - 1 := by omega
        rw [e1, e2]
        exact h2 z2) (f - x).toNat).2
      have this : g (- -f) ≤ g (-(-f + ((f - x).toNat : Int))) := this
      have e1 : - -f = f := by omega
      have e2 : -(-f + ((f - x).toNat : Int)) = x := by omega
      rw [e1, e2] at this
      exact this
    · have e : f = x := by omega
      rw [e]
      exact Int.le_refl _
theorem glob {s : Slp} (v : 0 ≤ s.price) {w f x : Int} (h1 : f < s.high → cst s f + w * f ≤ cst s (f + 1) + w * (f + 1)) (h2 : s.low < f → cst s f + w * f ≤ cst s (f - 1) + w * (f - 1)) (x1 : s.low ≤ x) (x2 : x ≤ s.high) : cst s f + w * f ≤ cst s x + w * x :=
  conv_all (g := fun y => cst s y + w * y) (fun y => by
    have := cst_conv v y
    show cst s y + w * y - (cst s (y - 1) + w * (y - 1)) ≤ cst s (y + 1) + w * (y + 1) - (cst s y + w * y)
    rw [Int.mul_sub, Int.mul_add]
    omega) (fun z => h1 (by omega)) (fun z => h2 (by omega))
/-! ### flows that are least, tilted by heights -/
structure OptS (s : Strm) (c : Slp) (π : Str → Int) (y : Int) : Prop where
  lo : c.low ≤ y
  hi : y ≤ c.high
  le : ∀ x, c.low ≤ x → x ≤ c.high → cst c y + (π s.tail - π s.head) * y ≤ cst c x + (π s.tail - π s.head) * x
def Opt (l : List Strm) (sl : Str → Slp) (π f : Str → Int) : Prop := ∀ s ∈ l, OptS s (sl s.name) π (f s.name)
theorem opt_start {l : List Strm} {sl : Str → Slp} {f : Str → Int} (v : ∀ s ∈ l, SlT (sl s.name)) (h : ∀ s ∈ l, IsTurn (sl s.name) (f s.name) ∧ ∀ k, IsTurn (sl s.name) k → cst (sl s.name) (f s.name) ≤ cst (sl s.name) k) : Opt l sl (fun _ => 0) f := fun s hs => by
  obtain ⟨h1, h2⟩ := h s hs
  obtain ⟨b1, b2⟩ := turn_in (v s hs).v h1
  refine ⟨b1, b2, fun x x1 x2 => ?_⟩
  obtain ⟨k, k1, k2⟩ := turn_min (v s hs) 0 x1 x2
  have := h2 k k1
  show _ + (0 - 0) * _ ≤ _ + (0 - 0) * _
  omega
theorem opt_moves {l : List Strm} {sl : Str → Slp} {π f : Str → Int} {ms : List Mv} (v : ∀ s ∈ l, SlT (sl s.name)) (h : Opt l sl π f) (hm : MvOk l sl f ms) : ∀ m ∈ ms, 0 ≤ m.price + π m.tail - π m.head := fun m hmm => by
  obtain ⟨s, hs, o⟩ := hm.of m hmm
  have q := h s hs
  obtain ⟨_, al⟩ := o.al
  have mo := o.mo
  rcases al with ⟨g, e1, e2⟩ | ⟨g, e1, e2⟩
  · rcases (o.up g).ex with ⟨z, _⟩ | ⟨_, t, _, p⟩
    · omega
    · have := q.le (f s.name + 1) (by have := q.lo; omega) (by have := turn_in (v s hs).v t; omega)
      rw [Int.mul_add] at this
      rw [e1, e2]
      omega
  · rcases (o.dn g).ex with ⟨z, _⟩ | ⟨_, t, _, p⟩
    · omega
    · have := q.le (f s.name - 1) (by have := turn_in (v s hs).v t; omega) (by have := q.hi; omega)
      rw [Int.mul_sub] at this
      rw [e1, e2]
      omega
theorem bound_list (g : Str → Int) : ∀ R : List Str, ∃ M, ∀ v ∈ R, g v ≤ M
  | [] => ⟨0, fun v h => nomatch h⟩
  | x :: R => by
    obtain ⟨M, hM⟩ := bound_list g R
    refine ⟨max M (g x), fun v hv => ?_⟩
    rcases List.mem_cons.mp hv with z | z
    · rw [z]
      exact Int.le_max_right _ _
    · exact Int.le_trans (hM v z) (Int.le_max_left _ _)
theorem pot_new {S R : List Str} {A : List Mv} {e : Str → Ent} {π : Str → Int} (F : Far S A R e) (h : ∀ m ∈ A, 0 ≤ m.price + π m.tail - π m.head) : ∃ π' : Str → Int, (∀ m ∈ A, 0 ≤ m.price + π' m.tail - π' m.head) ∧ ∀ v ∈ R, π' v = (e v).p := by
  obtain ⟨M, hM⟩ := bound_list (fun v => (e v).p - π v) R
  refine ⟨fun v => if v ∈ R then (e v).p else π v + M, fun m hm => ?_, fun v hv => if_pos hv⟩
  have k := h m hm
  show 0 ≤ m.price + (if m.tail ∈ R then (e m.tail).p else π m.tail + M) - (if m.head ∈ R then (e m.head).p else π m.head + M)
  by_cases c1 : m.tail ∈ R
  · obtain ⟨c2, c3⟩ := F.cl m hm c1
    rw [if_pos c1, if_pos c2]
    omega
  · rw [if_neg c1]
    by_cases c2 : m.head ∈ R
    · rw [if_pos c2]
      have := hM _ c2
      omega
    · rw [if_neg c2]
      omega
theorem opt_new {l : List Strm} {sl : Str → Slp} {π π' f : Str → Int} {ms : List Mv} (v : ∀ s ∈ l, SlT (sl s.name)) (h : Opt l sl π f) (hm : MvOk l sl f ms) (hp : ∀ m ∈ ms, 0 ≤ m.price + π' m.tail - π' m.head) : Opt l sl π' f := fun s hs => by
  have q := h s hs
  refine ⟨q.lo, q.hi, fun x x1 x2 => ?_⟩
  by_cases c : s.tail = s.head
  · have := q.le x x1 x2
    rw [c, Int.sub_self, Int.zero_mul, Int.zero_mul] at this ⊢
    exact this
  · refine glob (v s hs).v.d (fun z => ?_) (fun z => ?_) x1 x2
    · rcases hm.up s hs c with y | ⟨m, m1, e1, e2, e3⟩
      · have := y _ (.inr (.inl rfl))
        omega
      · have := hp m m1
        rw [e1, e2] at this
        rw [Int.mul_add]
        omega
    · rcases hm.dn s hs c with y | ⟨m, m1, e1, e2, e3⟩
      · have := y _ (.inl rfl)
        omega
      · have := hp m m1
        rw [e1, e2] at this
        rw [Int.mul_sub]
        omega
theorem opt_push1 {s : Strm} {sl : Str → Slp} {π f : Str → Int} {m : Mv} {a : Int} (v : SlT (sl s.name)) (q : OptS s (sl s.name) π (f s.name)) (o : MvOf s sl f m) (ht : m.price + π m.tail - π m.head = 0) (h0 : 0 ≤ a) (ha : a ≤ m.most) : OptS s (sl s.name) π (f s.name + m.sign * a) := by
  obtain ⟨_, al⟩ := o.al
  have mo := o.mo
  have q1 := q.lo
  have q2 := q.hi
  rcases al with ⟨g, e1, e2⟩ | ⟨g, e1, e2⟩
  · rcases (o.up g).ex with ⟨z, _⟩ | ⟨_, t, nx, p⟩
    · omega
    · have tb := (turn_in v.v t).2
      rw [g]
      have ey : f s.name + 1 * a = f s.name + a := by omega
      rw [ey]
      obtain ⟨α, β, hL⟩ := lin_of v q1 tb fun k hk z => by
        have := nx k hk z.1
        omega
      have k0 := hL (f s.name) (Int.le_refl _) (by omega)
      have k1 := hL (f s.name + 1) (by omega) (by omega)
      have ka := hL (f s.name + a) (by omega) (by omega)
      rw [Int.mul_add] at k1 ka
      rw [e1, e2] at ht
      have ew : π s.tail - π s.head = -β := by omega
      refine ⟨by omega, by omega, fun x x1 x2 => ?_⟩
      have := q.le x x1 x2
      simp only [ew, Int.neg_mul, Int.mul_add] at this ⊢
      omega
  · rcases (o.dn g).ex with ⟨z, _⟩ | ⟨_, t, nx, p⟩
    · omega
    · have tb := (turn_in v.v t).1
      rw [g]
      have ey : f s.name + -1 * a = f s.name - a := by omega
      rw [ey]
      obtain ⟨α, β, hL⟩ := lin_of v tb q2 fun k hk z => by
        have := nx k hk z.2
        omega
      have k0 := hL (f s.name) (by omega) (Int.le_refl _)
      have k1 := hL (f s.name - 1) (by omega) (by omega)
      have ka := hL (f s.name - a) (by omega) (by omega)
      rw [Int.mul_sub] at k1 ka
      rw [e1, e2] at ht
      have ew : π s.tail - π s.head = -β := by omega
      refine ⟨by omega, by omega, fun x x1 x2 => ?_⟩
      have := q.le x x1 x2
      simp only [ew, Int.neg_mul, Int.mul_sub] at this ⊢
      omega
theorem opt_pushes {l : List Strm} {sl : Str → Slp} {π f : Str → Int} {ms way : List Mv} {a : Int} (n : (l.map (·.name)).Nodup) (v : ∀ s ∈ l, SlT (sl s.name)) (h : Opt l sl π f) (hm : MvOk l sl f ms) (nw : (way.map (·.name)).Nodup) (hw : ∀ m ∈ way, m ∈ ms ∧ m.price + π m.tail - π m.head = 0 ∧ a ≤ m.most) (h0 : 0 ≤ a) : Opt l sl π (pushes f a way) := fun s hs => by
  by_cases z : s.name ∈ way.map (·.name)
  · obtain ⟨m, hmw, em⟩ := List.mem_map.mp z
    obtain ⟨w1, w2, w3⟩ := hw m hmw
    obtain ⟨s', hs', o⟩ := hm.of m w1
    have es : s' = s := same_strm n hs' hs (by rw [← o.al.1, em])
    subst es
    have e : pushes f a way s'.name = f s'.name + m.sign * a := by
      rw [← em]
      exact pushes_on nw hmw
    rw [e]
    exact opt_push1 (v _ hs') (h _ hs') o w2 h0 w3
  · rw [pushes_off z]
    exact h s hs
theorem sum_onef {x : Str} {v : Str → Int} : ∀ {L : List Str}, L.Nodup → (L.map fun k => if x = k then v k else 0).sum = if x ∈ L then v x else 0
  | [], _ => rfl
  | a :: L, n => by
    have n2 := List.nodup_cons.mp n
    rw [List.map_cons, List.sum_cons, sum_onef n2.2]
    by_cases e : x = a
    · subst e
      rw [if_pos rfl, if_neg n2.1, if_pos List.mem_cons_self]
      omega
    · rw [if_neg e]
      by_cases h : x ∈ L
      · rw [if_pos h, if_pos (List.mem_cons_of_mem _ h)]
        omega
      · rw [if_neg h, if_neg fun z => (List.mem_cons.mp z).elim e h]
        omega
theorem mul_sum {α : Type} {c : Int} {f : α → Int} : ∀ {l : List α}, c * (l.map f).sum = (l.map fun x => c * f x).sum
  | [] => Int.mul_zero _
  | a :: l => by
    rw [List.map_cons, List.map_cons, List.sum_cons, List.sum_cons, Int.mul_add, mul_sum]
theorem sum_pot {l : List Strm} {π f : Str → Int} {ks : List Str} (n : ks.Nodup) (ht : ∀ s ∈ l, s.tail ∈ ks) (hh : ∀ s ∈ l, s.head ∈ ks) : (l.map fun s => (π s.tail - π s.head) * f s.name).sum = -(ks.map fun k => π k * net l f k).sum := by
  have h1 : (ks.map fun k => π k * net l f k).sum = (l.map fun s => (ks.map fun k => (if s.head = k then π k * f s.name else 0) - (if s.tail = k then π k * f s.name else 0)).sum).sum := by
    rw [sum_swap]
    refine sum_cong fun k _ => ?_
    unfold net
    rw [mul_sum]
    refine sum_cong fun s _ => ?_
    rw [Int.mul_sub]
    split <;> split <;> simp
  rw [h1]
  have e2 : ∀ (l : List Strm) (g : Strm → Int), -(l.map g).sum = (l.map fun s => -g s).sum := fun l g => by
    induction l with
    | nil => rfl
    | cons x l ih =>
      rw [List.map_cons, List.map_cons, List.sum_cons, List.sum_cons, ← ih]
      omega
  rw [e2]
  refine sum_cong fun s hs => ?_
  rw [sum_sub, sum_onef n, sum_onef n, if_pos (hh s hs), if_pos (ht s hs), Int.sub_mul]
  omega
theorem pot_zero {l : List Strm} {π f : Str → Int} {ks : List Str} (n : ks.Nodup) (ht : ∀ s ∈ l, s.tail ∈ ks) (hh : ∀ s ∈ l, s.head ∈ ks) (hb : ∀ k ∈ ks, net l f k = 0) : (l.map fun s => (π s.tail - π s.head) * f s.name).sum = 0 := by
  rw [sum_pot n ht hh, sum_zero fun k hk => by rw [hb k hk, Int.mul_zero]]
  rfl
/-- flows that are least under some heights, and balanced, are least -/
theorem opt_least {l : List Strm} {sl : Str → Slp} {π f g : Str → Int} {ks : List Str} (n : ks.Nodup) (ht : ∀ s ∈ l, s.tail ∈ ks) (hh : ∀ s ∈ l, s.head ∈ ks) (h : Opt l sl π f) (hf : ∀ k ∈ ks, net l f k = 0) (hg : ∀ k ∈ ks, net l g k = 0) (hw : ∀ s ∈ l, (sl s.name).low ≤ g s.name ∧ g s.name ≤ (sl s.name).high) :
    (l.map fun s => cst (sl s.name) (f s.name)).sum ≤ (l.map fun s => cst (sl s.name) (g s.name)).sum := by
  have q := sum_le (l := l) fun s hs => (h s hs).le (g s.name) (hw s hs).1 (hw s hs).2
  rw [sum_add (l := l) (f := fun (s : Strm) => cst (sl s.name) (f s.name)) (g := fun (s : Strm) => (π s.tail - π s.head) * f s.name), sum_add (l := l) (f := fun (s : Strm) => cst (sl s.name) (g s.name)) (g := fun (s : Strm) => (π s.tail - π s.head) * g s.name), pot_zero n ht hh hf, pot_zero n ht hh hg] at q
  omega
theorem floors_sum {l : List Strm} {sl : Str → Slp} {π f : Str → Int} {ks : List Str} (n : ks.Nodup) (ht : ∀ s ∈ l, s.tail ∈ ks) (hh : ∀ s ∈ l, s.head ∈ ks) (hf : ∀ k ∈ ks, net l f k = 0) :
    (l.map fun s => cst (sl s.name) (f s.name) + (π s.tail - π s.head) * f s.name).sum = (l.map fun s => cst (sl s.name) (f s.name)).sum := by
  rw [sum_add (l := l) (f := fun (s : Strm) => cst (sl s.name) (f s.name)) (g := fun (s : Strm) => (π s.tail - π s.head) * f s.name), pot_zero n ht hh hf]
  omega
/-- the floor of a stream: its charge, at a flow that is least -/
theorem opt_floor {s : Strm} {c : Slp} {π : Str → Int} {y : Int} (v : SlT c) (q : OptS s c π y) {m : Int} (h1 : ∃ k, IsTurn c k ∧ m = cst c k + (π s.tail - π s.head) * k) (h2 : ∀ k, IsTurn c k → m ≤ cst c k + (π s.tail - π s.head) * k) : m = cst c y + (π s.tail - π s.head) * y := by
  obtain ⟨k, k1, rfl⟩ := h1
  have b := turn_in v.v k1
  have a1 := q.le k b.1 b.2
  obtain ⟨j, j1, j2⟩ := turn_min v (π s.tail - π s.head) q.lo q.hi
  have := h2 j j1
  omega
/-- no way to where something is missing: no flows at all -/
theorem cut_none {l : List Strm} {sl : Str → Slp} {f g : Str → Int} {ms : List Mv} {R ks : List Str} (hm : MvOk l sl f ms) (ho : ∀ s ∈ l, (sl s.name).low ≤ f s.name ∧ f s.name ≤ (sl s.name).high) (n : R.Nodup) (hR : ∀ v ∈ R, v ∈ ks) (cl : ∀ m ∈ ms, m.tail ∈ R → m.head ∈ R)
    (h0 : ∀ k ∈ R, 0 ≤ net l f k) (hp : ∃ k ∈ R, 0 < net l f k) (hg : ∀ k ∈ ks, net l g k = 0) (hw : ∀ s ∈ l, (sl s.name).low ≤ g s.name ∧ g s.name ≤ (sl s.name).high) : False := by
  obtain ⟨k, k1, k2⟩ := hp
  have p := sum_pos h0 k1 k2
  have z : (R.map (net l g)).sum = 0 := sum_zero fun k hk => hg k (hR k hk)
  rw [sum_net n] at p z
  have a1 := sum_le (l := l.filter fun s => decide (s.head ∈ R ∧ s.tail ∉ R)) (f := fun s => f s.name) (g := fun s => g s.name) fun s hs => by
    obtain ⟨m, d⟩ := List.mem_filter.mp hs
    obtain ⟨d1, d2⟩ := of_decide_eq_true d
    have b := hw s m
    rcases hm.dn s m (fun e => d2 (e ▸ d1)) with y | ⟨m', m1, e1, e2, _⟩
    · have := y _ (.inl rfl)
      omega
    · exact absurd (e2 ▸ cl m' m1 (e1 ▸ d1)) d2
  have a2 := sum_le (l := l.filter fun s => decide (s.tail ∈ R ∧ s.head ∉ R)) (f := fun s => g s.name) (g := fun s => f s.name) fun s hs => by
    obtain ⟨m, d⟩ := List.mem_filter.mp hs
    obtain ⟨d1, d2⟩ := of_decide_eq_true d
    have b := hw s m
    rcases hm.up s m (fun e => d2 (e ▸ d1)) with y | ⟨m', m1, e1, e2, _⟩
    · have := y _ (.inr (.inl rfl))
      omega
    · exact absurd (e2 ▸ cl m' m1 (e1 ▸ d1)) d2
  omega
theorem pushes_perm {a : Int} {way way' : List Mv} {f : Str → Int} (p : way.Perm way') (n : (way.map (·.name)).Nodup) : ∀ x, pushes f a way x = pushes f a way' x := fun x => by
  have n' : (way'.map (·.name)).Nodup := (p.map _).nodup_iff.mp n
  by_cases z : x ∈ way.map (·.name)
  · obtain ⟨m, hm, rfl⟩ := List.mem_map.mp z
    rw [pushes_on n hm, pushes_on n' (p.mem_iff.mp hm)]
  · rw [pushes_off z, pushes_off fun y => z ((p.map _).mem_iff.mpr y)]
end M
end
-- part Me
section
set_option Elab.async false
set_option linter.all false
set_option maxRecDepth 100000
set_option maxHeartbeats 4000000
namespace M
open PySem PySem.Spec PyProof.Rows L2
/-- balanced flows within bounds -/
structure Poss (pl : Plt) (f : Str → Int) : Prop where
  lo : ∀ s ∈ pl.ss, s.low ≤ f s.name
  hi : ∀ s ∈ pl.ss, f s.name ≤ s.high
  bal : ∀ k ∈ pl.knots, net pl.ss f k = 0
def costN (rk : List Str) (rf : Str → Int × Int) (pr f : Str → Int) : Int := (rk.map (cs rf pr f)).sum
def AtM (rk : List Str) (rf : Str → Int × Int) (pr f : Str → Int) (w : Int) : Prop := ∀ n ∈ rk, cs rf pr f n ≤ w
theorem perm_sumI {l l' : List Int} (p : l.Perm l') : l.sum = l'.sum := by
  induction p with
  | nil => rfl
  | cons x _ ih => rw [List.sum_cons, List.sum_cons, ih]
  | swap x y l =>
    rw [List.sum_cons, List.sum_cons, List.sum_cons, List.sum_cons]
    omega
  | trans _ _ h1 h2 => exact h1.trans h2
theorem net_perm {l l' : List Strm} (p : l.Perm l') (f : Str → Int) (k : Str) : net l f k = net l' f k := by
  unfold net
  exact perm_sumI (p.map _)
theorem Poss.perm {p q : Plt} (a : q.knots.Perm p.knots) (b : q.ss.Perm p.ss) {f : Str → Int} (h : Poss p f) : Poss q f where
  lo := fun s hs => h.lo s (b.mem_iff.mp hs)
  hi := fun s hs => h.hi s (b.mem_iff.mp hs)
  bal := fun k hk => by
    rw [net_perm b]
    exact h.bal k (a.mem_iff.mp hk)
theorem sum_sub2 {rk ns : List Str} {c : Str → Int} (n1 : rk.Nodup) (n2 : ns.Nodup) (h : ∀ n ∈ rk, n ∈ ns) : (ns.map fun n => if n ∈ rk then c n else 0).sum = (rk.map c).sum := by
  have h1 : (rk.map c).sum = (rk.map fun n => (ns.map fun m => if n = m then c m else 0).sum).sum := sum_cong fun n hn => by
    rw [sum_onef n2, if_pos (h n hn)]
  rw [h1, sum_swap]
  refine sum_cong fun m _ => ?_
  have h2 : (rk.map fun n => if n = m then c m else 0).sum = (rk.map fun n => if m = n then c m else 0).sum := sum_cong fun n _ => by
    by_cases z : n = m
    · rw [if_pos z, if_pos z.symm]
    · rw [if_neg z, if_neg fun y => z y.symm]
  rw [h2, sum_one n1]
theorem cost_slopes {pl : Plt} {rk pk : List Str} {rf lim : Str → Int × Int} {pr f : Str → Int} (hpv : PV pl) (hv : RdV pl rk rf) (hk : ∀ n ∈ rk, n ∈ pk) : (pl.ss.map fun s => cst (slN lim rk rf pk pr s.name) (f s.name)).sum = costN rk rf pr f := by
  unfold costN
  rw [← sum_sub2 hv.nd hpv.nn hv.inN]
  unfold Plt.names
  rw [List.map_map]
  refine sum_cong fun s _ => ?_
  show cst (slN lim rk rf pk pr s.name) (f s.name) = if s.name ∈ rk then cs rf pr f s.name else 0
  unfold cst slN cs
  by_cases z : s.name ∈ rk
  · rw [if_pos z, if_pos z, if_pos (hk _ z)]
  · rw [if_neg z, if_neg z]
theorem slN_T {pl : Plt} {rk pk : List Str} {rf lim : Str → Int × Int} {pr : Str → Int} (hpv : PV pl) (hv : RdV pl rk rf) (hk : ∀ n ∈ rk, n ∈ pk ∧ 1 ≤ pr n ∧ pr n ≤ 1000000) (hp : ∀ n ∈ pk, n ∈ rk) (hl : ∀ s ∈ pl.ss, lim s.name = (s.low, s.high)) : ∀ n ∈ pl.names, SlT (slN lim rk rf pk pr n) := fun n hn => by
  obtain ⟨s, hs, rfl⟩ := List.mem_map.mp hn
  have b := hpv.bd s hs
  have e := hl s hs
  refine ⟨⟨?_, ?_, ?_, ?_, ?_⟩, fun r hr => ?_⟩
  · show 0 ≤ (lim s.name).1
    rw [e]
    exact b.1
  · show (lim s.name).1 ≤ (lim s.name).2
    rw [e]
    exact b.2.1
  · show (lim s.name).2 ≤ 1000000
    rw [e]
    exact b.2.2
  · show 0 ≤ if s.name ∈ pk then pr s.name else 0
    by_cases z : s.name ∈ pk
    · rw [if_pos z]
      have := hk _ (hp _ z)
      omega
    · rw [if_neg z]
      exact Int.le_refl _
  · show (if s.name ∈ pk then pr s.name else 0) ≤ 1000000
    by_cases z : s.name ∈ pk
    · rw [if_pos z]
      have := hk _ (hp _ z)
      omega
    · rw [if_neg z]
      decide
  · have hr : (if s.name ∈ rk then some (rf s.name) else none) = some r := hr
    by_cases z : s.name ∈ rk
    · rw [if_pos z] at hr
      rw [← Option.some.inj hr]
      exact (hv.bd _ z).2.2.1
    · rw [if_neg z] at hr
      cases hr
theorem feas_base {pl : Plt} {lim : Str → Int × Int} {f : Str → Int} (hl : ∀ s ∈ pl.ss, lim s.name = (s.low, s.high)) : Feas pl.knots pl.ss lim f ↔ Poss pl f :=
  ⟨fun h => ⟨fun s hs => by have := h.lo s hs; rw [hl s hs] at this; exact this, fun s hs => by have := h.hi s hs; rw [hl s hs] at this; exact this, h.bal⟩,
   fun h => ⟨fun s hs => by rw [hl s hs]; exact h.lo s hs, fun s hs => by rw [hl s hs]; exact h.hi s hs, h.bal⟩⟩
theorem mx_le {a b x : Int} : mx a b ≤ x ↔ a ≤ x ∧ b ≤ x := by
  unfold mx
  split <;> omega
theorem le_mn {a b x : Int} : x ≤ mn a b ↔ x ≤ a ∧ x ≤ b := by
  unfold mn
  split <;> omega
theorem ov_w {r : Int × Int} {p w x : Int} (hp : 1 ≤ p) (hw : 0 ≤ w) (ht : 0 ≤ r.2) : (r.1 - (r.2 + w.fdiv p) ≤ x ∧ x ≤ r.1 + (r.2 + w.fdiv p)) ↔ p * ov r x ≤ w := by
  have e : w.fdiv p = w / p := Int.fdiv_eq_ediv_of_nonneg w (by omega)
  have q0 : 0 ≤ w / p := Int.ediv_nonneg hw (by omega)
  have h1 : ov r x ≤ w / p ↔ ov r x * p ≤ w := Int.le_ediv_iff_mul_le (by omega)
  rw [e, Int.mul_comm p, ← h1]
  unfold ov
  generalize w / p = q at q0
  constructor
  · intro h
    omega
  · intro h
    omega
theorem feas_w {pl : Plt} {rk : List Str} {rf lim : Str → Int × Int} {pr f : Str → Int} {w : Int} (hv : RdV pl rk rf) (hk : ∀ n ∈ rk, 1 ≤ pr n) (hw : 0 ≤ w) (hl : ∀ s ∈ pl.ss, lim s.name = limW rk rf pr w s) : Feas pl.knots pl.ss lim f ↔ Poss pl f ∧ AtM rk rf pr f w := by
  have key : ∀ s ∈ pl.ss, ((lim s.name).1 ≤ f s.name ∧ f s.name ≤ (lim s.name).2) ↔ ((s.low ≤ f s.name ∧ f s.name ≤ s.high) ∧ (s.name ∈ rk → cs rf pr f s.name ≤ w)) := fun s hs => by
    rw [hl s hs]
    unfold limW
    by_cases z : s.name ∈ rk
    · rw [if_pos z]
      have := ov_w (r := rf s.name) (x := f s.name) (hk _ z) hw (hv.bd _ z).2.2.1
      show (mx _ _ ≤ _ ∧ _ ≤ mn _ _) ↔ _
      rw [mx_le, le_mn]
      unfold cs
      rw [← this]
      constructor
      · rintro ⟨⟨a, b⟩, c, d⟩
        exact ⟨⟨a, c⟩, fun _ => ⟨b, d⟩⟩
      · rintro ⟨⟨a, c⟩, h⟩
        obtain ⟨b, d⟩ := h z
        exact ⟨⟨a, b⟩, c, d⟩
    · rw [if_neg z]
      exact ⟨fun h => ⟨h, fun y => absurd y z⟩, fun h => h.1⟩
  constructor
  · intro h
    have k := fun s hs => (key s hs).mp ⟨h.lo s hs, h.hi s hs⟩
    refine ⟨⟨fun s hs => (k s hs).1.1, fun s hs => (k s hs).1.2, h.bal⟩, fun n hn => ?_⟩
    obtain ⟨s, hs, rfl⟩ := List.mem_map.mp (hv.inN n hn)
    exact (k s hs).2 hn
  · rintro ⟨h, a⟩
    have k := fun s hs => (key s hs).mpr ⟨⟨h.lo s hs, h.hi s hs⟩, fun z => a _ z⟩
    exact ⟨fun s hs => (k s hs).1, fun s hs => (k s hs).2, h.bal⟩
theorem feas_s {pl : Plt} {rk : List Str} {rf lim : Str → Int × Int} {f : Str → Int} (hv : RdV pl rk rf) (hl : ∀ s ∈ pl.ss, lim s.name = limS rk rf s) : Feas pl.knots pl.ss lim f ↔ Poss pl f ∧ ∀ n ∈ rk, ov (rf n) (f n) = 0 := by
  have key : ∀ s ∈ pl.ss, ((lim s.name).1 ≤ f s.name ∧ f s.name ≤ (lim s.name).2) ↔ ((s.low ≤ f s.name ∧ f s.name ≤ s.high) ∧ (s.name ∈ rk → ov (rf s.name) (f s.name) = 0)) := fun s hs => by
    rw [hl s hs]
    unfold limS
    by_cases z : s.name ∈ rk
    · rw [if_pos z]
      have ht := (hv.bd _ z).2.2.1
      have e : ov (rf s.name) (f s.name) = 0 ↔ ((rf s.name).1 - (rf s.name).2 ≤ f s.name ∧ f s.name ≤ (rf s.name).1 + (rf s.name).2) := by
        unfold ov
        constructor
        · intro h
          omega
        · intro h
          omega
      show (mx _ _ ≤ _ ∧ _ ≤ mn _ _) ↔ _
      rw [mx_le, le_mn, e]
      constructor
      · rintro ⟨⟨a, b⟩, c, d⟩
        exact ⟨⟨a, c⟩, fun _ => ⟨b, d⟩⟩
      · rintro ⟨⟨a, c⟩, h⟩
        obtain ⟨b, d⟩ := h z
        exact ⟨⟨a, b⟩, c, d⟩
    · rw [if_neg z]
      exact ⟨fun h => ⟨h, fun y => absurd y z⟩, fun h => h.1⟩
  constructor
  · intro h
    have k := fun s hs => (key s hs).mp ⟨h.lo s hs, h.hi s hs⟩
    refine ⟨⟨fun s hs => (k s hs).1.1, fun s hs => (k s hs).1.2, h.bal⟩, fun n hn => ?_⟩
    obtain ⟨s, hs, rfl⟩ := List.mem_map.mp (hv.inN n hn)
    exact (k s hs).2 hn
  · rintro ⟨h, a⟩
    have k := fun s hs => (key s hs).mpr ⟨⟨h.lo s hs, h.hi s hs⟩, fun z => a _ z⟩
    exact ⟨fun s hs => (k s hs).1, fun s hs => (k s hs).2, h.bal⟩
theorem cs_nn {rf : Str → Int × Int} {pr f : Str → Int} {n : Str} (h : 0 ≤ pr n) : 0 ≤ cs rf pr f n := Int.mul_nonneg h (ov_nn _ _)
theorem cost_nn {rk : List Str} {rf : Str → Int × Int} {pr f : Str → Int} (h : ∀ n ∈ rk, 0 ≤ pr n) : 0 ≤ costN rk rf pr f := sum_nn fun n hn => cs_nn (h n hn)
theorem cs_zero {rf : Str → Int × Int} {pr f : Str → Int} {n : Str} (h : 1 ≤ pr n) : cs rf pr f n = 0 ↔ ov (rf n) (f n) = 0 := by
  unfold cs
  constructor
  · intro e
    rcases Int.mul_eq_zero.mp e with z | z
    · omega
    · exact z
  · intro e
    rw [e, Int.mul_zero]
/-- the cost is nothing just if the flows agree -/
theorem cost_zero {rk : List Str} {rf : Str → Int × Int} {pr f : Str → Int} (h : ∀ n ∈ rk, 1 ≤ pr n) : costN rk rf pr f = 0 ↔ ∀ n ∈ rk, ov (rf n) (f n) = 0 := by
  unfold costN
  constructor
  · intro e n hn
    exact (cs_zero (h n hn)).mp (sum_nn_zero (fun n hn => cs_nn (by have := h n hn; omega)) e n hn)
  · intro e
    exact sum_zero fun n hn => (cs_zero (h n hn)).mpr (e n hn)
theorem atm_zero {rk : List Str} {rf : Str → Int × Int} {pr f : Str → Int} (h : ∀ n ∈ rk, 1 ≤ pr n) : AtM rk rf pr f 0 ↔ ∀ n ∈ rk, ov (rf n) (f n) = 0 := by
  constructor
  · intro e n hn
    refine (cs_zero (h n hn)).mp ?_
    have h1 := e n hn
    have h2 : 0 ≤ cs rf pr f n := cs_nn (by have := h n hn; omega)
    omega
  · intro e n hn
    rw [(cs_zero (h n hn)).mpr (e n hn)]
    exact Int.le_refl _
/-- fewer readings cost no more -/
theorem cost_fewer {rk rk' : List Str} {rf : Str → Int × Int} {pr f : Str → Int} (n1 : rk.Nodup) (n2 : rk'.Nodup) (h : ∀ n ∈ rk', n ∈ rk) (hp : ∀ n ∈ rk, 0 ≤ pr n) : costN rk' rf pr f ≤ costN rk rf pr f := by
  unfold costN
  rw [← sum_sub2 n2 n1 h]
  refine sum_le fun n hn => ?_
  by_cases z : n ∈ rk'
  · rw [if_pos z]
    exact Int.le_refl _
  · rw [if_neg z]
    exact cs_nn (hp n hn)
theorem cs_cong {rf rf' : Str → Int × Int} {pr pr' f f' : Str → Int} {n : Str} (h1 : rf n = rf' n) (h2 : pr n = pr' n) (h3 : f n = f' n) : cs rf pr f n = cs rf' pr' f' n := by
  unfold cs
  rw [h1, h2, h3]
theorem cost_cong {rk : List Str} {rf rf' : Str → Int × Int} {pr pr' f f' : Str → Int} (h : ∀ n ∈ rk, rf n = rf' n ∧ pr n = pr' n ∧ f n = f' n) : costN rk rf pr f = costN rk rf' pr' f' :=
  sum_cong fun n hn => cs_cong (h n hn).1 (h n hn).2.1 (h n hn).2.2
theorem cost_one {rk : List Str} {rf : Str → Int × Int} {f : Str → Int} : costN rk rf (fun _ => 1) f = (rk.map fun n => ov (rf n) (f n)).sum := sum_cong fun n _ => Int.one_mul _
end M
end
-- part W24
section
set_option Elab.async false
set_option linter.all false
set_option maxRecDepth 100000
set_option maxHeartbeats 4000000
namespace M
open PySem PySem.Spec PyProof.Rows L2
local macro_rules | `(tactic| walk_at "e") => `(tactic| (first
  | exact rfl
  | assumption
  | exact upd_same
  | exact flat_strs
  | exact fd_keys
  | ((with_reducible apply same_at); assumption; walk_at "f")
  | ((with_reducible apply at_upd); assumption; walk_at "f")
  | omega))
local macro_rules | `(tactic| walk_at "n") => `(tactic| (first
  | assumption
  | omega
  | exact Nat.le_of_lt (small1000 (by first | assumption | omega))
  | exact (Nat.zero_le _ : 0 ≤ sizeLine)
  | exact (by decide : 1 ≤ sizeLine)
  | exact (by decide : 2 ≤ sizeLine)
  | exact (by decide : 3 ≤ sizeLine)
  | exact (by decide : 5 ≤ sizeLine)
  | exact (by decide : 6 ≤ sizeLine)
  | (show _ < 1000; exact of_decide_eq_true rfl)
  | exact len2 (by omega) (by omega)
  | exact small1000 (by first | assumption | omega)))
local macro_rules | `(tactic| walk_at "f") => `(tactic| (first
  | with_reducible assumption
  | ((with_reducible apply gEq); walk_at "e")
  | ((with_reducible apply gLe); walk_at "n")
  | ((with_reducible apply gLt); walk_at "n")
  | ((with_reducible apply gNot); (first | assumption | omega))
  | with_reducible exact Same.refl _
  | ((with_reducible apply tupOf); walk_at "f")
  | ((with_reducible apply lstOf); walk_at "f")
  | ((with_reducible apply gCls); assumption)
  | ((with_reducible apply gNoAttr); assumption)
  | ((with_reducible apply gIsPl); assumption)
  | ((with_reducible apply gStL); assumption)
  | ((with_reducible apply gIntD); assumption)
  | ((with_reducible apply gSqT); assumption)
  | ((with_reducible apply gSqL); assumption)
  | ((with_reducible apply tyV_l); walk_at "f")
  | ((with_reducible apply Rd.of); walk_at "f")
  | ((with_reducible apply dget_ne); assumption; assumption)
  | ((with_reducible apply dget_fd) <;> walk_at "f")
  | ((with_reducible apply dput_int) <;> walk_at "f")
  | ((with_reducible apply dput_fd) <;> walk_at "f")
  | ((with_reducible apply rd_upd); assumption; walk_at "f")
  | ((with_reducible apply same_put); walk_at "f"; assumption)
  | ((with_reducible apply sx_upd) <;> walk_at "f")
  | ((with_reducible refine Same.trans ?_ (by assumption)); walk_at "f")
  | ((with_reducible apply cmulLg); omega; omega)
  | ((with_reducible apply cmulRg); omega; omega)
  | ((with_reducible apply SameE.upd); walk_at "f")
  | ((with_reducible apply StL.same); assumption; walk_at "f")
  | ((with_reducible apply LT.same); assumption; walk_at "f")
  | ((with_reducible apply IsP.same); assumption; walk_at "f")
  | ((with_reducible apply IsPl.same); assumption; walk_at "f")
  | ((with_reducible apply IntD.same); assumption; walk_at "f")
  | ((with_reducible apply PrD.same); assumption; walk_at "f")
  | ((with_reducible apply Or.inl); walk_at "f")
  | ((with_reducible apply Or.inr); walk_at "f")))
local macro_rules | `(tactic| walk_at "g") => `(tactic| repeat (first
  | with_reducible apply And.intro
  | with_reducible apply Exists.intro
  | walk_at "f"
  | ((with_reducible apply iteT); assumption)
  | ((with_reducible apply iteF); assumption)
  | ((with_reducible apply iteD); (first | assumption | omega))
  | ((with_reducible apply iteN); (first | assumption | omega))
  | ((with_reducible apply iteD2); (first | assumption | omega))
  | ((with_reducible apply iteN2); (first | assumption | omega))
  | apply And.intro
  | apply Exists.intro))
section
variable {P : Program} {w : World} {K : PySem.W.Frag} {mg : Str → Option Value} {base : Heap}
section
variable {d : Addr} {od : Obj} {ks : List Str} {g0 : Str → V}
theorem lcKR {β : Type} {g : TG} {tt : TT} {te : TE} {vs : List Nat} {σ : L2.St} {H1 : Hp} {D : Addr} {Qd : Hp → Prop} (f : Str → Option β) (R : β → V → Hp → Prop) (Rm : RmL R)
    (hD : H1 D = none) (hS : H1 d = some (.frz od (.dK (fdV ks g0)))) (hl : ks.length ≤ 1000)
    (step : ∀ (n : Str) (v : V) (H : Hp) (Ky : V → Hp → Prop) (Kn : Hp → Prop), n ∈ ks → Same H1 H → H d = some (.frz od (.dK (fdV ks g0))) → v = .str n → (∀ y H4 z, Same H H4 → f n = some z → R z y H4 → Ky y H4) → (∀ H3, Same H H3 → f n = none → Kn H3) →
      g v (wipe σ vs) H fun σ2 H2 => wipe σ2 vs = wipe σ vs ∧ tt σ2 H2 fun b H3 => if b = true then te σ2 H3 Ky else Kn H3)
    (fin : ∀ H' ys, Same H1 H' → H' D = some (.lst ys) → A2 (fun z y => R z y H') (ks.filterMap f) ys → Qd H') :
    ∃ W : Nat → Nat → Hp → Prop, (∃ m, W 0 m (upd H1 D (.lst []))) ∧ ∀ i m H, W i m H →
      ((Itk d od (fdV ks g0)).stop i H ∧ Qd H) ∨ ((Itk d od (fdV ks g0)).go i H ∧ ∃ Nx : Hp → Prop, (∀ H', Nx H' → ∃ m', m' < m ∧ W (i + 1) m' H') ∧ ∀ x H', (Itk d od (fdV ks g0)).yld i H x H' → g x (wipe σ vs) H' fun σ2 H2 => wipe σ2 vs = wipe σ vs ∧ tt σ2 H2 fun b H3 =>
        if b = true then te σ2 H3 fun y H4 => ∃ acc, H4 D = some (.lst acc) ∧ acc.length < sizeLine ∧ Nx (upd H4 D (.lst (acc ++ [y]))) else Nx H3) := by
  refine lcG wk_keys (fun kv => match kv.1 with | .inr n => f n | _ => none) R Rm hD hS (by rw [fd_len]; exact hl) (fun i x v H' Ky Kn ex s hf hv ky kn => ?_) (fun H' ys s e a => ?_)
  · obtain ⟨n, hn, rfl⟩ := List.mem_map.mp (List.mem_of_getElem? ex)
    exact step n v H' Ky Kn hn s hf hv ky kn
  · refine fin H' ys s e ?_
    unfold fdV at a
    rw [List.filterMap_map] at a
    exact a
end
def rEnd : ((Int × Int) × Str) → V → Hp → Prop := fun z y H => ∃ t t2, y = .ref t ∧ H t = some (.tup [.ref t2, .str z.2]) ∧ H t2 = some (.tup [.int z.1.1, .int z.1.2])
theorem rmL_end : RmL rEnd := fun b v H H' s ⟨t, t2, e, h1, h2⟩ => ⟨t, t2, e, s _ _ (fun ys e => by cases e) h1, s _ _ (fun ys e => by cases e) h2⟩
theorem dp_ends {K : PySem.W.Frag} {H : Hp} : ∀ {l : List ((Int × Int) × Str)} {vs : List V}, A2 (fun x v => rEnd x v H) l vs → DpAll K H vs (l.map PySem.W.Datum.toD)
  | _, _, .nil => .nil
  | _, _, .cons ⟨t, t2, e, h1, h2⟩ r => by
    subst e
    exact .cons (.tup (tupOf h1) (.cons (.tup (tupOf h2) (.cons (.int _) (.cons (.int _) .nil))) (.cons (.str _) .nil))) (dp_ends r)
theorem minOf_mem {α : Type} [DecidableEq α] [PySem.W.DatumOrd α] (y : α) (ys : List α) : PySem.W.minOf y ys ∈ y :: ys :=
  (minOf_spec (R := fun _ _ => True) (fun _ => trivial) (fun _ _ _ _ _ => trivial) (fun _ _ _ => trivial) (fun _ _ _ => trivial) ys y).1
def rMinE (K : PySem.W.Frag) : List V → Hp → VK → Prop := fun vs H Q => ∃ (a : Addr) (us : List V) (zs : List ((Int × Int) × Str)), vs = [V.ref a] ∧ H a = some (.lst us) ∧ A2 (fun z y => rEnd z y H) zs us ∧ zs ≠ [] ∧
  ∀ t t2 z, z ∈ zs → H t = some (.tup [.ref t2, .str z.2]) → Q (.ref t) H
theorem cr_minE {X : Cx} (hc : X.calm = true) (hu : X.A.units + 1 + PySem.W.Datum.depth ((Int × Int) × Str) < cLine) : CallR X (.builtin "min") (rMinE X.K) := call_imp (cr_minD (α := ((Int × Int) × Str)) hc hu) fun vs H Q ⟨a, us, zs, e, h, hA, hz, q⟩ => by
  cases zs with
  | nil => exact absurd rfl hz
  | cons z zs =>
    refine ⟨a, us, z, zs, e, lstOf h, dp_ends hA, fun i v hv1 hv2 => ?_⟩
    obtain ⟨x, hx, t, t2, e2, h1, h2⟩ := hA.getr hv1
    have e3 : x = PySem.W.minOf z zs := Option.some.inj (hx.symm.trans hv2)
    subst e2
    exact q t t2 x (e3 ▸ minOf_mem z zs) h1
def rMinPr (K : PySem.W.Frag) : List V → Hp → VK → Prop := fun vs H Q => ∃ (a : Addr) (us : List V) (zs : List (Int × Int)), vs = [V.ref a] ∧ H a = some (.lst us) ∧ A2 (fun x v => TupR (prV x) v H) zs us ∧ zs ≠ [] ∧
  ∀ t z, z ∈ zs → (∀ y ∈ zs, z.1 ≤ y.1) → H t = some (.tup [.int z.1, .int z.2]) → Q (.ref t) H
theorem cr_minPr {X : Cx} (hc : X.calm = true) (hu : X.A.units + 1 + PySem.W.Datum.depth (Int × Int) < cLine) : CallR X (.builtin "min") (rMinPr X.K) := call_imp (cr_minD (α := (Int × Int)) hc hu) fun vs H Q ⟨a, us, zs, e, h, hA, hz, q⟩ => by
  cases zs with
  | nil => exact absurd rfl hz
  | cons z zs =>
    refine ⟨a, us, z, zs, e, lstOf h, dp_pairs hA, fun i v hv1 hv2 => ?_⟩
    obtain ⟨x, hx, t, e2, h1⟩ := hA.getr hv1
    have e3 : x = PySem.W.minOf z zs := Option.some.inj (hx.symm.trans hv2)
    obtain ⟨i1, i2⟩ := min_pairs z zs
    subst e2
    exact q t x (e3 ▸ i1) (e3 ▸ i2) h1
def rkC (R : List Str) (e : Str → Ent) (k : Str) : Int := ((R.filter fun u => decide ((e u).c < (e k).c)).length : Int)
def tightM (R : List Str) (e : Str → Ent) (m : Mv) : Bool := decide (m.price + (e m.tail).p - (e m.head).p = 0 ∧ m.tail ∈ R ∧ m.head ∈ R)
theorem far_preds {S R : List Str} {A : List Mv} {e : Str → Ent} (F : Far S A R e) (hl : R.length ≤ 1000) : Preds (A.filter (tightM R e)) S R (fun k => (e k).mv) (rkC R e) where
  st := fun k hk z => (F.st k hk z).1
  ar := fun k hk m em => by
    obtain ⟨a1, a2, a3, a4, a5⟩ := F.ar k hk m em
    refine ⟨List.mem_filter.mpr ⟨a1, decide_eq_true ⟨by rw [a2]; omega, a3, a2 ▸ hk⟩⟩, a2, a3, ?_⟩
    have := filter_lt (p := fun u => decide ((e u).c < (e m.tail).c)) (p' := fun u => decide ((e u).c < (e k).c)) (fun u _ hu => decide_eq_true (by
      have := of_decide_eq_true hu
      omega)) a3 (decide_eq_false (Int.lt_irrefl _)) (decide_eq_true a5)
    unfold rkC
    omega
  lo := fun k hk => by
    have := List.length_filter_le (fun u => decide ((e u).c < (e k).c)) R
    unfold rkC
    exact ⟨by omega, by omega⟩
/-- what a push along a tight way brings -/
theorem push_fin {pl : Plt} (hpv : PV pl) {sl : Str → Slp} {f π : Str → Int} {ms way : List Mv} {S R : List Str} {e : Str → Ent} {s x : Str} {a : Int} (v : ∀ s ∈ pl.ss, SlT (sl s.name)) (hopt : Opt pl.ss sl π f) (hm : MvOk pl.ss sl f ms) (far : Far S ms R e) (hx : x ∈ pl.knots)
    (w : Way (ms.filter (tightM R e)) s x way.reverse) (h0 : 0 < a) (ha : ∀ m ∈ way, a ≤ m.most) (h1 : a ≤ net pl.ss f s) (h2 : a ≤ -(net pl.ss f x)) :
    (∃ π', Opt pl.ss sl π' (pushes f a way)) ∧ (∀ k, net pl.ss (pushes f a way) k = net pl.ss f k + ((if x = k then a else 0) - (if s = k then a else 0))) ∧ missN pl.knots pl.ss (pushes f a way) < missN pl.knots pl.ss f := by
  have hal : ∀ m ∈ way.reverse, ∃ s ∈ pl.ss, Along s m := fun m hmw => by
    obtain ⟨s, hs, o⟩ := hm.of m (List.mem_filter.mp (w.mem m hmw)).1
    exact ⟨s, hs, o.al⟩
  obtain ⟨ρ, hρ⟩ := w.rk
  have nr := way_names hpv.nn w.ch hal hρ
  have pr : way.reverse.Perm way := List.reverse_perm way
  have nn : (way.map (·.name)).Nodup := (pr.map _).nodup_iff.mp nr
  obtain ⟨π', p1, p2⟩ := pot_new far (opt_moves v hopt hm)
  have hnet : ∀ k, net pl.ss (pushes f a way) k = net pl.ss f k + ((if x = k then a else 0) - (if s = k then a else 0)) := fun k => by
    rw [← push_net hpv.nn w.ch hal]
    exact net_cong fun s _ => pushes_perm pr.symm nn s.name
  refine ⟨⟨π', opt_pushes hpv.nn v (opt_new v hopt hm p1) hm nn (fun m hmw => ?_) (by omega)⟩, hnet, ?_⟩
  · obtain ⟨m1, m2⟩ := List.mem_filter.mp (w.mem m (List.mem_reverse.mpr hmw))
    obtain ⟨t1, t2, t3⟩ := of_decide_eq_true m2
    refine ⟨m1, ?_, ha m hmw⟩
    rw [p2 _ t2, p2 _ t3]
    exact t1
  · rw [missN_less hpv.kn hx (fun z => by
      subst z
      omega) h0 h1 h2 hnet]
    omega
theorem net_pos {pl : Plt} (hpv : PV pl) {f : Str → Int} (h : missN pl.knots pl.ss f ≠ 0) : ∃ k ∈ pl.knots, 0 < net pl.ss f k := by
  obtain ⟨e, he, hne⟩ := missN_pos h
  apply Classical.byContradiction
  intro z
  have h1 : ∀ k ∈ pl.knots, 0 ≤ -(net pl.ss f k) := fun k hk => by
    have : ¬ 0 < net pl.ss f k := fun y => z ⟨k, hk, y⟩
    omega
  have h2 := sum_pos h1 he (by show 0 < -_; omega)
  have h3 : ∀ l : List Str, (l.map fun k => -(net pl.ss f k)).sum = -(l.map (net pl.ss f)).sum := fun l => by
    induction l with
    | nil => rfl
    | cons x l ih =>
      rw [List.map_cons, List.map_cons, List.sum_cons, List.sum_cons, ih]
      omega
  rw [h3, net_total hpv.kn hpv.tk hpv.hk] at h2
  omega
def sp_l_push (K : PySem.W.Frag) : Sp := fun vs H Q E => ∃ p pl ds df dv sl f π, vs = [.ref p, .ref ds, .ref df, .ref dv] ∧ IsPl K H p pl ∧ PV pl ∧ SlD K H ds pl.names sl ∧ (∀ n ∈ pl.names, SlT (sl n)) ∧ IntD H df pl.names f ∧ IntD H dv pl.knots (net pl.ss f) ∧ df ≠ dv ∧ Opt pl.ss sl π f ∧ missN pl.knots pl.ss f ≠ 0 ∧
  (∀ H' f' π', SameB [df, dv] H H' → IntD H' df pl.names f' → IntD H' dv pl.knots (net pl.ss f') → Opt pl.ss sl π' f' → missN pl.knots pl.ss f' < missN pl.knots pl.ss f → Q .non H') ∧
  (∀ H', Same H H' → (∀ g, (∀ s ∈ pl.ss, (sl s.name).low ≤ g s.name ∧ g s.name ≤ (sl s.name).high) → (∀ k ∈ pl.knots, net pl.ss g k = 0) → False) → E (.ref (C_NoFlows K)) none H')
theorem sc_l_push : FnScope ["plant", "slopes", "flows", "over", "moves", "found", "ends", "end", "way", "start", "amount", "_", "name", "sign", "knot", "move"] ["plant", "slopes", "flows", "over"] (defScope s_l_push) := ⟨rfl, rfl, rfl, by decide +kernel, rfl, by decide +kernel, by decide +kernel⟩
theorem ok_l_push (T : Tx K mg) : Has P w K mg base (L2.CX P w) 5 (A_l_push K) ["plant", "slopes", "flows", "over"] [] (sp_l_push K) := by
  obtain ⟨fd, F⟩ := T.F_l_push
  refine ⟨fd, [], F.ok sc_l_push (fun vs H Q E h => by
    obtain ⟨_, _, _, _, _, _, _, _, rfl, _⟩ := h
    rfl) (fun cdv A outer s H vs Q E hr h => ?_), F.bindsN (fun _ _ _ _ _ _ us hl => match us, hl with | [_, _, _, _], _ => rfl), .nil, F.kp⟩
  obtain ⟨p, pl, ds, df, dv, sw, f, π, rfl, hP, hpv, hds, hst, hdf, hdv, hne, hopt, hmn, q, qx⟩ := h
  obtain ⟨kl, sl, dx, hO⟩ := hP.ex
  have hob := hO.ob
  have hkl := hpv.kl
  have hsl := hpv.sl
  have hln := hpv.ln
  have hsv : ∀ n ∈ pl.names, SlV (sw n) := fun n hn => (hst n hn).v
  have hst2 : ∀ s ∈ pl.ss, SlT (sw s.name) := fun s hs => hst _ (List.mem_map.mpr ⟨s, hs, rfl⟩)
  refine ⟨_, (pss_cons (ps_set (i := 4) sc_l_push.nd rfl (Or.inl rfl) (hc (ok_moves_of (K := K) T) (hr.mono (by decide)) T.g_moves_of pass0 (pa_cons (pv 0) (pa_cons (pv 1) (pa_cons (pv 2) pa_nil)))))
      (pss_cons (ps_set (i := 5) sc_l_push.nd rfl (Or.inr rfl) (hc (ok_far_from (K := K) T) (hr.mono (by decide)) T.g_far_from pass0 (pa_cons (hprop (ok_Plant_knots (K := K) T) (hr.mono (by decide)) T.c_Plant T.p_Plant_knots pass0 (pv 0)) (pa_cons (peLockN 3 (pe_lc (own := [("knot", 14)]) (g := (gName 14)) rfl sc_l_push.nd (piKeys (pv 3)) (blkOk_by (own := [("knot", 14)]) (N := ["plant", "slopes", "flows", "over", "moves", "found", "ends", "end", "way", "start", "amount", "_", "name", "sign", "knot", "move"]) (sc := defScope s_l_push) (by decide +kernel)) (fun _ _ _ _ _ => (pg_name (i := 14) sc_l_push.nd rfl (Or.inl rfl))) (fun _ _ _ _ _ => (pts_one (pt_cmpR op_gt (pe_dget (hu_of hr) (pv 3) (pv 14) (fun _ _ => rfl)) (pe_int) (nomark _)))) (fun _ _ _ _ _ => (pv 14)))) (pa_cons (pv 4) pa_nil)))))
      (pss_cons (psLockN 3 (ps_setLc (i := 6) (own := [("knot", 14)]) (g := (gName 14)) rfl sc_l_push.nd rfl rfl (sw_true rfl rfl rfl (by decide +kernel)) (piKeys (pv 3)) (blkOk_by (own := [("knot", 14)]) (N := ["plant", "slopes", "flows", "over", "moves", "found", "ends", "end", "way", "start", "amount", "_", "name", "sign", "knot", "move"]) (sc := defScope s_l_push) (by decide +kernel)) (fun _ _ _ _ _ => (pg_name (i := 14) sc_l_push.nd rfl (Or.inl rfl))) (fun _ _ _ _ _ => (pts_one (PW.pt (pw_and (pt_cmpR op_lt (pe_dget (hu_of hr) (pv 3) (pv 14) (fun _ _ => rfl)) (pe_int) (nomark _)) (pw_and1 (pt_cmp (pc_din (hu_of hr) (pv 14) (pv 5)))))))) (fun _ _ _ _ _ => (pe_tup (pa_cons (pe_slice slT (pe_dget (hu_of hr) (pv 5) (pv 14) (fun _ _ => rfl)) po_none (po_some (pe_int))) (pa_cons (pv 14) pa_nil))))))
      (pss_cons (ps_if (pt_not (ptTruL (pv 6) (by intro _; rfl)))
      (pss_one (ps_raise rfl (takes_of rfl rfl rfl rfl) (pmk_own PySem.F.excBase_ValueError T.x_NoFlows.1 T.g_NoFlows T.x_NoFlows.2.1 (raises_own T.x_NoFlows.2.2.1 T.x_NoFlows.2.2.2) (by exact rfl))))
      pss_nil)
      (pss_cons (ps_set (i := 7) sc_l_push.nd rfl (Or.inl rfl) (pe_ix ixT (pe_callB (cr_minE rfl (hu_min hr (by decide))) (by rfl) T.b_min (by decide +kernel) (pa_cons (pv 6) pa_nil)) (pe_int) (fun _ _ => rfl)))
      (pss_cons (ps_set (i := 8) sc_l_push.nd rfl (Or.inl rfl) (hc (ok_l_way_back (K := K) T) (hr.mono (by decide)) T.g_l_way_back pass0 (pa_cons (pv 5) (pa_cons (pv 7) pa_nil))))
      (pss_cons (ps_set (i := 9) sc_l_push.nd rfl (Or.inl rfl) (pe_ix ixT (pe_ix ixL (pv 8) (pe_un un_neg pe_int) (fun _ _ => rfl)) (pe_int) (fun _ _ => rfl)))
      (pss_cons (ps_set (i := 10) sc_l_push.nd rfl (Or.inl rfl) (pe_callB (minL rfl) (by rfl) T.b_min (by decide +kernel) (pa_cons (pe_op op_cat (pe_lst (pa_cons (pe_dget (hu_of hr) (pv 3) (pv 9) (fun _ _ => rfl)) (pa_cons (pe_un un_neg (pe_dget (hu_of hr) (pv 3) (pv 7) (fun _ _ => rfl))) pa_nil))) (pe_lc (own := [("move", 15)]) (g := (gName 15)) rfl sc_l_push.nd (pi_list (pv 8)) (blkOk_by (own := [("move", 15)]) (N := ["plant", "slopes", "flows", "over", "moves", "found", "ends", "end", "way", "start", "amount", "_", "name", "sign", "knot", "move"]) (sc := defScope s_l_push) (by decide +kernel)) (fun _ _ _ _ _ => (pg_name (i := 15) sc_l_push.nd rfl (Or.inl rfl))) (fun _ _ _ _ _ => pts_nil) (fun _ _ _ _ _ => (pe_ix ixT (pv 15) (pe_int) (fun _ _ => rfl))))) pa_nil)))
      (pss_cons (psFor (passes_of rfl) rfl (pi_list (pv 8)) (pg_tup (by rfl) (pgs_cons (pg_name (i := 11) sc_l_push.nd rfl (Or.inl rfl)) (pgs_cons (pg_name (i := 11) sc_l_push.nd rfl (Or.inl rfl)) (pgs_cons (pg_name (i := 11) sc_l_push.nd rfl (Or.inl rfl)) (pgs_cons (pg_name (i := 11) sc_l_push.nd rfl (Or.inl rfl)) (pgs_cons (pg_name (i := 12) sc_l_push.nd rfl (Or.inl rfl)) (pgs_cons (pg_name (i := 13) sc_l_push.nd rfl (Or.inl rfl)) pgs_nil)))))))
      (pss_one (ps_daug (hu_of hr) (pv 2) (pv 12) (pe_op op_mul (pv 13) (pv 10)) in_add (fun _ _ _ => rfl))))
      (pss_cons (ps_daug (hu_of hr) (pv 3) (pv 9) (pv 10) in_sub (fun _ _ _ => rfl))
      (pss_one (ps_daug (hu_of hr) (pv 3) (pv 7) (pv 10) in_add (fun _ _ _ => rfl))))))))))))), ?_⟩
  walk_at "g"
  intro H1 a ms s1 na ea hm
  have hpos := opt_moves hst2 hopt hm
  have hP1 := hP.same s1
  walk_at "g"
  intro H2 kn s2 nkn ekn
  walk_at "g"
  intro od
  have hdv2 : H2 dv = some (.dK (fdV pl.knots fun k => .int (net pl.ss f k))) := s2 _ _ (s1 _ _ hdv)
  generalize hG : upd H2 dv _ = H0
  have e0 := nw_at hG
  have s0 : ∀ {H'}, Same H0 H' → Same H2 (upd H' dv (.dK (fdV pl.knots fun k => .int (net pl.ss f k)))) := fun s => same_unlock hdv2 (hG ▸ s)
  clear hG
  walk_at "g"
  intro D hD
  refine lcK (fun k => if 0 < net pl.ss f k then some k else none) V.str hD e0 (by omega) (fun n v H3 Ky Kn hn s hfz hv ky kn => ?_) (fun H3 s3 eD => ?_)
  · subst hv
    have u1 : Rd H3 dv (.dK (fdV pl.knots fun k => .int (net pl.ss f k))) := .inr ⟨_, hfz⟩
    walk_at "g"
    refine ite_d (fun c => ?_) (fun c => ?_)
    · walk_at "g"
      exact ky _ _ (Same.refl _) (if_pos c)
    · walk_at "g"
      exact kn _ (Same.refl _) (if_neg c)
  have f1 := s3 _ _ e0
  have hDd : D ≠ dv := (ne_of_none e0 hD).symm
  have sm3 := s0 s3
  rw [fm_filter, List.map_id'] at eD
  have eD' := at_upd (o := .dK (fdV pl.knots fun k => .int (net pl.ss f k))) hDd eD
  refine ⟨f1, ?_⟩
  generalize upd H3 dv _ = H4 at sm3 eD' ⊢
  have eS : StL H4 D (pl.knots.filter fun k => decide (0 < net pl.ss f k)) := eD'
  have ekn4 : StL H4 kn pl.knots := sm3 _ _ ekn
  have ea4 : LT moveV H4 a ms := (ea.same s2).same sm3
  have w1 : (pl.knots.filter fun k => decide (0 < net pl.ss f k)).Nodup := hpv.kn.filter _
  have w2 : ∀ k ∈ pl.knots.filter (fun k => decide (0 < net pl.ss f k)), k ∈ pl.knots := fun k hk => (List.mem_filter.mp hk).1
  have w3 : ∀ m ∈ ms, m.head ∈ pl.knots := fun m hm2 => by
    obtain ⟨s, hs, o⟩ := hm.of m hm2
    obtain ⟨_, a⟩ := o.al
    rcases a with ⟨_, _, e⟩ | ⟨_, _, e⟩ <;> rw [e]
    · exact hpv.hk s hs
    · exact hpv.tk s hs
  have w4 : ms.length ≤ 100 := by
    have := hm.len
    omega
  walk_at "g"
  intro H5 df2 R e s5 ndf2 ee far hRk
  have S05 : Same H H5 := s1.trans (s2.trans (sm3.trans s5))
  have hdv5 : H5 dv = some (.dK (fdV pl.knots fun k => .int (net pl.ss f k))) := S05 _ _ hdv
  walk_at "g"
  intro od2
  generalize hG : upd H5 dv _ = H6
  have e6 := nw_at hG
  have s6 : ∀ {H'}, Same H6 H' → Same H5 (upd H' dv (.dK (fdV pl.knots fun k => .int (net pl.ss f k)))) := fun s => same_unlock hdv5 (hG ▸ s)
  obtain ⟨r, ee1, ee2⟩ := ee.ex
  have hne2 : df2 ≠ dv := (ne_of_none (sm3 _ _ hdv2) ndf2).symm
  have ee6 : Rd H6 df2 (.dK (fdV R fun k => .ref (r k))) := hG ▸ rd_lock hdv5 trivial (.inl ee1)
  have ee7 : ∀ k ∈ R, ∃ v, H6 (r k) = some (.tup [.int (e k).p, .int (e k).c, v]) := fun k hk => by
    obtain ⟨v, h1, _⟩ := ee2 k hk
    exact ⟨v, hG ▸ lock_ne hdv5 h1 (fun e => by cases e)⟩
  clear hG
  walk_at "g"
  intro D2 hD2
  refine lcKR (fun k => if net pl.ss f k < 0 ∧ k ∈ R then some (((e k).p, (e k).c), k) else none) rEnd rmL_end hD2 e6 (by omega) (fun n v H7 Ky Kn hn s hfz hv ky kn => ?_) (fun H7 us s7 eD2 aD2 => ?_)
  · subst hv
    have u1 : Rd H7 dv (.dK (fdV pl.knots fun k => .int (net pl.ss f k))) := .inr ⟨_, hfz⟩
    have u2 := same_rd s ee6
    walk_at "g"
    refine ite_d (fun c => ?_) (fun c => ?_)
    · by_cases c2 : n ∈ R
      · have g1 : DGet H7 df2 (.str n) (some (.ref (r n))) := dget_fd (g := fun k => V.ref (r k)) u2 c2
        obtain ⟨v, h7⟩ := ee7 n c2
        have h7' := s _ _ h7
        walk_at "g"
        · intro _ ez
          exfalso
          have : HT.sIx 3 3 (some 2) = 3 := ez
          revert this
          decide
        · intro t2 n_t2; generalize hG : upd H7 t2 _ = H8; have s_H8 : Same H7 H8 := nw_same n_t2 hG; have e_t2 := nw_at hG; clear hG
          have e_t2' : H8 t2 = some (.tup [.int (e n).p, .int (e n).c]) := e_t2
          walk_at "g"
          intro t3 n_t3; generalize hG : upd H8 t3 _ = H9; have s_H9 : Same H8 H9 := nw_same n_t3 hG; have e_t3 := nw_at hG; clear hG
          exact ky _ H9 _ (s_H8.trans s_H9) (if_pos ⟨c, c2⟩) ⟨t3, t2, rfl, e_t3, s_H9 _ _ e_t2'⟩
      · have g1 : DGet H7 df2 (.str n) none := dget_fd0 (g := fun k => V.ref (r k)) u2 c2
        walk_at "g"
        exact kn _ (Same.refl _) (if_neg fun z => c2 z.2)
    · walk_at "g"
      exact kn _ (Same.refl _) (if_neg fun z => c z.1)
  have f2 := s7 _ _ e6
  have hD2d : D2 ≠ dv := (ne_of_none e6 hD2).symm
  have sm7 := s6 s7
  have aD2' : A2 (fun z y => rEnd z y (upd H7 dv (.dK (fdV pl.knots fun k => .int (net pl.ss f k))))) (pl.knots.filterMap fun k => if net pl.ss f k < 0 ∧ k ∈ R then some (((e k).p, (e k).c), k) else none) us :=
    aD2.imp fun z y ⟨t, t2, e1, h1, h2⟩ => ⟨t, t2, e1, at_upd (ne_at h1 f2 (fun e => by cases e)) h1, at_upd (ne_at h2 f2 (fun e => by cases e)) h2⟩
  have eD2' := at_upd (o := .dK (fdV pl.knots fun k => .int (net pl.ss f k))) hD2d eD2
  refine ⟨f2, ?_⟩
  generalize upd H7 dv _ = H8 at sm7 eD2' aD2' ⊢
  have S08 : Same H H8 := S05.trans sm7
  walk_at "g"
  generalize hzs : (pl.knots.filterMap fun k => if net pl.ss f k < 0 ∧ k ∈ R then some (((e k).p, (e k).c), k) else none) = zs at aD2'
  have hzm : ∀ z ∈ zs, z.2 ∈ pl.knots ∧ net pl.ss f z.2 < 0 ∧ z.2 ∈ R := fun z hz => by
    rw [← hzs] at hz
    obtain ⟨k, hk, ek⟩ := List.mem_filterMap.mp hz
    split at ek
    · rename_i c
      rw [← Option.some.inj ek]
      exact ⟨hk, c.1, c.2⟩
    · cases ek
  have hzn : zs = [] → ∀ k ∈ pl.knots, k ∈ R → 0 ≤ net pl.ss f k := fun ez k hk hR => by
    by_cases c : net pl.ss f k < 0
    · have : (((e k).p, (e k).c), k) ∈ zs := by
        rw [← hzs]
        exact List.mem_filterMap.mpr ⟨k, hk, if_pos ⟨c, hR⟩⟩
      rw [ez] at this
      cases this
    · omega
  by_cases hz9 : zs = []
  · subst hz9
    cases aD2'
    refine iteT ?_
    walk_at "g"
    obtain ⟨k0, k1, k2⟩ := net_pos hpv hmn
    exact qx H8 S08 fun g hg hb => cut_none hm (fun s hs => ⟨(hopt s hs).lo, (hopt s hs).hi⟩) far.nd hRk (fun m h1 h2 => (far.cl m h1 h2).1) (fun k hk => hzn rfl k (hRk k hk) hk) ⟨k0, (far.SR k0 (List.mem_filter.mpr ⟨k1, decide_eq_true k2⟩)).1, k2⟩ hb hg
  cases us with
  | nil =>
    exfalso
    cases aD2'
    exact hz9 rfl
  | cons u us =>
    refine iteF ?_
    walk_at "g"
    intro t t2 z hz ht
    obtain ⟨zk, zn, zR⟩ := hzm z hz
    have at1 : atI [V.ref t2, V.str z.2] (1 : Int) = some (.str z.2) := atI_nat (j := 1) rfl
    have eeD : EntD H8 df2 R e := ee.same sm7
    have hRl : R.length ≤ 24 := Nat.le_trans (nodup_le far.nd hRk) hkl
    have hpr := far_preds far (by omega)
    walk_at "g"
    intro H9 wa way s s9 nwa ewa hsS hsR hsn hway
    obtain ⟨hsk, hsp⟩ := List.mem_filter.mp hsS
    have hsp := of_decide_eq_true hsp
    obtain ⟨vs, ewa1, ewa2⟩ := ewa.ex
    have hal : ∀ m ∈ way, ∃ s ∈ pl.ss, Along s m := fun m hmw => by
      obtain ⟨s, hs, o⟩ := hm.of m (List.mem_filter.mp (hway.mem m (List.mem_reverse.mpr hmw))).1
      exact ⟨s, hs, o.al⟩
    rcases snoc_cases way with ew | ⟨way0, m0, ew⟩
    · exfalso
      subst ew
      have : s = z.2 := hway.ch
      subst this
      omega
    subst ew
    obtain ⟨vs', v0, evs, t0, ev0, ht0⟩ := a2_last ewa2
    subst evs ev0
    have htl : m0.tail = s := by
      have := hway.ch
      rw [List.reverse_append] at this
      exact this.1
    subst htl
    have atl : atI (vs' ++ [V.ref t0]) (-1 : Int) = some (.ref t0) := atI_last _ _
    have S09 := S08.trans s9
    have hdv9 : Rd H9 dv (.dK (fdV pl.knots fun k => .int (net pl.ss f k))) := .inl (S09 _ _ hdv)
    walk_at "g"
    intro L0 n_L0; generalize hG : upd H9 L0 _ = H10; have s_H10 : Same H9 H10 := nw_same n_L0 hG; have e_L0 := nw_at hG; clear hG
    have ewa10 := s_H10 _ _ ewa1
    walk_at "g"
    intro D3 hD3
    have hwl : (way0 ++ [m0]).length ≤ 30 := by
      have nr := way_names hpv.nn hway.ch (fun m hmw => hal m (List.mem_reverse.mp hmw)) hway.rk.choose_spec
      have := nodup_le nr fun x hx => by
        obtain ⟨m, hm2, rfl⟩ := List.mem_map.mp hx
        obtain ⟨s, hs, a1, _⟩ := hal m (List.mem_reverse.mp hm2)
        rw [a1]
        exact (List.mem_map.mpr ⟨s, hs, rfl⟩ : s.name ∈ pl.names)
      rw [List.length_map, List.length_reverse] at this
      exact Nat.le_trans this hln
    refine lcV (LT.wk (m := moveV) (vs := vs' ++ [.ref t0]) (xs := way0 ++ [m0])) (fun m => some m.most) V.int hD3 ⟨lstOf ewa10, ewa2.imp fun x v => TupR.same s_H10⟩ (by omega) (fun i x v H' Ky Kn ex s _ hv ky kn => ?_) (fun H11 s11 eD3 => ?_)
    · obtain ⟨t, rfl, ht⟩ := hv
      walk_at "g"
      exact ky _ _ (Same.refl _) rfl
    rw [fm_map] at eD3
    have eL0 := s11 _ _ e_L0
    walk_at "g"
    · rw [List.length_map, List.length_map]
      exact Nat.le_of_lt (small1000 (by show 2 + _ ≤ _; omega))
    intro cl n_cl; generalize hG : upd H11 cl _ = H12; have s_H12 : Same H11 H12 := nw_same n_cl hG; have e_cl := nw_at hG; clear hG
    have e_c2 : H12 cl = some (.lst ((net pl.ss f m0.tail :: -(net pl.ss f z.2) :: (way0 ++ [m0]).map (·.most)).map V.int)) := e_cl
    walk_at "g"
    · exact Nat.succ_pos _
    intro amt hamt hle
    have S12 : Same H H12 := S09.trans (s_H10.trans (s11.trans s_H12))
    have S9_12 : Same H9 H12 := s_H10.trans (s11.trans s_H12)
    have hmost : ∀ m ∈ way0 ++ [m0], amt ≤ m.most := fun m hm => hle _ (List.mem_cons_of_mem _ (List.mem_cons_of_mem _ (List.mem_map.mpr ⟨m, hm, rfl⟩)))
    have hle1 : amt ≤ net pl.ss f m0.tail := hle _ List.mem_cons_self
    have hle2 : amt ≤ -(net pl.ss f z.2) := hle _ (List.mem_cons_of_mem _ List.mem_cons_self)
    have hpos2 : 0 < amt := by
      rcases List.mem_cons.mp hamt with e | hamt
      · omega
      · rcases List.mem_cons.mp hamt with e | hamt
        · omega
        · obtain ⟨m, hmw, em⟩ := List.mem_map.mp hamt
          obtain ⟨s, hs, o⟩ := hm.of m (List.mem_filter.mp (hway.mem m (List.mem_reverse.mpr hmw))).1
          have := o.mo
          omega
    obtain ⟨⟨π', o1⟩, o2, o3⟩ := push_fin hpv hst2 hopt hm far zk hway hpos2 hmost hle1 hle2
    have nam : ∀ m ∈ way0 ++ [m0], m.name ∈ pl.names ∧ (m.sign = 1 ∨ m.sign = -1) := fun m hmw => by
      obtain ⟨s, hs, a1, a2⟩ := hal m hmw
      refine ⟨?_, a2.imp (fun h => h.1) fun h => h.1⟩
      rw [a1]
      exact List.mem_map.mpr ⟨s, hs, rfl⟩
    walk_at "g"
    have hdf12 : IntD H12 df pl.names f := S12 _ _ hdf
    have hdv12 : IntD H12 dv pl.knots (net pl.ss f) := S12 _ _ hdv
    have ewa12 := S9_12 _ _ ewa1
    have nwf : wa ≠ df := ne_at ewa12 hdf12 (fun e => by cases e)
    refine ⟨forG (LT.wk (m := moveV) (vs := vs' ++ [.ref t0]) (xs := way0 ++ [m0])) (fun i σ H' => Hold (∃ y11 y12 y13, σ = [some (.ref p), some (.ref ds), some (.ref df), some (.ref dv), some (.ref a), some (.ref df2), some (.ref D2), some (.str z.2), some (.ref wa), some (.str m0.tail), some (.int amt), y11, y12, y13, none, none] ∧ SameE df H12 H' ∧ SameX ND H12 H' ∧ IntD H' df pl.names (pushes f amt ((way0 ++ [m0]).take i))))
      ⟨none, none, none, rfl, SameE.refl, SameX.refl, hdf12⟩ (fun i σ H' _ h => ?_) (fun i x v σ H' H'' ex h s5 hv => ?_) (fun σ H' h => ?_)⟩
    · obtain ⟨y11, y12, y13, rfl, t0, t1, t2⟩ := h.go
      exact ⟨lstOf (t0 _ _ nwf ewa12), A2.sx t1 (ewa2.imp fun x v => TupR.same S9_12)⟩
    · obtain ⟨y11, y12, y13, rfl, q0, q1, q2⟩ := h.go
      obtain ⟨t, rfl, ht⟩ := hv
      obtain ⟨h1, h2⟩ := nam x (List.mem_of_getElem? ex)
      have u0 : SameE df H12 H'' := q0.trans (.of s5)
      have u1 : SameX ND H12 H'' := q1.trans (.of s5)
      have u2 : IntD H'' df pl.names (pushes f amt ((way0 ++ [m0]).take i)) := s5 _ _ q2
      have u3 : Rd H'' df (.dK (fdV pl.names fun k => .int (pushes f amt ((way0 ++ [m0]).take i) k))) := .inl u2
      walk_at "g"
      exact ⟨_, _, _, rfl, u0.upd, u1.trans (sameX_dK u2), intD_upd fun k _ => by rw [take_snoc ex, pushes_snoc]⟩
    · obtain ⟨y11, y12, y13, rfl, q0, q1, q2⟩ := h.go
      rw [List.take_length] at q2
      have v1 : IntD H' dv pl.knots (net pl.ss f) := q0 _ _ hne.symm hdv12
      have v2 : Rd H' dv (.dK (fdV pl.knots fun k => .int (net pl.ss f k))) := .inl v1
      walk_at "g"
      refine q _ (pushes f amt (way0 ++ [m0])) π' (fun b o nb eb => ?_) ?_ ?_ o1 o3
      · rw [List.mem_cons, List.mem_cons, not_or, not_or] at nb
        rw [upd_ne nb.2.1, upd_ne nb.2.1]
        exact q0 _ _ nb.1 (S12 _ _ eb)
      · show upd _ _ _ df = _
        rw [upd_ne hne, upd_ne hne]
        exact q2
      · exact intD_upd fun k _ => by rw [up_step, o2 k]
end
end M
end
-- part W25
section
set_option Elab.async false
set_option linter.all false
set_option maxRecDepth 100000
set_option maxHeartbeats 4000000
namespace M
open PySem PySem.Spec PyProof.Rows L2
local macro_rules | `(tactic| walk_at "e") => `(tactic| (first
  | exact rfl
  | assumption
  | exact upd_same
  | exact flat_strs
  | exact fd_keys
  | ((with_reducible apply same_at); assumption; walk_at "f")
  | ((with_reducible apply at_upd); assumption; walk_at "f")
  | omega))
local macro_rules | `(tactic| walk_at "n") => `(tactic| (first
  | assumption
  | omega
  | exact Nat.le_of_lt (small1000 (by first | assumption | omega))
  | exact (Nat.zero_le _ : 0 ≤ sizeLine)
  | exact (by decide : 1 ≤ sizeLine)
  | exact (by decide : 2 ≤ sizeLine)
  | exact (by decide : 3 ≤ sizeLine)
  | exact (by decide : 5 ≤ sizeLine)
  | exact (by decide : 6 ≤ sizeLine)
  | (show _ < 1000; exact of_decide_eq_true rfl)
  | exact len2 (by omega) (by omega)
  | exact small1000 (by first | assumption | omega)))
local macro_rules | `(tactic| walk_at "f") => `(tactic| (first
  | with_reducible assumption
  | ((with_reducible apply gEq); walk_at "e")
  | ((with_reducible apply gLe); walk_at "n")
  | ((with_reducible apply gLt); walk_at "n")
  | ((with_reducible apply gNot); (first | assumption | omega))
  | with_reducible exact Same.refl _
  | ((with_reducible apply tupOf); walk_at "f")
  | ((with_reducible apply lstOf); walk_at "f")
  | ((with_reducible apply gCls); assumption)
  | ((with_reducible apply gNoAttr); assumption)
  | ((with_reducible apply gIsPl); assumption)
  | ((with_reducible apply gStL); assumption)
  | ((with_reducible apply gIntD); assumption)
  | ((with_reducible apply gSqT); assumption)
  | ((with_reducible apply gSqL); assumption)
  | ((with_reducible apply tyV_l); walk_at "f")
  | ((with_reducible apply Rd.of); walk_at "f")
  | ((with_reducible apply dget_ne); assumption; assumption)
  | ((with_reducible apply dget_fd) <;> walk_at "f")
  | ((with_reducible apply dput_int) <;> walk_at "f")
  | ((with_reducible apply dput_fd) <;> walk_at "f")
  | ((with_reducible apply rd_upd); assumption; walk_at "f")
  | ((with_reducible apply same_put); walk_at "f"; assumption)
  | ((with_reducible apply sx_upd) <;> walk_at "f")
  | ((with_reducible refine Same.trans ?_ (by assumption)); walk_at "f")
  | ((with_reducible apply cmulLg); omega; omega)
  | ((with_reducible apply cmulRg); omega; omega)
  | ((with_reducible apply SameE.upd); walk_at "f")
  | ((with_reducible apply StL.same); assumption; walk_at "f")
  | ((with_reducible apply LT.same); assumption; walk_at "f")
  | ((with_reducible apply IsP.same); assumption; walk_at "f")
  | ((with_reducible apply IsPl.same); assumption; walk_at "f")
  | ((with_reducible apply IntD.same); assumption; walk_at "f")
  | ((with_reducible apply PrD.same); assumption; walk_at "f")
  | ((with_reducible apply Or.inl); walk_at "f")
  | ((with_reducible apply Or.inr); walk_at "f")))
local macro_rules | `(tactic| walk_at "g") => `(tactic| repeat (first
  | with_reducible apply And.intro
  | with_reducible apply Exists.intro
  | walk_at "f"
  | ((with_reducible apply iteT); assumption)
  | ((with_reducible apply iteF); assumption)
  | ((with_reducible apply iteD); (first | assumption | omega))
  | ((with_reducible apply iteN); (first | assumption | omega))
  | ((with_reducible apply iteD2); (first | assumption | omega))
  | ((with_reducible apply iteN2); (first | assumption | omega))
  | apply And.intro
  | apply Exists.intro))
section
variable {P : Program} {w : World} {K : PySem.W.Frag} {mg : Str → Option Value} {base : Heap}
theorem notIn2 {a D Z : Addr} (h1 : a ≠ D) (h2 : a ≠ Z) : a ∉ [D, Z] := fun h => by
  rcases List.mem_cons.mp h with e | h
  · exact h1 e
  · exact h2 (List.mem_singleton.mp h)
def slB (rk : List Str) (rf : Str → Int × Int) (pk : List Str) (pr : Str → Int) (s : Strm) : Slp := ⟨s.low, s.high, if s.name ∈ rk then some (rf s.name) else none, if s.name ∈ pk then pr s.name else 0⟩
theorem slN_B {lim : Str → Int × Int} {rk pk : List Str} {rf : Str → Int × Int} {pr : Str → Int} {s : Strm} (h : lim s.name = (s.low, s.high)) : slN lim rk rf pk pr s.name = slB rk rf pk pr s := by
  unfold slN slB
  rw [h]
structure FlOk (c : Slp) (w m : Int) : Prop where
  a : ∃ k, IsTurn c k ∧ m = cst c k + w * k
  b : ∀ k, IsTurn c k → m ≤ cst c k + w * k
def intOf : V → Int
  | .int i => i
  | _ => 0
theorem choose_fdI {ks : List Str} {r : Str → V} {R : Str → Int → Prop} (h : ∀ n ∈ ks, ∃ q, r n = .int q ∧ R n q) : ∃ g : Str → Int, (∀ n ∈ ks, r n = .int (g n)) ∧ ∀ n ∈ ks, R n (g n) := by
  refine ⟨fun n => intOf (r n), fun n hn => ?_, fun n hn => ?_⟩
  · obtain ⟨q, e, _⟩ := h n hn
    show r n = .int (intOf (r n))
    rw [e]
    rfl
  · obtain ⟨q, e, x⟩ := h n hn
    show R n (intOf (r n))
    rw [e]
    exact x
structure LeastO (K : PySem.W.Frag) (H : Hp) (x : Addr) (pl : Plt) (f h : Str → Int) (cost : Int) (df dh : Addr) : Prop where
  ob : ∃ dx, H x = some (.ins (C_Least K) dx [("flows", .ref df), ("cost", .int cost), ("heights", .ref dh)])
  fl : IntD H df pl.names f
  he : IntD H dh pl.knots h
def sp_least_flows (K : PySem.W.Frag) : Sp := fun vs H Q E => ∃ p pl d rk rf dp pk pr, vs = [.ref p, .ref d, .ref dp, .non] ∧ IsPl K H p pl ∧ PV pl ∧ PrD H d rk rf ∧ RdV pl rk rf ∧ IntD H dp pk pr ∧ (∀ n ∈ rk, n ∈ pk ∧ 1 ≤ pr n ∧ pr n ≤ 1000000) ∧ (∀ n ∈ pk, n ∈ rk) ∧
  (∀ H' x f h df dh, Same H H' → LeastO K H' x pl f h (costN rk rf pr f) df dh → Poss pl f → (∀ g, Poss pl g → costN rk rf pr f ≤ costN rk rf pr g) →
    (∀ fl : Strm → Int, (∀ s ∈ pl.ss, FlOk (slB rk rf pk pr s) (h s.tail - h s.head) (fl s)) → (pl.ss.map fl).sum = costN rk rf pr f) → Q (.ref x) H') ∧
  (∀ H', Same H H' → (∀ g, ¬ Poss pl g) → E (.ref (C_NoFlows K)) none H')
theorem sc_least_flows : FnScope ["plant", "readings", "prices", "worst", "slopes", "flows", "over", "name", "tail", "head", "_", "found", "heights", "knot"] ["plant", "readings", "prices", "worst"] (defScope s_least_flows) := ⟨rfl, rfl, rfl, by decide +kernel, rfl, by decide +kernel, by decide +kernel⟩
theorem ok_least_flows (T : Tx K mg) : Has P w K mg base (L2.CX P w) 6 (A_least_flows K) ["plant", "readings", "prices", "worst"] [.non] (sp_least_flows K) := by
  obtain ⟨fd, F⟩ := T.F_least_flows
  obtain ⟨ds, hv, hb⟩ := F.binds0 (ps := ["plant", "readings", "prices", "worst"]) 3 (by simp) rfl (fun D doc pm an cdv ct us ks h1 h2 => match us, ks, h1, h2 with | [_, _, _], [_], _, _ => ⟨_, _, _, _, _, _, rfl, rfl, rfl⟩)
  refine ⟨fd, ds, F.ok sc_least_flows (fun vs H Q E h => by
    obtain ⟨_, _, _, _, _, _, _, _, rfl, _⟩ := h
    rfl) (fun cdv A outer s H vs Q E hr h => ?_), hb, hv, F.kp⟩
  obtain ⟨p, pl, d, rk, rf, dp, pk, pr, rfl, hP, hpv, hd, hv, hp, hk, hk2, q, qx⟩ := h
  obtain ⟨kl, sl, dx, hO⟩ := hP.ex
  have hob := hO.ob
  have hkl := hpv.kl
  have hsl := hpv.sl
  have hln := hpv.ln
  obtain ⟨r, hd1, hd2⟩ := hd.ex
  refine ⟨_, (pss_cons (ps_set (i := 4) sc_least_flows.nd rfl (Or.inr rfl) (hc (ok_slopes_of (K := K) T) (hr.mono (by decide)) T.g_slopes_of pass0 (pa_cons (pv 0) (pa_cons (pv 1) (pa_cons (pv 2) (pa_cons (pv 3) pa_nil))))))
      (pss_cons (psLockN 4 (ps_setDc (i := 5) (own := [("name", 7)]) (g := (gName 7)) rfl sc_least_flows.nd rfl rfl (sw_dict rfl rfl rfl (by decide +kernel)) (piKeys (pv 4)) (blkOk_by (own := [("name", 7)]) (N := ["plant", "readings", "prices", "worst", "slopes", "flows", "over", "name", "tail", "head", "_", "found", "heights", "knot"]) (sc := defScope s_least_flows) (by decide +kernel)) (fun _ _ _ _ _ => (pg_name (i := 7) sc_least_flows.nd rfl (Or.inl rfl))) (fun _ _ _ _ _ => pts_nil) (fun _ _ _ _ _ => (pv 7)) (fun _ _ _ _ _ => (hmeth0 (ok_Slope_first (K := K) T) (hr.mono (by decide)) T.c_Slope T.m_Slope_first pass0 (pe_dget (hu_of hr) (pv 4) (pv 7) (fun _ _ => rfl))))))
      (pss_cons (ps_setDc (i := 6) (own := [("knot", 13)]) (g := (gName 13)) rfl sc_least_flows.nd rfl rfl (sw_dict rfl rfl rfl (by decide +kernel)) (pi_list (hprop (ok_Plant_knots (K := K) T) (hr.mono (by decide)) T.c_Plant T.p_Plant_knots pass0 (pv 0))) (blkOk_by (own := [("knot", 13)]) (N := ["plant", "readings", "prices", "worst", "slopes", "flows", "over", "name", "tail", "head", "_", "found", "heights", "knot"]) (sc := defScope s_least_flows) (by decide +kernel)) (fun _ _ _ _ _ => (pg_name (i := 13) sc_least_flows.nd rfl (Or.inl rfl))) (fun _ _ _ _ _ => pts_nil) (fun _ _ _ _ _ => (pv 13)) (fun _ _ _ _ _ => (pe_int)))
      (pss_cons (psFor (passes_of rfl) rfl (pi_list (hprop (ok_Plant_streams (K := K) T) (hr.mono (by decide)) T.c_Plant T.p_Plant_streams pass0 (pv 0))) (pg_tup (by rfl) (pgs_cons (pg_name (i := 7) sc_least_flows.nd rfl (Or.inl rfl)) (pgs_cons (pg_name (i := 8) sc_least_flows.nd rfl (Or.inl rfl)) (pgs_cons (pg_name (i := 9) sc_least_flows.nd rfl (Or.inl rfl)) (pgs_cons (pg_name (i := 10) sc_least_flows.nd rfl (Or.inl rfl)) (pgs_cons (pg_name (i := 10) sc_least_flows.nd rfl (Or.inl rfl)) pgs_nil))))))
      (pss_cons (ps_daug (hu_of hr) (pv 6) (pv 8) (pe_dget (hu_of hr) (pv 5) (pv 7) (fun _ _ => rfl)) in_sub (fun _ _ _ => rfl))
      (pss_one (ps_daug (hu_of hr) (pv 6) (pv 9) (pe_dget (hu_of hr) (pv 5) (pv 7) (fun _ _ => rfl)) in_add (fun _ _ _ => rfl)))))
      (pss_cons (psWhl (passes_of rfl) (pt_val (pe_callB (cr_anyV rfl) (by rfl) T.b_any (by decide +kernel) (pa_cons (pe_view (pv 6)) pa_nil)))
      (pss_one (ps_expr (hc (ok_l_push (K := K) T) (hr.mono (by decide)) T.g_l_push (passes_call (takes_of rfl rfl rfl rfl) (fun _ _ _ _ h => h)) (pa_cons (pv 0) (pa_cons (pv 4) (pa_cons (pv 5) (pa_cons (pv 6) pa_nil))))))))
      (pss_cons (ps_set (i := 11) sc_least_flows.nd rfl (Or.inr rfl) (hc (ok_far_from (K := K) T) (hr.mono (by decide)) T.g_far_from pass0 (pa_cons (hprop (ok_Plant_knots (K := K) T) (hr.mono (by decide)) T.c_Plant T.p_Plant_knots pass0 (pv 0)) (pa_cons (hprop (ok_Plant_knots (K := K) T) (hr.mono (by decide)) T.c_Plant T.p_Plant_knots pass0 (pv 0)) (pa_cons (hc (ok_moves_of (K := K) T) (hr.mono (by decide)) T.g_moves_of pass0 (pa_cons (pv 0) (pa_cons (pv 4) (pa_cons (pv 5) pa_nil)))) pa_nil)))))
      (pss_cons (ps_setDc (i := 12) (own := [("knot", 13)]) (g := (gName 13)) rfl sc_least_flows.nd rfl rfl (sw_dict rfl rfl rfl (by decide +kernel)) (pi_list (hprop (ok_Plant_knots (K := K) T) (hr.mono (by decide)) T.c_Plant T.p_Plant_knots pass0 (pv 0))) (blkOk_by (own := [("knot", 13)]) (N := ["plant", "readings", "prices", "worst", "slopes", "flows", "over", "name", "tail", "head", "_", "found", "heights", "knot"]) (sc := defScope s_least_flows) (by decide +kernel)) (fun _ _ _ _ _ => (pg_name (i := 13) sc_least_flows.nd rfl (Or.inl rfl))) (fun _ _ _ _ _ => pts_nil) (fun _ _ _ _ _ => (pv 13)) (fun _ _ _ _ _ => (pe_ix ixT (pe_dget (hu_of hr) (pv 11) (pv 13) (fun _ _ => rfl)) (pe_int) (fun _ _ => rfl))))
      (pss_one (ps_ret (hmk (ok_Least_init (K := K) T) (hr.mono (by decide)) T.k_Least T.g_Least pass0 (pa_cons (pv 5) (pa_cons (hc (ok_cost_of (K := K) T) (hr.mono (by decide)) T.g_cost_of pass0 (pa_cons (pv 1) (pa_cons (pv 2) (pa_cons (pv 5) pa_nil)))) (pa_cons (pv 12) pa_nil))))))))))))), ?_⟩
  walk_at "g"
  intro H1 ds lim s1 nds hl hS
  have hT := slN_T hpv hv hk hk2 hl
  generalize hsw : slN lim rk rf pk pr = sw at hS hT
  have hTv : ∀ n ∈ pl.names, SlV (sw n) := fun n hn => (hT n hn).v
  obtain ⟨rs, hS1, hS2⟩ := hS.ex
  walk_at "g"
  intro od
  generalize hG : upd H1 ds _ = H0
  have e0 := nw_at hG
  have g2 : ∀ n ∈ pl.names, IsS K H0 (rs n) (sw n) := fun n hn => by
    obtain ⟨dx, v, i1, i2, i3⟩ := (hS2 n hn).ex
    refine ⟨dx, v, hG ▸ lock_ne hS1 i1 (fun e => by cases e), i2, fun r e => ?_⟩
    obtain ⟨t, j1, j2⟩ := i3 r e
    exact ⟨t, j1, hG ▸ lock_ne hS1 j2 (fun e => by cases e)⟩
  have s0 : ∀ {H'}, Same H0 H' → Same H1 (upd H' ds (.dK (fdV pl.names fun k => .ref (rs k)))) := fun s => same_unlock hS1 (hG ▸ s)
  have hfr : ∀ {b}, H0 b = none → H1 b = none := fun h => lock_free (hG ▸ h)
  clear hG
  walk_at "g"
  intro D hD
  refine dcKR (fun n v H => ∃ t, v = .int t ∧ IsTurn (sw n) t ∧ ∀ k, IsTurn (sw n) k → cst (sw n) t ≤ cst (sw n) k) (fun n v H H' m h => h) hpv.nn hD e0 (by omega) (fun n v H2 Ky Kn hn sm hfz hv2 ky => ?_) (fun H2 rr s2 eD aD => ?_)
  · subst hv2
    have u1 : Rd H2 ds (.dK (fdV pl.names fun k => .ref (rs k))) := .inr ⟨_, hfz⟩
    have u2 : IsS K H2 (rs n) (sw n) := (g2 n hn).same sm
    have u3 := hTv n hn
    obtain ⟨dxs, vss, u4, _⟩ := u2.ex
    walk_at "g"
    intro H3 t s3 ht1 ht2
    exact ky _ H3 s3 ⟨t, rfl, ht1, ht2⟩
  obtain ⟨f0, q1, q2⟩ := choose_fdI aD
  rw [fd_congr q1] at eD
  have f1 := s2 _ _ e0
  have hDd : D ≠ ds := (ne_of_none e0 hD).symm
  have sm2 := s0 s2
  have nD1 : H1 D = none := hfr hD
  have eD' := at_upd (o := .dK (fdV pl.names fun k => .ref (rs k))) hDd eD
  refine ⟨f1, ?_⟩
  generalize upd H2 ds _ = H3 at sm2 eD' ⊢
  have S03 : Same H H3 := s1.trans sm2
  have hP3 := hP.same S03
  walk_at "g"
  intro H4 kn s4 nkn ekn
  walk_at "g"
  intro Z hZ
  refine dcV (wk_listM (ys := pl.knots) (m := V.str)) kS (fun _ => V.int 0) (nodup_kS hpv.kn) hZ (lstOf ekn) (by omega) (fun i x v H' Ky Kn ex s _ hv3 ky => ?_) (fun H5 s5 eZ => ?_)
  · subst hv3
    walk_at "g"
    exact ky _ (Same.refl _)
  have nZ1 : H1 Z = none := (sm2.trans s4).free hZ
  have S05 : Same H H5 := S03.trans (s4.trans s5)
  have hP5 := hP.same S05
  walk_at "g"
  intro H6 sa s6 nsa esa
  obtain ⟨vs, esa1, esa2⟩ := esa.ex
  have nZ : H Z = none := s1.free nZ1
  have nD : H D = none := s1.free nD1
  have hDZ : D ≠ Z := ne_of_none (s4 _ _ eD') hZ
  have eD6 : IntD H6 D pl.names f0 := s6 _ _ (s5 _ _ (s4 _ _ eD'))
  have S16 : Same H1 H6 := sm2.trans (s4.trans (s5.trans s6))
  walk_at "g"
  refine ⟨forG (LT.wk (m := sV) (vs := vs) (xs := pl.ss)) (fun i σ H' => Hold (∃ y7 y8 y9 y10, σ = [some (.ref p), some (.ref d), some (.ref dp), some .non, some (.ref ds), some (.ref D), some (.ref Z), y7, y8, y9, y10, none, none, none] ∧ SameE Z H6 H' ∧ SameX ND H6 H' ∧ IntD H' Z pl.knots (net (pl.ss.take i) f0)))
    ⟨none, none, none, none, rfl, SameE.refl, SameX.refl, s6 _ _ eZ⟩ (fun i σ H' _ h => ?_) (fun i x v σ H' H'' ex h s7 hv3 => ?_) (fun σ H' h => ?_)⟩
  · obtain ⟨y7, y8, y9, y10, rfl, t1, t2, t3⟩ := h.go
    exact ⟨lstOf (t2 _ _ (fun ys e => by cases e) esa1), A2.sx t2 esa2⟩
  · obtain ⟨y7, y8, y9, y10, rfl, t1, t2, t3⟩ := h.go
    obtain ⟨t, rfl, ht⟩ := hv3
    have hx : x ∈ pl.ss := List.mem_of_getElem? ex
    have h1 := hpv.tk x hx
    have h2 := hpv.hk x hx
    have h3 : x.name ∈ pl.names := List.mem_map.mpr ⟨x, hx, rfl⟩
    have u0 : SameE Z H6 H'' := t1.trans (.of s7)
    have u1 : SameX ND H6 H'' := t2.trans (.of s7)
    have u3 := s7 _ _ t3
    have u4 : Rd H'' D (.dK (fdV pl.names fun k => .int (f0 k))) := .inl (u0 _ _ hDZ eD6)
    have u5 : Rd H'' Z (.dK (fdV pl.knots fun k => .int (net (pl.ss.take i) f0 k))) := .inl u3
    walk_at "g"
    exact ⟨_, _, _, _, rfl, u0.upd.upd, sx_upd (sx_upd u1 u3) upd_same, intD_upd fun k _ => by rw [up_step, take_snoc ex, net_snoc]⟩
  · obtain ⟨y7, y8, y9, y10, rfl, t1, t2, t3⟩ := h.go
    rw [List.take_length] at t3
    have hB : ∀ s ∈ pl.ss, sw s.name = slB rk rf pk pr s := fun s hs => by
      rw [← hsw]
      exact slN_B (hl s hs)
    have hst2 : ∀ s ∈ pl.ss, SlT (sw s.name) := fun s hs => hT _ (List.mem_map.mpr ⟨s, hs, rfl⟩)
    have hB0 : SameB [D, Z] H6 H' := fun b o nb e => t1 _ _ (fun z => nb (by rw [z]; exact List.mem_cons_of_mem _ List.mem_cons_self)) e
    walk_at "g"
    refine ⟨whileG (fun m σ H7 => Hold (∃ f π : Str → Int, σ = [some (.ref p), some (.ref d), some (.ref dp), some .non, some (.ref ds), some (.ref D), some (.ref Z), y7, y8, y9, y10, none, none, none] ∧ SameB [D, Z] H6 H7 ∧ IntD H7 D pl.names f ∧ IntD H7 Z pl.knots (net pl.ss f) ∧ Opt pl.ss sw π f ∧ m = (missN pl.knots pl.ss f).toNat)) _
      ⟨f0, fun _ => 0, rfl, hB0, t1 _ _ hDZ eD6, t3, opt_start hst2 fun s hs => q2 _ (List.mem_map.mpr ⟨s, hs, rfl⟩), rfl⟩ (fun m σ H7 h => ?_)⟩
    obtain ⟨f, π, rfl, b1, b2, b3, b4, rfl⟩ := h.go
    have S17 : Same H1 H7 := fun b o e => b1 b o (notIn2 (ne_of_none e nD1) (ne_of_none e nZ1)) (S16 _ _ e)
    have S07 : Same H H7 := s1.trans S17
    have hP7 := hP.same S07
    have hS7 : SlD K H7 ds pl.names sw := hS.same S17
    walk_at "g"
    intro vw n_vw; generalize hG : upd H7 vw _ = H8; have s_H8 : Same H7 H8 := nw_same n_vw hG; have e_vw := nw_at hG; clear hG
    have r8 : Rd H8 Z (.dK (fdV pl.knots fun k => .int (net pl.ss f k))) := .inl (s_H8 _ _ b3)
    have km : (fdV pl.knots fun k => .int (net pl.ss f k)).map Prod.snd = (pl.knots.map (net pl.ss f)).map V.int := by
      unfold fdV
      rw [List.map_map, List.map_map]
      rfl
    have hP8 := hP7.same s_H8
    have hS8 := hS7.same s_H8
    have d8 : IntD H8 D pl.names f := s_H8 _ _ b2
    have z8 : IntD H8 Z pl.knots (net pl.ss f) := s_H8 _ _ b3
    walk_at "g"
    cases hany : (pl.knots.map (net pl.ss f)).any (fun i => i != 0) with
    | true =>
      have hmn : missN pl.knots pl.ss f ≠ 0 := fun e => by
        have z := missN_zero hpv.kn hpv.tk hpv.hk e
        obtain ⟨x, hx, hx2⟩ := List.any_eq_true.mp hany
        obtain ⟨k, hk, rfl⟩ := List.mem_map.mp hx
        rw [z k hk] at hx2
        exact absurd hx2 (by decide)
      refine iteT ?_
      walk_at "g"
      · intro H9 f' π' sB d9 z9 o9 m9
        have n1 := missN_nn (ks := pl.knots) (l := pl.ss) (f := f')
        exact Dec.of (missN pl.knots pl.ss f').toNat (by omega) ⟨f', π', rfl, b1.trans ((SameB.of s_H8).trans sB), d9, z9, o9, rfl⟩
      · intro H9 s9 hno
        exact qx H9 (S07.trans (s_H8.trans s9)) fun g hg => hno g (fun s hs => by
          rw [hB s hs]
          exact ⟨hg.lo s hs, hg.hi s hs⟩) hg.bal
    | false =>
      have hbal : ∀ k ∈ pl.knots, net pl.ss f k = 0 := fun k hk => by
        have := List.any_eq_false.mp hany _ (List.mem_map.mpr ⟨k, hk, rfl⟩)
        simpa using this
      refine iteF ?_
      walk_at "g"
      intro H9 k1 s9 nk1 ek1
      have hP9 := hP8.same s9
      walk_at "g"
      intro H10 k2 s10 nk2 ek2
      have hP10 := hP9.same s10
      have hS10 := hS8.same (s9.trans s10)
      have d10 : IntD H10 D pl.names f := s10 _ _ (s9 _ _ d8)
      walk_at "g"
      intro H11 a ms s11 na ea hm
      have ek1' : StL H11 k1 pl.knots := s11 _ _ (s10 _ _ ek1)
      have ek2' : StL H11 k2 pl.knots := s11 _ _ ek2
      have hpos := opt_moves hst2 b4 hm
      have w1 := hpv.kn
      have w2 : ∀ s ∈ pl.knots, s ∈ pl.knots := fun s h => h
      have w3 : ∀ m ∈ ms, m.head ∈ pl.knots := fun m hm2 => by
        obtain ⟨s, hs, o⟩ := hm.of m hm2
        obtain ⟨_, a⟩ := o.al
        rcases a with ⟨_, _, e⟩ | ⟨_, _, e⟩ <;> rw [e]
        · exact hpv.hk s hs
        · exact hpv.tk s hs
      have w4 : ms.length ≤ 100 := by
        have := hm.len
        omega
      walk_at "g"
      intro H12 fd2 R e s12 nfd ee far hRk
      have S8_12 : Same H8 H12 := s9.trans (s10.trans (s11.trans s12))
      have S0_12 : Same H H12 := S07.trans (s_H8.trans S8_12)
      have hP12 := hP.same S0_12
      have hRa : ∀ k ∈ pl.knots, k ∈ R := fun k hk => (far.SR k hk).1
      walk_at "g"
      intro H13 k3 s13 nk3 ek3
      obtain ⟨r, ee1, ee2⟩ := (ee.same s13).ex
      walk_at "g"
      intro Y hY
      refine dcV (wk_listM (ys := pl.knots) (m := V.str)) kS (fun k => V.int (e k).p) (nodup_kS hpv.kn) hY (lstOf ek3) (by omega) (fun i x v H' Ky Kn ex s _ hv3 ky => ?_) (fun H14 s14 eY => ?_)
      · subst hv3
        have hx := hRa _ (List.mem_of_getElem? ex)
        have g1 : DGet H' fd2 (.str x) (some (.ref (r x))) := dget_fd (g := fun k => V.ref (r k)) (.inl (s _ _ ee1)) hx
        obtain ⟨v, g2, _⟩ := (ee2 x hx).same s
        walk_at "g"
        exact ky _ (Same.refl _)
      have S8_14 : Same H8 H14 := S8_12.trans (s13.trans s14)
      have S0_14 : Same H H14 := S07.trans (s_H8.trans S8_14)
      have hd14 := hd.same S0_14
      have hp14 := hp.same S0_14
      have d14 : IntD H14 D pl.names f := S8_14 _ _ d8
      have hk4 : ∀ n ∈ rk, n ∈ pk ∧ n ∈ pl.names ∧ 0 ≤ pr n ∧ pr n ≤ 1000000 := fun n hn => by
        obtain ⟨a1, a2, a3⟩ := hk n hn
        exact ⟨a1, hv.inN n hn, by omega, a3⟩
      have hrl : rk.length ≤ 100 := Nat.le_trans (hv.ln hpv) (by decide)
      walk_at "g"
      intro H15 s15
      have eY15 : IntD H15 Y pl.knots (fun k => (e k).p) := s15 _ _ eY
      have d15 : H15 D = some (.dK (fdV pl.names fun k => .int (f k))) := s15 _ _ d14
      walk_at "g"
      intro x dx nx ndx nex
      have eY15' : H15 Y = some (.dK (fdV pl.knots fun k => .int (e k).p)) := eY15
      have g1 : D ≠ x := ne_of_none d15 nx
      have g2 : D ≠ dx := ne_of_none d15 ndx
      have g3 : Y ≠ x := ne_of_none eY15' nx
      have g4 : Y ≠ dx := ne_of_none eY15' ndx
      walk_at "g"
      intro H16 d' e' sE nd' ne' eo ed ee9
      have oN := opt_new (π' := fun k => (e k).p) hst2 b4 hm fun m hm2 => by
        have t1 : m.tail ∈ pl.knots := by
          obtain ⟨s, hs, o⟩ := hm.of m hm2
          obtain ⟨_, a⟩ := o.al
          rcases a with ⟨_, e, _⟩ | ⟨_, e, _⟩ <;> rw [e]
          · exact hpv.tk s hs
          · exact hpv.hk s hs
        have := (far.cl m hm2 (hRa _ t1)).2
        omega
      have hcs : ∀ g : Str → Int, (pl.ss.map fun s => cst (sw s.name) (g s.name)).sum = costN rk rf pr g := fun g => by
        rw [← hsw]
        exact cost_slopes hpv hv fun n hn => (hk n hn).1
      have S0_16 : Same H H16 := (S0_14.trans s15).trans (made nx ndx sE)
      refine ⟨rfl, q H16 x f (fun k => (e k).p) d' e' S0_16 ⟨⟨dx, eo⟩, ed, ee9⟩ ⟨fun s hs => ?_, fun s hs => ?_, hbal⟩ (fun g hg => ?_) (fun fl hfl => ?_)⟩
      · have := (b4 s hs).lo
        rw [hB s hs] at this
        exact this
      · have := (b4 s hs).hi
        rw [hB s hs] at this
        exact this
      · rw [← hcs f, ← hcs g]
        exact opt_least hpv.kn hpv.tk hpv.hk b4 hbal hg.bal fun s hs => by
          rw [hB s hs]
          exact ⟨hg.lo s hs, hg.hi s hs⟩
      · rw [← hcs f, ← floors_sum (π := fun k => (e k).p) hpv.kn hpv.tk hpv.hk hbal]
        refine sum_cong fun s hs => ?_
        have q := hfl s hs
        rw [← hB s hs] at q
        exact opt_floor (hst2 s hs) (oN s hs) q.a q.b
end
end M
end
-- part W26
section
set_option Elab.async false
set_option linter.all false
set_option maxRecDepth 100000
set_option maxHeartbeats 4000000
namespace M
open PySem PySem.Spec PyProof.Rows L2
local macro_rules | `(tactic| walk_at "e") => `(tactic| (first
  | exact rfl
  | assumption
  | exact upd_same
  | exact flat_strs
  | exact fd_keys
  | ((with_reducible apply same_at); assumption; walk_at "f")
  | ((with_reducible apply at_upd); assumption; walk_at "f")
  | omega))
local macro_rules | `(tactic| walk_at "n") => `(tactic| (first
  | assumption
  | omega
  | exact Nat.le_of_lt (small1000 (by first | assumption | omega))
  | exact (Nat.zero_le _ : 0 ≤ sizeLine)
  | exact (by decide : 1 ≤ sizeLine)
  | exact (by decide : 2 ≤ sizeLine)
  | exact (by decide : 3 ≤ sizeLine)
  | exact (by decide : 5 ≤ sizeLine)
  | exact (by decide : 6 ≤ sizeLine)
  | (show _ < 1000; exact of_decide_eq_true rfl)
  | exact len2 (by omega) (by omega)
  | exact small1000 (by first | assumption | omega)))
local macro_rules | `(tactic| walk_at "f") => `(tactic| (first
  | with_reducible assumption
  | ((with_reducible apply gEq); walk_at "e")
  | ((with_reducible apply gLe); walk_at "n")
  | ((with_reducible apply gLt); walk_at "n")
  | ((with_reducible apply gNot); (first | assumption | omega))
  | with_reducible exact Same.refl _
  | ((with_reducible apply tupOf); walk_at "f")
  | ((with_reducible apply lstOf); walk_at "f")
  | ((with_reducible apply gCls); assumption)
  | ((with_reducible apply gNoAttr); assumption)
  | ((with_reducible apply gIsPl); assumption)
  | ((with_reducible apply gStL); assumption)
  | ((with_reducible apply gIntD); assumption)
  | ((with_reducible apply gSqT); assumption)
  | ((with_reducible apply gSqL); assumption)
  | ((with_reducible apply tyV_l); walk_at "f")
  | ((with_reducible apply Rd.of); walk_at "f")
  | ((with_reducible apply dget_ne); assumption; assumption)
  | ((with_reducible apply dget_fd) <;> walk_at "f")
  | ((with_reducible apply dput_int) <;> walk_at "f")
  | ((with_reducible apply dput_fd) <;> walk_at "f")
  | ((with_reducible apply rd_upd); assumption; walk_at "f")
  | ((with_reducible apply same_put); walk_at "f"; assumption)
  | ((with_reducible apply sx_upd) <;> walk_at "f")
  | ((with_reducible refine Same.trans ?_ (by assumption)); walk_at "f")
  | ((with_reducible apply cmulLg); omega; omega)
  | ((with_reducible apply cmulRg); omega; omega)
  | ((with_reducible apply SameE.upd); walk_at "f")
  | ((with_reducible apply StL.same); assumption; walk_at "f")
  | ((with_reducible apply LT.same); assumption; walk_at "f")
  | ((with_reducible apply IsP.same); assumption; walk_at "f")
  | ((with_reducible apply IsPl.same); assumption; walk_at "f")
  | ((with_reducible apply IntD.same); assumption; walk_at "f")
  | ((with_reducible apply PrD.same); assumption; walk_at "f")
  | ((with_reducible apply Or.inl); walk_at "f")
  | ((with_reducible apply Or.inr); walk_at "f")))
local macro_rules | `(tactic| walk_at "g") => `(tactic| repeat (first
  | with_reducible apply And.intro
  | with_reducible apply Exists.intro
  | walk_at "f"
  | ((with_reducible apply iteT); assumption)
  | ((with_reducible apply iteF); assumption)
  | ((with_reducible apply iteD); (first | assumption | omega))
  | ((with_reducible apply iteN); (first | assumption | omega))
  | ((with_reducible apply iteD2); (first | assumption | omega))
  | ((with_reducible apply iteN2); (first | assumption | omega))
  | apply And.intro
  | apply Exists.intro))
section
variable {P : Program} {w : World} {K : PySem.W.Frag} {mg : Str → Option Value} {base : Heap}
theorem a2_keys {H : Hp} {fl : Strm → Int} : ∀ {l : List Strm} {kvs : List (Key × V)}, A2 (fun s (kv : Key × V) => ∃ t z, kv = (kS s.name, .ref t) ∧ H t = some (.tup [.int (fl s), z])) l kvs → kvs.map (·.1) = l.map fun s => kS s.name
  | _, _, .nil => rfl
  | _, _, .cons ⟨t, z, e, _⟩ r => by rw [List.map_cons, List.map_cons, a2_keys r, e]
theorem take_notin {l : List Strm} {i : Nat} {x : Strm} (n : (l.map (·.name)).Nodup) (e : l[i]? = some x) : ∀ s ∈ l.take i, s.name ≠ x.name := fun s hs z => by
  obtain ⟨j, hj, ej⟩ := List.mem_take_iff_getElem.mp hs
  have hi := (List.getElem?_eq_some_iff.mp e)
  have hi1 := hi.1
  have h1 : j < (l.map (·.name)).length := by rw [List.length_map]; omega
  have h2 : i < (l.map (·.name)).length := by rw [List.length_map]; omega
  refine List.pairwise_iff_getElem.mp n j i h1 h2 (by omega) ?_
  rw [List.getElem_map, List.getElem_map, ej, hi.2, z]
def sp_floors_of (K : PySem.W.Frag) : Sp := fun vs H Q _ => ∃ p pl ds dh sl g, vs = [.ref p, .ref ds, .ref dh] ∧ IsPl K H p pl ∧ PV pl ∧ SlD K H ds pl.names sl ∧ (∀ n ∈ pl.names, SlV (sl n)) ∧ IntD H dh pl.knots g ∧
  ∀ H' a, ∀ fl : Strm → Int, ∀ rs : List Addr, Same H H' → H a = none → (∀ s ∈ pl.ss, FlOk (sl s.name) (g s.tail - g s.head) (fl s)) → ∀ kvs : List (Key × V), H' a = some (.dK kvs) → A2 (fun s (kv : Key × V) => ∃ t z, kv = (kS s.name, .ref t) ∧ H' t = some (.tup [.int (fl s), z])) pl.ss kvs → Q (.ref a) H'
theorem sc_floors_of : FnScope ["plant", "slopes", "heights", "found", "name", "tail", "head", "_", "charges", "floor", "charge", "turn"] ["plant", "slopes", "heights"] (defScope s_floors_of) := ⟨rfl, rfl, rfl, by decide +kernel, rfl, by decide +kernel, by decide +kernel⟩
theorem ok_floors_of (T : Tx K mg) : Has P w K mg base CX0 4 (A_floors_of K) ["plant", "slopes", "heights"] [] (sp_floors_of K) := by
  obtain ⟨fd, F⟩ := T.F_floors_of
  refine ⟨fd, [], F.ok sc_floors_of (fun vs H Q E h => by
    obtain ⟨_, _, _, _, _, _, rfl, _⟩ := h
    rfl) (fun cdv A outer s H vs Q E hr h => ?_), F.bindsN (fun _ _ _ _ _ _ us hl => match us, hl with | [_, _, _], _ => rfl), .nil, F.kp⟩
  obtain ⟨p, pl, ds, dh, sw, g, rfl, hP, hpv, hds, hsv, hdh, q⟩ := h
  obtain ⟨kl, sl, dx, hO⟩ := hP.ex
  have hob := hO.ob
  have hkl := hpv.kl
  have hsl := hpv.sl
  have hln := hpv.ln
  obtain ⟨r, hd1, hd2⟩ := hds.ex
  refine ⟨_, (pss_cons (ps_set (i := 3) sc_floors_of.nd rfl (Or.inl rfl) (pe_dnewK))
      (pss_cons (psFor (passes_of rfl) rfl (pi_list (hprop (ok_Plant_streams (K := K) T) (hr.mono (by decide)) T.c_Plant T.p_Plant_streams pass0 (pv 0))) (pg_tup (by rfl) (pgs_cons (pg_name (i := 4) sc_floors_of.nd rfl (Or.inl rfl)) (pgs_cons (pg_name (i := 5) sc_floors_of.nd rfl (Or.inl rfl)) (pgs_cons (pg_name (i := 6) sc_floors_of.nd rfl (Or.inl rfl)) (pgs_cons (pg_name (i := 7) sc_floors_of.nd rfl (Or.inl rfl)) (pgs_cons (pg_name (i := 7) sc_floors_of.nd rfl (Or.inl rfl)) pgs_nil))))))
      (pss_cons (ps_set (i := 8) sc_floors_of.nd rfl (Or.inl rfl) (hmeth (ok_Slope_charges (K := K) T) (hr.mono (by decide)) T.c_Slope T.m_Slope_charges pass0 (pe_dget (hu_of hr) (pv 1) (pv 4) (fun _ _ => rfl)) (pa_cons (pe_op op_sub (pe_dget (hu_of hr) (pv 2) (pv 5) (fun _ _ => rfl)) (pe_dget (hu_of hr) (pv 2) (pv 6) (fun _ _ => rfl))) pa_nil)))
      (pss_cons (ps_set (i := 9) sc_floors_of.nd rfl (Or.inr rfl) (pe_ix ixT (pe_callB (cr_minPr rfl (hu_min hr (by decide))) (by rfl) T.b_min (by decide +kernel) (pa_cons (pv 8) pa_nil)) (pe_int) (fun _ _ => rfl)))
      (pss_one (ps_dput (hu_of hr) (pv 3) (pv 4) (pe_tup (pa_cons (pv 9) (pa_cons (pe_lc (own := [("charge", 10), ("turn", 11)]) (g := (gTup K 2 (gCons (gName 10) (gCons (gName 11) gNil)))) rfl sc_floors_of.nd (pi_list (pv 8)) (blkOk_by (own := [("charge", 10), ("turn", 11)]) (N := ["plant", "slopes", "heights", "found", "name", "tail", "head", "_", "charges", "floor", "charge", "turn"]) (sc := defScope s_floors_of) (by decide +kernel)) (fun _ _ _ _ _ => (pg_tup (by rfl) (pgs_cons (pg_name (i := 10) sc_floors_of.nd rfl (Or.inl rfl)) (pgs_cons (pg_name (i := 11) sc_floors_of.nd rfl (Or.inl rfl)) pgs_nil)))) (fun _ _ _ _ _ => (pts_one (pt_cmpR op_eq (pv 10) (pv 9) (nomark _)))) (fun _ _ _ _ _ => (pv 11))) pa_nil))) rfl)))))
      (pss_one (ps_ret (pv 3))))), ?_⟩
  walk_at "g"
  intro D n_D; generalize hG : upd H D _ = H1; have s_H1 : Same H H1 := nw_same n_D hG; have e_D := nw_at hG; clear hG
  have hP1 := hP.same s_H1
  walk_at "g"
  intro H3 a s3 na ea
  obtain ⟨vs, ea1, ea2⟩ := ea.ex
  have e3 := s3 _ _ e_D
  walk_at "g"
  refine ⟨forG (LT.wk (m := sV) (vs := vs) (xs := pl.ss)) (fun i σ H' => Hold (∃ y4 y5 y6 y7 y8 y9, ∃ fl : Strm → Int, ∃ kvs : List (Key × V), σ = [some (.ref p), some (.ref ds), some (.ref dh), some (.ref D), y4, y5, y6, y7, y8, y9, none, none] ∧ Same H H' ∧ SameX ND H3 H' ∧ H' D = some (.dK kvs) ∧ (∀ s ∈ pl.ss.take i, FlOk (sw s.name) (g s.tail - g s.head) (fl s)) ∧ A2 (fun s (kv : Key × V) => ∃ t z, kv = (kS s.name, .ref t) ∧ H' t = some (.tup [.int (fl s), z])) (pl.ss.take i) kvs))
    ⟨none, none, none, none, none, none, fun _ => 0, [], rfl, s_H1.trans s3, SameX.refl, e3, (fun s h => nomatch h), .nil⟩ (fun i σ H' _ h => ?_) (fun i x v σ H' H'' ex h s5 hv2 => ?_) (fun σ H' h => ?_)⟩
  · obtain ⟨y4, y5, y6, y7, y8, y9, fl, kvs, rfl, t1, t2, t3, t4, t5⟩ := h.go
    exact ⟨lstOf (t2 _ _ (fun ys e => by cases e) ea1), A2.sx t2 ea2⟩
  · obtain ⟨y4, y5, y6, y7, y8, y9, fl, kvs, rfl, t1, t2, t3, t4, t5⟩ := h.go
    obtain ⟨t, rfl, ht⟩ := hv2
    have hx : x ∈ pl.ss := List.mem_of_getElem? ex
    have hxn : x.name ∈ pl.names := List.mem_map.mpr ⟨x, hx, rfl⟩
    have h1 := hpv.tk x hx
    have h2 := hpv.hk x hx
    have u1 : Same H H'' := t1.trans s5
    have u2 : Rd H'' ds (.dK (fdV pl.names fun k => .ref (r k))) := .inl (u1 _ _ hd1)
    have u3 : IsS K H'' (r x.name) (sw x.name) := (hd2 _ hxn).same u1
    have u4 : Rd H'' dh (.dK (fdV pl.knots fun k => .int (g k))) := .inl (u1 _ _ hdh)
    have u5 := hsv _ hxn
    have u6 : SameX ND H3 H'' := t2.trans (.of s5)
    have u7 := s5 _ _ t3
    obtain ⟨dxs, vss, u8, _⟩ := u3.ex
    walk_at "g"
    intro H4 b ts s6 hts htl eb
    obtain ⟨us, eb1, eb2⟩ := eb.ex
    have hne : (ts.map fun t => (cst (sw x.name) t + (g x.tail - g x.head) * t, t)) ≠ [] := fun e => by
      have := (hts (sw x.name).low).mpr (.inl rfl)
      rw [List.map_eq_nil_iff.mp e] at this
      cases this
    walk_at "g"
    intro t2 z hz hmin ht2
    have at0 : atI [V.int z.1, V.int z.2] (0 : Int) = some (.int z.1) := atI_nat (j := 0) rfl
    walk_at "g"
    intro L hL
    refine lcG (LT.wk (m := prV) (vs := us) (xs := ts.map fun t => (cst (sw x.name) t + (g x.tail - g x.head) * t, t))) (fun y => if V.int y.1 = V.int z.1 then some y.2 else none) (fun y v _ => v = .int y) (fun b v H H' s h => h) hL ⟨lstOf eb1, eb2⟩ (by rw [List.length_map]; omega) (fun j y v H6 Ky Kn ey sm _ hv3 ky kn => ?_) (fun H6 ys s7 eL _ => ?_)
    · obtain ⟨ty, rfl, hty⟩ := hv3
      walk_at "g"
      refine ite_d (fun c => ?_) (fun c => ?_)
      · walk_at "g"
        exact ky _ _ _ (Same.refl _) (if_pos c) rfl
      · walk_at "g"
        exact kn _ (Same.refl _) (if_neg c)
    walk_at "g"
    intro W n_W; generalize hG : upd H6 W _ = H7; have s_H7 : Same H6 H7 := nw_same n_W hG; have e_W := nw_at hG; clear hG
    have b1 : Same H'' H7 := s6.trans (s7.trans s_H7)
    have b2 : SameX ND H3 H7 := u6.trans (.of b1)
    have b3 := b1 _ _ u7
    have hkl9 : kvs.length ≤ 30 := by
      rw [t5.length, List.length_take]
      omega
    have hkn : kS x.name ∉ kvs.map (·.1) := fun z => by
      rw [a2_keys t5] at z
      obtain ⟨s, hs, e⟩ := List.mem_map.mp z
      exact take_notin hpv.nn ex s hs (kS_inj e)
    have hput : DPut H7 D (.str x.name) (.ref W) (upd H7 D (.dK (kvs ++ [(kS x.name, .ref W)]))) := .inl ⟨_, kS x.name, b3, rfl, small1000 (by omega), by rw [putK_new hkn]⟩
    walk_at "g"
    have hxs : ∀ s ∈ pl.ss.take i, s.name ≠ x.name := take_notin hpv.nn ex
    refine ⟨_, _, _, _, _, _, fun s => if s.name = x.name then z.1 else fl s, kvs ++ [(kS x.name, .ref W)], rfl, same_put (u1.trans b1) n_D, b2.trans (sameX_dK b3), upd_same, fun s hs => ?_, ?_⟩
    · rw [take_snoc ex] at hs
      rcases List.mem_append.mp hs with hs | hs
      · show FlOk _ _ (if s.name = x.name then z.1 else fl s)
        rw [if_neg (hxs s hs)]
        exact t4 s hs
      · rw [List.mem_singleton.mp hs]
        show FlOk _ _ (if x.name = x.name then z.1 else fl x)
        rw [if_pos rfl]
        obtain ⟨k, hk, ek⟩ := List.mem_map.mp hz
        refine ⟨⟨k, (hts k).mp hk, ?_⟩, fun k hk => ?_⟩
        · rw [← ek]
        · exact hmin _ (List.mem_map.mpr ⟨k, (hts k).mpr hk, rfl⟩)
    · rw [take_snoc ex]
      have keep : ∀ t v, H'' t = some (.tup v) → upd H7 D (.dK (kvs ++ [(kS x.name, .ref W)])) t = some (.tup v) := fun t v e => at_upd (ne_at (b1 _ _ e) b3 (fun e => by cases e)) (b1 _ _ e)
      have m1 : ∀ {l : List Strm} {ks : List (Key × V)}, (∀ s ∈ l, s.name ≠ x.name) → A2 (fun s (kv : Key × V) => ∃ t z, kv = (kS s.name, .ref t) ∧ H' t = some (.tup [.int (fl s), z])) l ks → A2 (fun s (kv : Key × V) => ∃ t z', kv = (kS s.name, .ref t) ∧ upd H7 D (.dK (kvs ++ [(kS x.name, .ref W)])) t = some (.tup [.int (if s.name = x.name then z.1 else fl s), z'])) l ks := by
        intro l ks hl a
        induction a with
        | nil => exact .nil
        | cons r t ih =>
          obtain ⟨t0, z0, e0, h0⟩ := r
          refine .cons ⟨t0, z0, e0, ?_⟩ (ih fun s hs => hl s (List.mem_cons_of_mem _ hs))
          rw [if_neg (hl _ List.mem_cons_self)]
          exact keep _ _ (s5 _ _ h0)
      exact (m1 hxs t5).snoc ⟨W, _, rfl, by rw [if_pos rfl]; exact at_upd (ne_at e_W b3 (fun e => by cases e)) e_W⟩
  · obtain ⟨y4, y5, y6, y7, y8, y9, fl, kvs, rfl, t1, t2, t3, t4, t5⟩ := h.go
    rw [List.take_length] at t4 t5
    walk_at "g"
    exact q H' D fl [] t1 n_D t4 kvs t3 t5
end
end M
end
-- part W27
section
set_option Elab.async false
set_option linter.all false
set_option maxRecDepth 100000
set_option maxHeartbeats 4000000
namespace M
open PySem PySem.Spec PyProof.Rows L2
local macro_rules | `(tactic| walk_at "e") => `(tactic| (first
  | exact rfl
  | assumption
  | exact upd_same
  | exact flat_strs
  | exact fd_keys
  | ((with_reducible apply same_at); assumption; walk_at "f")
  | ((with_reducible apply at_upd); assumption; walk_at "f")
  | omega))
local macro_rules | `(tactic| walk_at "n") => `(tactic| (first
  | assumption
  | omega
  | exact Nat.le_of_lt (small1000 (by first | assumption | omega))
  | exact (Nat.zero_le _ : 0 ≤ sizeLine)
  | exact (by decide : 1 ≤ sizeLine)
  | exact (by decide : 2 ≤ sizeLine)
  | exact (by decide : 3 ≤ sizeLine)
  | exact (by decide : 5 ≤ sizeLine)
  | exact (by decide : 6 ≤ sizeLine)
  | (show _ < 1000; exact of_decide_eq_true rfl)
  | exact len2 (by omega) (by omega)
  | exact small1000 (by first | assumption | omega)))
local macro_rules | `(tactic| walk_at "f") => `(tactic| (first
  | with_reducible assumption
  | ((with_reducible apply gEq); walk_at "e")
  | ((with_reducible apply gLe); walk_at "n")
  | ((with_reducible apply gLt); walk_at "n")
  | ((with_reducible apply gNot); (first | assumption | omega))
  | with_reducible exact Same.refl _
  | ((with_reducible apply tupOf); walk_at "f")
  | ((with_reducible apply lstOf); walk_at "f")
  | ((with_reducible apply gCls); assumption)
  | ((with_reducible apply gNoAttr); assumption)
  | ((with_reducible apply gIsPl); assumption)
  | ((with_reducible apply gStL); assumption)
  | ((with_reducible apply gIntD); assumption)
  | ((with_reducible apply gSqT); assumption)
  | ((with_reducible apply gSqL); assumption)
  | ((with_reducible apply tyV_l); walk_at "f")
  | ((with_reducible apply Rd.of); walk_at "f")
  | ((with_reducible apply dget_ne); assumption; assumption)
  | ((with_reducible apply dget_fd) <;> walk_at "f")
  | ((with_reducible apply dput_int) <;> walk_at "f")
  | ((with_reducible apply dput_fd) <;> walk_at "f")
  | ((with_reducible apply rd_upd); assumption; walk_at "f")
  | ((with_reducible apply same_put); walk_at "f"; assumption)
  | ((with_reducible apply sx_upd) <;> walk_at "f")
  | ((with_reducible refine Same.trans ?_ (by assumption)); walk_at "f")
  | ((with_reducible apply cmulLg); omega; omega)
  | ((with_reducible apply cmulRg); omega; omega)
  | ((with_reducible apply SameE.upd); walk_at "f")
  | ((with_reducible apply StL.same); assumption; walk_at "f")
  | ((with_reducible apply LT.same); assumption; walk_at "f")
  | ((with_reducible apply IsP.same); assumption; walk_at "f")
  | ((with_reducible apply IsPl.same); assumption; walk_at "f")
  | ((with_reducible apply IntD.same); assumption; walk_at "f")
  | ((with_reducible apply PrD.same); assumption; walk_at "f")
  | ((with_reducible apply Or.inl); walk_at "f")
  | ((with_reducible apply Or.inr); walk_at "f")))
local macro_rules | `(tactic| walk_at "g") => `(tactic| repeat (first
  | with_reducible apply And.intro
  | with_reducible apply Exists.intro
  | walk_at "f"
  | ((with_reducible apply iteT); assumption)
  | ((with_reducible apply iteF); assumption)
  | ((with_reducible apply iteD); (first | assumption | omega))
  | ((with_reducible apply iteN); (first | assumption | omega))
  | ((with_reducible apply iteD2); (first | assumption | omega))
  | ((with_reducible apply iteN2); (first | assumption | omega))
  | apply And.intro
  | apply Exists.intro))
section
variable {P : Program} {w : World} {K : PySem.W.Frag} {mg : Str → Option Value} {base : Heap}
theorem ltc_le {a b : Str} (h : ltCps b.cps.toList a.cps.toList = false) : a.cps.toList ≤ b.cps.toList := by
  rw [ltCps_eq] at h
  exact List.not_lt.mp (of_decide_eq_false h)
theorem rising_pw : ∀ {r : List Str} {x : Str}, risingS x r = true → (x :: r).Pairwise (fun a b => a.cps.toList ≤ b.cps.toList)
  | [], x, _ => List.pairwise_singleton ..
  | y :: r, x, h => by
    have h : (!ltCps y.cps.toList x.cps.toList && risingS y r) = true := h
    rw [Bool.and_eq_true] at h
    have ih := rising_pw h.2
    have h1 : x.cps.toList ≤ y.cps.toList := ltc_le (by simpa using h.1)
    refine List.pairwise_cons.mpr ⟨fun z hz => ?_, ih⟩
    rcases List.mem_cons.mp hz with e | hz
    · rw [e]
      exact h1
    · exact List.le_trans h1 (List.rel_of_pairwise_cons ih hz)
theorem sorted_unique {l l' : List Str} (p : l.Perm l') (h : sortedS l = true) (h' : sortedS l' = true) : l = l' := by
  have pw : ∀ {l : List Str}, sortedS l = true → l.Pairwise (fun a b => a.cps.toList ≤ b.cps.toList) := fun {l} h => by
    cases l with
    | nil => exact .nil
    | cons x r => exact rising_pw h
  refine List.Perm.eq_of_pairwise (fun a b _ _ h1 h2 => ?_) (pw h) (pw h') p
  have := List.le_antisymm h1 h2
  cases a
  cases b
  simp_all
theorem Wk.via {α β : Type} {J : It} {St : Hp → Prop} {xs : List β} {ys : List α} {val : β → V → Hp → Prop} {rel : α → β → Prop} (wk : Wk J St xs val) (a : A2 rel ys xs) : Wk J St ys (fun y v H => ∃ x, rel y x ∧ val x v H) where
  keep := wk.keep
  go := fun i y H h e => by
    obtain ⟨x, ex, _⟩ := a.get e
    exact wk.go i x H h ex
  stop := fun i H h e => wk.stop i H h (by rw [a.length]; exact e)
  yld := fun i y H v H' h e z => by
    obtain ⟨x, ex, r⟩ := a.get e
    obtain ⟨s, hv⟩ := wk.yld i x H v H' h ex z
    exact ⟨s, x, r, hv⟩
def sp_bound_of (K : PySem.W.Frag) : Sp := fun vs H Q _ => ∃ p pl d rk rf dp pk pr dh g, vs = [.ref p, .ref d, .ref dp, .ref dh, .non] ∧ IsPl K H p pl ∧ PV pl ∧ PrD H d rk rf ∧ RdV pl rk rf ∧ IntD H dp pk pr ∧ (∀ n ∈ rk, n ∈ pk ∧ 1 ≤ pr n ∧ pr n ≤ 1000000) ∧ (∀ n ∈ pk, n ∈ rk) ∧ IntD H dh pl.knots g ∧
  ∀ H', ∀ fl : Strm → Int, Same H H' → (∀ s ∈ pl.ss, FlOk (slB rk rf pk pr s) (g s.tail - g s.head) (fl s)) → Q (.int (pl.ss.map fl).sum) H'
theorem sc_bound_of : FnScope ["plant", "readings", "prices", "heights", "worst", "slopes", "floor", "_"] ["plant", "readings", "prices", "heights", "worst"] (defScope s_bound_of) := ⟨rfl, rfl, rfl, by decide +kernel, rfl, by decide +kernel, by decide +kernel⟩
theorem ok_bound_of (T : Tx K mg) : HasK P w K mg base CX0 6 (A_bound_of K) ["plant", "readings", "prices", "heights", "worst"] 4 ["worst"] (fun vs zs => vs ++ zs) (sp_bound_of K) := by
  obtain ⟨fd, F⟩ := T.F_bound_of
  obtain ⟨mv, hb⟩ := F.kbinds0 (ps := ["plant", "readings", "prices", "heights", "worst"]) 4 ["worst"] [] (fun vs mz zs => vs ++ zs) (by simp) (fun q h => nomatch h) (fun r1 _ r3 => r1.append r3) (fun D doc pm an cdv ct us mv ws h1 h2 h3 => match us, ws, h1, h3 with | [_, _, _, _], [_], _, _ => rfl)
  refine ⟨fd, _, F.ok sc_bound_of (fun vs H Q E h => by
    obtain ⟨_, _, _, _, _, _, _, _, _, _, rfl, _⟩ := h
    rfl) (fun cdv A outer s H vs Q E hr h => ?_), hb, F.kp⟩
  obtain ⟨p, pl, d, rk, rf, dp, pk, pr, dh, g, rfl, hP, hpv, hd, hv, hp, hk, hk2, hdh, q⟩ := h
  obtain ⟨kl, sl, dx, hO⟩ := hP.ex
  have hob := hO.ob
  have hkl := hpv.kl
  have hsl := hpv.sl
  have hln := hpv.ln
  refine ⟨_, (pss_cons (ps_try_only rfl rfl ⟨rfl, by decide, .inl T.g_NoFlows⟩ takes0 (fun W pn xe tk _ => (pss_one (ps_set (i := 5) sc_bound_of.nd rfl (Or.inl rfl) (hc (ok_slopes_of (K := K) T) (hr.mono (by decide)) T.g_slopes_of pass0 (pa_cons (pv 0) (pa_cons (pv 1) (pa_cons (pv 2) (pa_cons (pv 4) pa_nil)))))))) (fun a oe cls d pn _ _ => (pss_one (ps_ret (pe_non)))))
      (pss_one (ps_ret (pe_callB (sumL rfl) (by rfl) T.b_sum (by decide +kernel) (pa_cons (pe_lc (own := [("floor", 6), ("_", 7)]) (g := (gTup K 2 (gCons (gName 6) (gCons (gName 7) gNil)))) rfl sc_bound_of.nd (pi_values (pe_frz (hc (ok_floors_of (K := K) T) (hr.mono (by decide)) T.g_floors_of pass0 (pa_cons (pv 0) (pa_cons (pv 5) (pa_cons (pv 3) pa_nil)))))) (blkOk_by (own := [("floor", 6), ("_", 7)]) (N := ["plant", "readings", "prices", "heights", "worst", "slopes", "floor", "_"]) (sc := defScope s_bound_of) (by decide +kernel)) (fun _ _ _ _ _ => (pg_tup (by rfl) (pgs_cons (pg_name (i := 6) sc_bound_of.nd rfl (Or.inl rfl)) (pgs_cons (pg_name (i := 7) sc_bound_of.nd rfl (Or.inl rfl)) pgs_nil)))) (fun _ _ _ _ _ => pts_nil) (fun _ _ _ _ _ => (pv 6))) pa_nil))))), ?_⟩
  walk_at "g"
  intro H1 ds lim s1 nds hl hS
  have hT := slN_T hpv hv hk hk2 hl
  have hB : ∀ s ∈ pl.ss, slN lim rk rf pk pr s.name = slB rk rf pk pr s := fun s hs => slN_B (hl s hs)
  generalize slN lim rk rf pk pr = sw at hS hT hB
  have hTv : ∀ n ∈ pl.names, SlV (sw n) := fun n hn => (hT n hn).v
  have hP1 := hP.same s1
  have hdh1 : IntD H1 dh pl.knots g := s1 _ _ hdh
  walk_at "g"
  intro H2 a fl _ s2 na hfl kvs ea hkv
  refine ⟨a, _, rfl, ea, trivial, fun od => ?_⟩
  generalize hG : upd H2 a _ = H3
  have e3 := nw_at hG
  have hkv3 : A2 (fun s (kv : Key × V) => ∃ t z, kv = (kS s.name, .ref t) ∧ H3 t = some (.tup [.int (fl s), z])) pl.ss kvs := hkv.imp fun s kv ⟨t, z, e, h⟩ => ⟨t, z, e, hG ▸ lock_ne ea h (fun e => by cases e)⟩
  have s3 : Same H H3 := fun b o e => by
    have e1 := s1 _ _ e
    rw [← hG, upd_ne (ne_of_none e1 na)]
    exact s2 _ _ e1
  clear hG
  walk_at "g"
  intro D hD
  refine lcV (wk_vals.via hkv3) (fun s => some (fl s)) V.int hD e3 (by omega) (fun i x v H' Ky Kn ex sm _ hv2 ky kn => ?_) (fun H4 s4 eD => ?_)
  · obtain ⟨kv, ⟨t, z, rfl, ht⟩, rfl⟩ := hv2
    have ht' := sm _ _ ht
    walk_at "g"
    exact ky _ _ (Same.refl _) rfl
  · rw [fm_map] at eD
    walk_at "g"
    exact q H4 fl (s3.trans s4) fun s hs => by
      rw [← hB s hs]
      exact hfl s hs
def sp_shows_cost (K : PySem.W.Frag) : Sp := fun vs H Q _ => ∃ p pl d rk rf dp pk pr dh g c, vs = [.ref p, .ref d, .ref dp, .ref dh, .int c, .non] ∧ IsPl K H p pl ∧ PV pl ∧ sortedS pl.knots = true ∧ PrD H d rk rf ∧ RdV pl rk rf ∧ IntD H dp pk pr ∧ (∀ n ∈ rk, n ∈ pk ∧ 1 ≤ pr n ∧ pr n ≤ 1000000) ∧ (∀ n ∈ pk, n ∈ rk) ∧ IntD H dh pl.knots g ∧
  ∀ H', ∀ fl : Strm → Int, Same H H' → (∀ s ∈ pl.ss, FlOk (slB rk rf pk pr s) (g s.tail - g s.head) (fl s)) → Q (.bl (decide (c ≤ (pl.ss.map fl).sum))) H'
theorem sc_shows_cost : FnScope ["plant", "readings", "prices", "heights", "cost", "worst", "bound"] ["plant", "readings", "prices", "heights", "cost", "worst"] (defScope s_shows_cost) := ⟨rfl, rfl, rfl, by decide +kernel, rfl, by decide +kernel, by decide +kernel⟩
theorem ok_shows_cost (T : Tx K mg) : Has P w K mg base CX0 7 (A_shows_cost K) ["plant", "readings", "prices", "heights", "cost", "worst"] [.non] (sp_shows_cost K) := by
  obtain ⟨fd, F⟩ := T.F_shows_cost
  obtain ⟨ds, hv, hb⟩ := F.binds0 (ps := ["plant", "readings", "prices", "heights", "cost", "worst"]) 5 (by simp) rfl (fun D doc pm an cdv ct us ks h1 h2 => match us, ks, h1, h2 with | [_, _, _, _, _], [_], _, _ => ⟨_, _, _, _, _, _, rfl, rfl, rfl⟩)
  refine ⟨fd, ds, F.ok sc_shows_cost (fun vs H Q E h => by
    obtain ⟨_, _, _, _, _, _, _, _, _, _, _, rfl, _⟩ := h
    rfl) (fun cdv A outer s H vs Q E hr h => ?_), hb, hv, F.kp⟩
  obtain ⟨p, pl, d, rk, rf, dp, pk, pr, dh, g, c, rfl, hP, hpv, hso, hd, hv, hp, hk, hk2, hdh, q⟩ := h
  obtain ⟨kl, sl, dx, hO⟩ := hP.ex
  have hob := hO.ob
  have hkl := hpv.kl
  have hsl := hpv.sl
  have hln := hpv.ln
  refine ⟨_, (pss_cons (ps_expr (hc (ok_limits_of (K := K) T) (hr.mono (by decide)) T.g_limits_of pass0 (pa_cons (pv 0) (pa_cons (pv 1) pa_nil))))
      (pss_cons (ps_if (pt_cmpR (op_neSt hr.units) (pe_callB (call_sortedD rfl) (by rfl) T.b_sorted (by decide +kernel) (pa_cons (pv 3) pa_nil)) (hprop (ok_Plant_knots (K := K) T) (hr.mono (by decide)) T.c_Plant T.p_Plant_knots pass0 (pv 0)) (nomark _))
      (pss_one (ps_ret (pe_bl)))
      pss_nil)
      (pss_cons (ps_set (i := 6) sc_shows_cost.nd rfl (Or.inl rfl) (hck (ok_bound_of (K := K) T) (hr.mono (by decide)) T.g_bound_of pass0 (pa_cons (pv 0) (pa_cons (pv 1) (pa_cons (pv 2) (pa_cons (pv 3) pa_nil)))) (pk_cons (pv 5) pk_nil)))
      (pss_one (ps_ret (pe_and (pe_cmpR op_notN (pv 6) (pe_non) (nomark _)) (pe_one (pe_cmpR op_ge (pv 6) (pv 4) (nomark _))))))))), ?_⟩
  walk_at "g"
  intro H1 _ _ s1 _ _ _
  have hP1 := hP.same s1
  have hdh1 : H1 dh = some (.dK (fdV pl.knots fun k => .int (g k))) := s1 _ _ hdh
  walk_at "g"
  intro ys L pm so nL
  have ey : ys = pl.knots := sorted_unique pm so hso
  subst ey
  generalize hG : upd H1 L _ = H2
  have s2 := nw_same nL hG
  have eL := nw_at hG
  clear hG
  have hP2 := hP1.same s2
  walk_at "g"
  intro H3 kn s3 nkn ekn
  have eL3 : StL H3 L pl.knots := s3 _ _ eL
  have hsk : ∀ x ∈ pl.knots, PyData.strOk x = true := fun x hx => strOk_name (hpv.ok x hx)
  have S3 : Same H H3 := s1.trans (s2.trans s3)
  have hP3 := hP.same S3
  have hd3 := hd.same S3
  have hp3 := hp.same S3
  have hdh3 := hdh.same S3
  walk_at "g"
  refine iteD2 rfl ?_
  walk_at "g"
  intro H4 fl s4 hfl
  walk_at "g"
  exact q H4 fl (S3.trans s4) hfl
end
end M
end
-- part W28
section
set_option Elab.async false
set_option linter.all false
set_option maxRecDepth 100000
set_option maxHeartbeats 4000000
namespace M
open PySem PySem.Spec PyProof.Rows L2
local macro_rules | `(tactic| walk_at "e") => `(tactic| (first
  | exact rfl
  | assumption
  | exact upd_same
  | exact flat_strs
  | exact fd_keys
  | ((with_reducible apply same_at); assumption; walk_at "f")
  | ((with_reducible apply at_upd); assumption; walk_at "f")
  | omega))
local macro_rules | `(tactic| walk_at "n") => `(tactic| (first
  | assumption
  | omega
  | exact Nat.le_of_lt (small1000 (by first | assumption | omega))
  | exact (Nat.zero_le _ : 0 ≤ sizeLine)
  | exact (by decide : 1 ≤ sizeLine)
  | exact (by decide : 2 ≤ sizeLine)
  | exact (by decide : 3 ≤ sizeLine)
  | exact (by decide : 5 ≤ sizeLine)
  | exact (by decide : 6 ≤ sizeLine)
  | (show _ < 1000; exact of_decide_eq_true rfl)
  | exact len2 (by omega) (by omega)
  | exact small1000 (by first | assumption | omega)))
local macro_rules | `(tactic| walk_at "f") => `(tactic| (first
  | with_reducible assumption
  | ((with_reducible apply gEq); walk_at "e")
  | ((with_reducible apply gLe); walk_at "n")
  | ((with_reducible apply gLt); walk_at "n")
  | ((with_reducible apply gNot); (first | assumption | omega))
  | with_reducible exact Same.refl _
  | ((with_reducible apply tupOf); walk_at "f")
  | ((with_reducible apply lstOf); walk_at "f")
  | ((with_reducible apply gCls); assumption)
  | ((with_reducible apply gNoAttr); assumption)
  | ((with_reducible apply gIsPl); assumption)
  | ((with_reducible apply gStL); assumption)
  | ((with_reducible apply gIntD); assumption)
  | ((with_reducible apply gSqT); assumption)
  | ((with_reducible apply gSqL); assumption)
  | ((with_reducible apply tyV_l); walk_at "f")
  | ((with_reducible apply Rd.of); walk_at "f")
  | ((with_reducible apply dget_ne); assumption; assumption)
  | ((with_reducible apply dget_fd) <;> walk_at "f")
  | ((with_reducible apply dput_int) <;> walk_at "f")
  | ((with_reducible apply dput_fd) <;> walk_at "f")
  | ((with_reducible apply rd_upd); assumption; walk_at "f")
  | ((with_reducible apply same_put); walk_at "f"; assumption)
  | ((with_reducible apply sx_upd) <;> walk_at "f")
  | ((with_reducible refine Same.trans ?_ (by assumption)); walk_at "f")
  | ((with_reducible apply cmulLg); omega; omega)
  | ((with_reducible apply cmulRg); omega; omega)
  | ((with_reducible apply SameE.upd); walk_at "f")
  | ((with_reducible apply StL.same); assumption; walk_at "f")
  | ((with_reducible apply LT.same); assumption; walk_at "f")
  | ((with_reducible apply IsP.same); assumption; walk_at "f")
  | ((with_reducible apply IsPl.same); assumption; walk_at "f")
  | ((with_reducible apply IntD.same); assumption; walk_at "f")
  | ((with_reducible apply PrD.same); assumption; walk_at "f")
  | ((with_reducible apply Or.inl); walk_at "f")
  | ((with_reducible apply Or.inr); walk_at "f")))
local macro_rules | `(tactic| walk_at "g") => `(tactic| repeat (first
  | with_reducible apply And.intro
  | with_reducible apply Exists.intro
  | walk_at "f"
  | ((with_reducible apply iteT); assumption)
  | ((with_reducible apply iteF); assumption)
  | ((with_reducible apply iteD); (first | assumption | omega))
  | ((with_reducible apply iteN); (first | assumption | omega))
  | ((with_reducible apply iteD2); (first | assumption | omega))
  | ((with_reducible apply iteN2); (first | assumption | omega))
  | apply And.intro
  | apply Exists.intro))
section
variable {P : Program} {w : World} {K : PySem.W.Frag} {mg : Str → Option Value} {base : Heap}
def sp_flows_for (K : PySem.W.Frag) : Sp := fun vs H Q _ => ∃ p pl d rk rf dp pk pr m, vs = [.ref p, .ref d, .ref dp, .int m] ∧ IsPl K H p pl ∧ PV pl ∧ PrD H d rk rf ∧ RdV pl rk rf ∧ IntD H dp pk pr ∧ (∀ n ∈ rk, n ∈ pk ∧ 1 ≤ pr n ∧ pr n ≤ 1000000) ∧ 0 ≤ m ∧
  (∀ H', Same H H' → (∀ f, Poss pl f → ¬ AtM rk rf pr f m) → Q .non H') ∧ ∀ H' a f, Same H H' → H a = none → IntD H' a pl.names f → Poss pl f → AtM rk rf pr f m → Q (.ref a) H'
theorem sc_flows_for : FnScope ["plant", "readings", "prices", "worst"] ["plant", "readings", "prices", "worst"] (defScope s_flows_for) := ⟨rfl, rfl, rfl, by decide +kernel, rfl, by decide +kernel, by decide +kernel⟩
theorem ok_flows_for (T : Tx K mg) : Has P w K mg base CX0 8 (A_flows_for K) ["plant", "readings", "prices", "worst"] [] (sp_flows_for K) := by
  obtain ⟨fd, F⟩ := T.F_flows_for
  refine ⟨fd, [], F.ok sc_flows_for (fun vs H Q E h => by
    obtain ⟨_, _, _, _, _, _, _, _, _, rfl, _⟩ := h
    rfl) (fun cdv A outer s H vs Q E hr h => ?_), F.bindsN (fun _ _ _ _ _ _ us hl => match us, hl with | [_, _, _, _], _ => rfl), .nil, F.kp⟩
  obtain ⟨p, pl, d, rk, rf, dp, pk, pr, m, rfl, hP, hpv, hd, hv, hp, hk, hm, qn, q⟩ := h
  refine ⟨_, (pss_one (ps_ret (hc (ok_flows_within (K := K) T) (hr.mono (by decide)) T.g_flows_within pass0 (pa_cons (pv 0) (pa_cons (hck (ok_narrowed (K := K) T) (hr.mono (by decide)) T.g_narrowed pass0 (pa_cons (pv 0) (pa_cons (pv 1) (pa_cons (pv 2) pa_nil))) (pk_cons (pv 3) pk_nil)) pa_nil))))), ?_⟩
  have hv0 : [V.ref p, V.ref d, V.ref dp] ++ [V.int m] = [V.ref p, V.ref d, V.ref dp, oV (some m)] := rfl
  walk_at "g"
  intro H1 a lim s1 na hl hL
  have hP1 := hP.same s1
  have hF : ∀ f, Feas pl.knots pl.ss lim f ↔ Poss pl f ∧ AtM rk rf pr f m := fun f => feas_w hv (fun n hn => (hk n hn).2.1) hm hl
  walk_at "g"
  · intro H2 s2 hn
    exact qn H2 (s1.trans s2) fun f h1 h2 => hn ⟨f, (hF f).mpr ⟨h1, h2⟩⟩
  · intro H2 b f s2 nb eb hf
    obtain ⟨h1, h2⟩ := (hF f).mp hf
    exact q H2 b f (s1.trans s2) (s1.free nb) eb h1 h2
theorem PapH.se {H H' : Hp} {t self : Addr} {pl : Plt} {pa : Pap} {C dx : Addr} {fs : List (Str × V)} (s : SameE self H H') (hs : H self = some (.ins C dx fs)) (h : PapH H t pl pa) : PapH H' t pl pa :=
  ⟨fun n e => ⟨s _ _ (ne_at (h.s n e).1 hs (fun e => by cases e)) (h.s n e).1, (h.s n e).2⟩, fun L e => by
    obtain ⟨a, h1, h2, h3⟩ := h.l L e
    exact ⟨a, s _ _ (ne_at h1 hs (fun e => by cases e)) h1, s _ _ (ne_at h2 hs (fun e => by cases e)) h2, h3⟩⟩
def poV : Option (Addr × Pap) → V
  | none => .non
  | some x => .ref x.1
def sp_Worst_init (K : PySem.W.Frag) : Sp := fun vs H Q _ => ∃ self n d po dx kvs pl, vs = [.ref self, .int n, .ref d, poV po] ∧ H self = some (.ins (C_Worst K) dx []) ∧ H d = some (.dK kvs) ∧ (∀ t pa, po = some (t, pa) → PapH H t pl pa) ∧
  ∀ H' d' v', SameE self H H' → H' self = some (.ins (C_Worst K) dx [("number", .int n), ("flows", .ref d'), ("paper", v')]) → H' d' = some (.dK kvs) → (po = none → v' = .non) → (∀ t pa, po = some (t, pa) → ∃ t', v' = .ref t' ∧ PapH H' t' pl pa) → Q .non H'
theorem sc_Worst_init : FnScope ["self", "number", "flows", "paper"] ["self", "number", "flows", "paper"] (defScope s_Worst_init) := ⟨rfl, rfl, rfl, by decide +kernel, rfl, by decide +kernel, by decide +kernel⟩
theorem ok_Worst_init (T : Tx K mg) : Has P w K mg base CX0 1 (A_Worst_init K) ["self", "number", "flows", "paper"] [] (sp_Worst_init K) := by
  obtain ⟨fd, F⟩ := T.F_Worst_init
  refine ⟨fd, [], F.ok sc_Worst_init (fun vs H Q E h => by
    obtain ⟨_, _, _, _, _, _, _, rfl, _⟩ := h
    rfl) (fun cdv A outer s H vs Q E hr h => ?_), F.bindsN (fun _ _ _ _ _ _ us hl => match us, hl with | [_, _, _, _], _ => rfl), .nil, F.kp⟩
  obtain ⟨self, n, d, po, dx, kvs, pl, rfl, hs, hd, hp, q⟩ := h
  have k1 := T.c_Worst
  have k2 := T.n_Worst_number
  have k3 := T.n_Worst_flows
  have k4 := T.n_Worst_paper
  have n1 : d ≠ self := ne_at hd hs (fun e => by cases e)
  refine ⟨_, (pss_cons (ps_fld (pv 0) (pv 1) rfl)
      (pss_cons (ps_fld (pv 0) (pe_callTy call_dictD (by rfl) T.b_dict (by decide +kernel) (pa_cons (pv 2) pa_nil)) rfl)
      (pss_cons (ps_fld (pv 0) (pv 3) rfl)
      (pss_one (ps_if (PW.pt (pw_and (pt_cmpR op_notN (pv 3) (pe_non) (nomark _)) (pw_and1 (pt_cmpR op_eq (pe_ix ixT (pv 3) (pe_int) (fun _ _ => rfl)) (pe_str) (nomark _)))))
      (pss_one (ps_fld (pv 0) (pe_tup (pa_cons (pe_str) (pa_cons (pe_callTy listL (by rfl) T.b_list (by decide +kernel) (pa_cons (pe_ix ixT (pv 3) (pe_int) (fun _ _ => rfl)) pa_nil)) pa_nil))) rfl))
      pss_nil))))), ?_⟩
  walk_at "g"
  intro d' m2
  generalize hG : upd H self _ = H1 at m2 ⊢
  have s1 : SameE self H H1 := ow_e SameE.refl hG
  have e1 := nw_at hG
  clear hG
  generalize hG : upd H1 d' _ = H2
  have s2 := nw_same m2 hG
  have e2 := nw_at hG
  clear hG
  have es2 := s2 _ _ e1
  have hd's : d' ≠ self := (ne_of_none e1 m2).symm
  have S2 : SameE self H H2 := s1.trans (.of s2)
  cases po with
  | none =>
    have ev : poV none = V.non := rfl
    rw [ev]
    walk_at "g"
    refine iteD2 (p := V.non = V.non) rfl ?_
    exact q _ d' .non S2.upd.upd upd_same (at_upd hd's (at_upd hd's e2)) (fun _ => rfl) fun t pa e => nomatch e
  | some x =>
    obtain ⟨t, pa⟩ := x
    have hpa := hp t pa rfl
    have hpa2 : PapH H2 t pl pa := (hpa.se s1 hs).same s2
    have ev : poV (some (t, pa)) = V.ref t := rfl
    rw [ev]
    have c1 : ¬ V.ref t = V.non := fun z => by cases z
    cases pa with
    | str nm =>
      obtain ⟨ht, hn⟩ := hpa2.s nm rfl
      have nt : t ≠ self := ne_at ht es2 (fun e => by cases e)
      have c2 : ¬ V.str "stream" = V.str "lot" := fun e => absurd (V.str.inj e) (by decide)
      walk_at "g"
      refine q _ d' (.ref t) S2.upd.upd upd_same (at_upd hd's (at_upd hd's e2)) (fun e => by cases e) fun t' pa' e => ?_
      cases e
      exact ⟨t, rfl, hpa2.se (SameE.refl.upd.upd) es2⟩
    | lot L =>
      obtain ⟨a, ht, ha, hL⟩ := hpa2.l L rfl
      have ha' : H2 a = some (.lst (L.map V.str)) := ha
      have nt : t ≠ self := ne_at ht es2 (fun e => by cases e)
      have nas : a ≠ self := ne_at ha' es2 (fun e => by cases e)
      have c2 : V.str "lot" = V.str "lot" := rfl
      walk_at "g"
      intro l m3
      generalize hG : upd (upd H2 self _) self _ = H3 at m3 ⊢
      have S3 : SameE self H2 H3 := hG ▸ SameE.refl.upd.upd
      have e3 := nw_at hG
      clear hG
      generalize hG : upd H3 l _ = H4
      have s4 := nw_same m3 hG
      have e_l := nw_at hG
      clear hG
      have e4 := s4 _ _ e3
      walk_at "g"
      intro T2 n_T2; generalize hG : upd H4 T2 _ = H5; have s_H5 : Same H4 H5 := nw_same n_T2 hG; have e_T2 := nw_at hG; clear hG
      have e5 := s_H5 _ _ e4
      walk_at "g"
      have S5 : ∀ o, SameE self H2 (upd H5 self o) := fun o => (S3.trans (.of (s4.trans s_H5))).upd
      refine q _ d' (.ref T2) (S2.trans (S5 _)) upd_same (S5 _ _ _ hd's e2) (fun e => by cases e) fun t' pa' e => ?_
      cases e
      have nls : l ≠ self := (ne_of_none e3 m3).symm
      have nts : T2 ≠ self := (ne_of_none e4 n_T2).symm
      refine ⟨T2, rfl, ⟨fun n e => (nomatch e), fun L' e => ?_⟩⟩
      cases e
      exact ⟨l, at_upd nts e_T2, at_upd nls (s_H5 _ _ e_l), hL⟩
end
end M
end
-- part W30
section
set_option Elab.async false
set_option linter.all false
set_option maxRecDepth 100000
set_option maxHeartbeats 4000000
namespace M
open PySem PySem.Spec PyProof.Rows L2
local macro_rules | `(tactic| walk_at "e") => `(tactic| (first
  | exact rfl
  | assumption
  | exact upd_same
  | exact flat_strs
  | exact fd_keys
  | ((with_reducible apply same_at); assumption; walk_at "f")
  | ((with_reducible apply at_upd); assumption; walk_at "f")
  | omega))
local macro_rules | `(tactic| walk_at "n") => `(tactic| (first
  | assumption
  | omega
  | exact Nat.le_of_lt (small1000 (by first | assumption | omega))
  | exact (Nat.zero_le _ : 0 ≤ sizeLine)
  | exact (by decide : 1 ≤ sizeLine)
  | exact (by decide : 2 ≤ sizeLine)
  | exact (by decide : 3 ≤ sizeLine)
  | exact (by decide : 5 ≤ sizeLine)
  | exact (by decide : 6 ≤ sizeLine)
  | (show _ < 1000; exact of_decide_eq_true rfl)
  | exact len2 (by omega) (by omega)
  | exact small1000 (by first | assumption | omega)))
local macro_rules | `(tactic| walk_at "f") => `(tactic| (first
  | with_reducible assumption
  | ((with_reducible apply gEq); walk_at "e")
  | ((with_reducible apply gLe); walk_at "n")
  | ((with_reducible apply gLt); walk_at "n")
  | ((with_reducible apply gNot); (first | assumption | omega))
  | with_reducible exact Same.refl _
  | ((with_reducible apply tupOf); walk_at "f")
  | ((with_reducible apply lstOf); walk_at "f")
  | ((with_reducible apply gCls); assumption)
  | ((with_reducible apply gNoAttr); assumption)
  | ((with_reducible apply gIsPl); assumption)
  | ((with_reducible apply gStL); assumption)
  | ((with_reducible apply gIntD); assumption)
  | ((with_reducible apply gSqT); assumption)
  | ((with_reducible apply gSqL); assumption)
  | ((with_reducible apply tyV_l); walk_at "f")
  | ((with_reducible apply Rd.of); walk_at "f")
  | ((with_reducible apply dget_ne); assumption; assumption)
  | ((with_reducible apply dget_fd) <;> walk_at "f")
  | ((with_reducible apply dput_int) <;> walk_at "f")
  | ((with_reducible apply dput_fd) <;> walk_at "f")
  | ((with_reducible apply rd_upd); assumption; walk_at "f")
  | ((with_reducible apply same_put); walk_at "f"; assumption)
  | ((with_reducible apply sx_upd) <;> walk_at "f")
  | ((with_reducible refine Same.trans ?_ (by assumption)); walk_at "f")
  | ((with_reducible apply cmulLg); omega; omega)
  | ((with_reducible apply cmulRg); omega; omega)
  | ((with_reducible apply SameE.upd); walk_at "f")
  | ((with_reducible apply StL.same); assumption; walk_at "f")
  | ((with_reducible apply LT.same); assumption; walk_at "f")
  | ((with_reducible apply IsP.same); assumption; walk_at "f")
  | ((with_reducible apply IsPl.same); assumption; walk_at "f")
  | ((with_reducible apply IntD.same); assumption; walk_at "f")
  | ((with_reducible apply PrD.same); assumption; walk_at "f")
  | ((with_reducible apply Or.inl); walk_at "f")
  | ((with_reducible apply Or.inr); walk_at "f")))
local macro_rules | `(tactic| walk_at "g") => `(tactic| repeat (first
  | with_reducible apply And.intro
  | with_reducible apply Exists.intro
  | walk_at "f"
  | ((with_reducible apply iteT); assumption)
  | ((with_reducible apply iteF); assumption)
  | ((with_reducible apply iteD); (first | assumption | omega))
  | ((with_reducible apply iteN); (first | assumption | omega))
  | ((with_reducible apply iteD2); (first | assumption | omega))
  | ((with_reducible apply iteN2); (first | assumption | omega))
  | apply And.intro
  | apply Exists.intro))
section
variable {P : Program} {w : World} {K : PySem.W.Frag} {mg : Str → Option Value} {base : Heap}
structure WorstO (K : PySem.W.Frag) (H : Hp) (x : Addr) (pl : Plt) (num : Int) (f : Str → Int) (v : V) (df : Addr) : Prop where
  ob : ∃ dx, H x = some (.ins (C_Worst K) dx [("number", .int num), ("flows", .ref df), ("paper", v)])
  fl : IntD H df pl.names f
structure WorstR (pl : Plt) (rk : List Str) (rf : Str → Int × Int) (pr : Str → Int) (num : Int) (f : Str → Int) : Prop where
  ps : Poss pl f
  nn : 0 ≤ num
  mem : num ∈ 0 :: rk.map (cs rf pr f)
  top : AtM rk rf pr f num
  lo : num = 0 ∨ ∀ g, Poss pl g → ¬ AtM rk rf pr g (num - 1)
def sp_least_worst (K : PySem.W.Frag) : Sp := fun vs H Q E => ∃ p pl d rk rf dp pk pr, vs = [.ref p, .ref d, .ref dp] ∧ IsPl K H p pl ∧ PV pl ∧ PrD H d rk rf ∧ RdV pl rk rf ∧ IntD H dp pk pr ∧ (∀ n ∈ rk, n ∈ pk ∧ 1 ≤ pr n ∧ pr n ≤ 1000000) ∧
  (∀ H' x num f df v, Same H H' → WorstO K H' x pl num f v df → WorstR pl rk rf pr num f → (num = 0 → v = .non) → (0 < num → ∃ t pa lim, v = .ref t ∧ PapH H' t pl pa ∧ (∀ s ∈ pl.ss, lim s.name = limW rk rf pr (num - 1) s) ∧ papTrue pl lim pa) → Q (.ref x) H') ∧
  (∀ H', Same H H' → (∀ g, ¬ Poss pl g) → E (.ref (C_NoFlows K)) none H')
theorem sc_least_worst : FnScope ["plant", "readings", "prices", "flows", "low", "high", "middle", "found", "paper"] ["plant", "readings", "prices"] (defScope s_least_worst) := ⟨rfl, rfl, rfl, by decide +kernel, rfl, by decide +kernel, by decide +kernel⟩
theorem ok_least_worst (T : Tx K mg) : Has P w K mg base (L2.CX P w) 9 (A_least_worst K) ["plant", "readings", "prices"] [] (sp_least_worst K) := by
  obtain ⟨fd, F⟩ := T.F_least_worst
  refine ⟨fd, [], F.ok sc_least_worst (fun vs H Q E h => by
    obtain ⟨_, _, _, _, _, _, _, _, rfl, _⟩ := h
    rfl) (fun cdv A outer s H vs Q E hr h => ?_), F.bindsN (fun _ _ _ _ _ _ us hl => match us, hl with | [_, _, _], _ => rfl), .nil, F.kp⟩
  obtain ⟨p, pl, d, rk, rf, dp, pk, pr, rfl, hP, hpv, hd, hv, hp, hk, q, qx⟩ := h
  obtain ⟨kl, sl, dx, hO⟩ := hP.ex
  have hob := hO.ob
  have hkl := hpv.kl
  have hsl := hpv.sl
  have hln := hpv.ln
  have hk4 : ∀ n ∈ rk, n ∈ pk ∧ n ∈ pl.names ∧ 0 ≤ pr n ∧ pr n ≤ 1000000 := fun n hn => by
    obtain ⟨a1, a2, a3⟩ := hk n hn
    exact ⟨a1, hv.inN n hn, by omega, a3⟩
  have hrl : rk.length ≤ 100 := Nat.le_trans (hv.ln hpv) (by decide)
  refine ⟨_, (pss_cons (ps_expr (hc (ok_limits_of (K := K) T) (hr.mono (by decide)) T.g_limits_of pass0 (pa_cons (pv 0) (pa_cons (pv 1) pa_nil))))
      (pss_cons (ps_set (i := 3) sc_least_worst.nd rfl (Or.inl rfl) (hc (ok_flows_within (K := K) T) (hr.mono (by decide)) T.g_flows_within pass0 (pa_cons (pv 0) (pa_cons (hc (ok_limits_of (K := K) T) (hr.mono (by decide)) T.g_limits_of pass0 (pa_cons (pv 0) (pa_cons (pe_dnewK) pa_nil))) pa_nil))))
      (pss_cons (ps_if (pt_cmpR op_isN (pv 3) (pe_non) (nomark _))
      (pss_one (ps_raise rfl (takes_of rfl rfl rfl rfl) (pmk_own PySem.F.excBase_ValueError T.x_NoFlows.1 T.g_NoFlows T.x_NoFlows.2.1 (raises_own T.x_NoFlows.2.2.1 T.x_NoFlows.2.2.2) (by exact rfl))))
      pss_nil)
      (pss_cons (ps_par (i := 4) (j := 5) (by rfl) sc_least_worst.nd rfl rfl (by decide) rfl rfl (pa_cons (pe_un un_neg pe_int) (pa_cons (hc (ok_worst_of (K := K) T) (hr.mono (by decide)) T.g_worst_of pass0 (pa_cons (pv 1) (pa_cons (pv 2) (pa_cons (pv 3) pa_nil)))) pa_nil)) (by rfl))
      (pss_cons (psWhl (passes_of rfl) (pt_cmpR op_gt (pe_op op_sub (pv 5) (pv 4)) (pe_int) (nomark _))
      (pss_cons (ps_set (i := 6) sc_least_worst.nd rfl (Or.inl rfl) (pe_op op_fdiv (pe_op op_add (pv 4) (pv 5)) (pe_int)))
      (pss_cons (ps_set (i := 7) sc_least_worst.nd rfl (Or.inl rfl) (hc (ok_flows_for (K := K) T) (hr.mono (by decide)) T.g_flows_for pass0 (pa_cons (pv 0) (pa_cons (pv 1) (pa_cons (pv 2) (pa_cons (pv 6) pa_nil))))))
      (pss_one (ps_if (pt_cmpR op_isN (pv 7) (pe_non) (nomark _))
      (pss_one (ps_set (i := 4) sc_least_worst.nd rfl (Or.inl rfl) (pv 6)))
      (pss_cons (ps_set (i := 3) sc_least_worst.nd rfl (Or.inl rfl) (pv 7))
      (pss_one (ps_set (i := 5) sc_least_worst.nd rfl (Or.inl rfl) (hc (ok_worst_of (K := K) T) (hr.mono (by decide)) T.g_worst_of pass0 (pa_cons (pv 1) (pa_cons (pv 2) (pa_cons (pv 3) pa_nil))))))))))))
      (pss_cons (ps_set (i := 8) sc_least_worst.nd rfl (Or.inl rfl) (pe_non))
      (pss_cons (psCut (ps_if (pt_cmpR op_gt (pv 5) (pe_int) (nomark _))
      (pss_one (ps_set (i := 8) sc_least_worst.nd rfl (Or.inl rfl) (hc (ok_paper_within (K := K) T) (hr.mono (by decide)) T.g_paper_within pass0 (pa_cons (pv 0) (pa_cons (hck (ok_narrowed (K := K) T) (hr.mono (by decide)) T.g_narrowed pass0 (pa_cons (pv 0) (pa_cons (pv 1) (pa_cons (pv 2) pa_nil))) (pk_cons (pe_op op_sub (pv 5) (pe_int)) pk_nil)) pa_nil)))))
      pss_nil))
      (pss_one (ps_ret (hmk (ok_Worst_init (K := K) T) (hr.mono (by decide)) T.k_Worst T.g_Worst pass0 (pa_cons (pv 5) (pa_cons (pv 3) (pa_cons (pv 8) pa_nil))))))))))))), ?_⟩
  walk_at "g"
  intro H1 _ _ s1 _ _ _
  have hP1 := hP.same s1
  walk_at "g"
  intro e n_e; generalize hG : upd H1 e _ = H2; have s_H2 : Same H1 H2 := nw_same n_e hG; have e_e := nw_at hG; clear hG
  have hP2 := hP1.same s_H2
  have he : PrD H2 e [] rf := ⟨fun _ => 0, e_e, fun k h => (nomatch h)⟩
  have hve : RdV pl [] rf := ⟨List.nodup_nil, fun n h => (nomatch h), fun n h => (nomatch h)⟩
  walk_at "g"
  intro H3 D lim0 s3 nD hl0 hL0
  have hl0 : ∀ s ∈ pl.ss, lim0 s.name = (s.low, s.high) := fun s hs => hl0 s hs
  have S3 : Same H H3 := s1.trans (s_H2.trans s3)
  have hP3 := hP.same S3
  have hF0 : ∀ f, Feas pl.knots pl.ss lim0 f ↔ Poss pl f := fun f => feas_base hl0
  walk_at "g"
  · intro H4 s4 hn
    walk_at "g"
    refine iteD (p := V.non = V.non) rfl ?_
    exact qx H4 (S3.trans s4) fun g hg => hn ⟨g, (hF0 g).mpr hg⟩
  · intro H4 fl f0 s4 nfl efl hf0
    have c1 : ¬ V.ref fl = V.non := fun z => by cases z
    walk_at "g"
    intro H5 m0 s5 hm hle
    have S5 : Same H H5 := (S3.trans s4).trans s5
    have top_of : ∀ {f : Str → Int} {m : Int}, (∀ y ∈ 0 :: rk.map (cs rf pr f), y ≤ m) → AtM rk rf pr f m ∧ 0 ≤ m := fun h => ⟨fun n hn => h _ (List.mem_cons_of_mem _ (List.mem_map.mpr ⟨n, hn, rfl⟩)), h 0 List.mem_cons_self⟩
    walk_at "g"
    refine ⟨whileG (fun k σ H' => Hold (∃ y6 y7 fl, ∃ lo hi : Int, ∃ f : Str → Int, σ = [some (.ref p), some (.ref d), some (.ref dp), some (.ref fl), some (.int lo), some (.int hi), y6, y7, none] ∧ Same H H' ∧ IntD H' fl pl.names f ∧ Poss pl f ∧ hi ∈ 0 :: rk.map (cs rf pr f) ∧ (∀ y ∈ 0 :: rk.map (cs rf pr f), y ≤ hi) ∧ -1 ≤ lo ∧ lo < hi ∧ (lo = -1 ∨ ∀ g, Poss pl g → ¬ AtM rk rf pr g lo) ∧ k = (hi - lo).toNat)) _
      ⟨none, none, fl, -1, m0, f0, rfl, S5, s5 _ _ efl, (hF0 f0).mp hf0, hm, hle, Int.le_refl _, by have := (top_of hle).2; omega, .inl rfl, rfl⟩ (fun k σ H' h => ?_)⟩
    obtain ⟨y6, y7, fl, lo, hi, f, rfl, t1, t2, t3, t4, t5, t6, t7, t8, rfl⟩ := h.go
    have hP' := hP.same t1
    have hd' := hd.same t1
    have hp' := hp.same t1
    walk_at "g"
    refine ite_d (fun c => ?_) (fun c => ?_)
    · have hmid : 0 ≤ (lo + hi) / 2 := by omega
      walk_at "g"
      · intro H6 s6 hn
        walk_at "g"
        exact Dec.of (hi - (lo + hi) / 2).toNat (by omega) ⟨_, _, fl, (lo + hi) / 2, hi, f, rfl, t1.trans s6, s6 _ _ t2, t3, t4, t5, by omega, by omega, .inr hn, rfl⟩
      · intro H6 fl2 f2 s6 nf2 ef2 hf2 ha2
        have c3 : ¬ V.ref fl2 = V.non := fun z => by cases z
        have hd6 := hd'.same s6
        have hp6 := hp'.same s6
        walk_at "g"
        intro H7 m7 s7 hm7 hle7
        obtain ⟨b1, b2⟩ := top_of hle7
        have b3 : m7 ≤ (lo + hi) / 2 := by
          rcases List.mem_cons.mp hm7 with e | e
          · omega
          · obtain ⟨n, hn, rfl⟩ := List.mem_map.mp e
            exact ha2 n hn
        have b4 : lo < m7 := by
          rcases t8 with e | e
          · omega
          · by_cases z : m7 ≤ lo
            · exact absurd (fun n hn => Int.le_trans (b1 n hn) z) (e f2 hf2)
            · omega
        exact Dec.of (m7 - lo).toNat (by omega) ⟨_, _, fl2, lo, m7, f2, rfl, t1.trans (s6.trans s7), s7 _ _ ef2, hf2, hm7, hle7, t6, b4, t8, rfl⟩
    · have hlo : lo = hi - 1 := by omega
      obtain ⟨b1, b2⟩ := top_of t5
      refine Cut.of (fun σ H2 => Hold (∃ po : Option (Addr × Pap), σ = [some (.ref p), some (.ref d), some (.ref dp), some (.ref fl), some (.int lo), some (.int hi), y6, y7, some (poV po)] ∧ Same H' H2 ∧ (hi = 0 → po = none) ∧ (0 < hi → ∃ t pa lim, po = some (t, pa) ∧ PapH H2 t pl pa ∧ (∀ s ∈ pl.ss, lim s.name = limW rk rf pr (hi - 1) s) ∧ papTrue pl lim pa))) ?_ (fun σ H2 hh => ?_)
      · walk_at "g"
        refine ite_d (fun c2 => ?_) (fun c2 => ?_)
        · have hv0 : [V.ref p, V.ref d, V.ref dp] ++ [V.int (hi - 1)] = [V.ref p, V.ref d, V.ref dp, oV (some (hi - 1))] := rfl
          walk_at "g"
          intro H6 D2 lim s6 nD2 hl2 hL2
          have hP6 := hP'.same s6
          walk_at "g"
          · intro H7 s7 hf7
            exfalso
            obtain ⟨g, hg⟩ := hf7
            have := ((feas_w (f := g) hv (fun n hn => (hk n hn).2.1) (by omega) hl2).mp hg)
            rcases t8 with e | e
            · omega
            · exact e g this.1 (hlo ▸ this.2)
          · intro H7 t pa s7 nt hpa htr
            exact ⟨some (t, pa), rfl, s6.trans s7, fun e => absurd c2 (by omega), fun _ => ⟨t, pa, lim, rfl, hpa, hl2, htr⟩⟩
        · walk_at "g"
          exact ⟨none, rfl, Same.refl _, fun _ => rfl, fun z => absurd z c2⟩
      · obtain ⟨po, rfl, u1, u2, u3⟩ := hh.go
        have efl : H2 fl = some (.dK (fdV pl.names fun k => .int (f k))) := u1 _ _ t2
        walk_at "g"
        intro x dx nx ndx nex
        have g1 : fl ≠ x := ne_of_none efl nx
        have g2 : fl ≠ dx := ne_of_none efl ndx
        have gp : ∀ t pa, po = some (t, pa) → PapH (upd (upd H2 dx (.own x)) x (.ins (C_Worst K) dx [])) t pl pa := fun t pa e => by
          have sm : Same H2 (upd (upd H2 dx (.own x)) x (.ins (C_Worst K) dx [])) := fun b o e => by
            rw [upd_ne (ne_of_none e nx), upd_ne (ne_of_none e ndx)]
            exact e
          have h0 : 0 < hi := by
            by_cases z : hi = 0
            · have := u2 z
              rw [this] at e
              cases e
            · omega
          obtain ⟨t0, pa0, lim, e0, hp0, _⟩ := u3 h0
          rw [e0] at e
          cases e
          exact hp0.same sm
        walk_at "g"
        intro H8 d' v' sE eo ed v1 v2
        refine ⟨rfl, q H8 x hi f d' v' ((t1.trans u1).trans (made nx ndx sE)) ⟨⟨dx, eo⟩, ed⟩ ⟨t3, b2, t4, b1, ?_⟩ (fun e => v1 (u2 e)) (fun h0 => ?_)⟩
        · rcases t8 with e | e
          · exact .inl (by omega)
          · exact .inr (hlo ▸ e)
        · obtain ⟨t0, pa0, lim, e0, hp0, l1, l2⟩ := u3 h0
          obtain ⟨t', e', hp'⟩ := v2 t0 pa0 e0
          exact ⟨t', pa0, lim, e', hp', l1, l2⟩
def sp_shows_worst (K : PySem.W.Frag) : Sp := fun vs H Q _ => ∃ p pl d rk rf dp pk pr n po, vs = [.ref p, .ref d, .ref dp, .int n, poV po] ∧ IsPl K H p pl ∧ PV pl ∧ PrD H d rk rf ∧ RdV pl rk rf ∧ IntD H dp pk pr ∧ (∀ n ∈ rk, n ∈ pk ∧ 1 ≤ pr n ∧ pr n ≤ 1000000) ∧ (∀ t pa, po = some (t, pa) → PapH H t pl pa) ∧
  ∀ H', Same H H' → (n ≤ 0 → Q (.bl true) H') ∧ (0 < n → po = none → Q (.bl false) H') ∧ ∀ t pa lim, 0 < n → po = some (t, pa) → (∀ s ∈ pl.ss, lim s.name = limW rk rf pr (n - 1) s) → Q (.bl (papB pl lim pa)) H'
theorem sc_shows_worst : FnScope ["plant", "readings", "prices", "number", "paper"] ["plant", "readings", "prices", "number", "paper"] (defScope s_shows_worst) := ⟨rfl, rfl, rfl, by decide +kernel, rfl, by decide +kernel, by decide +kernel⟩
theorem ok_shows_worst (T : Tx K mg) : Has P w K mg base CX0 7 (A_shows_worst K) ["plant", "readings", "prices", "number", "paper"] [] (sp_shows_worst K) := by
  obtain ⟨fd, F⟩ := T.F_shows_worst
  refine ⟨fd, [], F.ok sc_shows_worst (fun vs H Q E h => by
    obtain ⟨_, _, _, _, _, _, _, _, _, _, rfl, _⟩ := h
    rfl) (fun cdv A outer s H vs Q E hr h => ?_), F.bindsN (fun _ _ _ _ _ _ us hl => match us, hl with | [_, _, _, _, _], _ => rfl), .nil, F.kp⟩
  obtain ⟨p, pl, d, rk, rf, dp, pk, pr, n, po, rfl, hP, hpv, hd, hv, hp, hk, hpa, q⟩ := h
  refine ⟨_, (pss_cons (ps_expr (hc (ok_limits_of (K := K) T) (hr.mono (by decide)) T.g_limits_of pass0 (pa_cons (pv 0) (pa_cons (pv 1) pa_nil))))
      (pss_cons (ps_if (pt_cmpR op_le (pv 3) (pe_int) (nomark _))
      (pss_one (ps_ret (pe_bl)))
      pss_nil)
      (pss_cons (ps_if (pt_cmpR op_isN (pv 4) (pe_non) (nomark _))
      (pss_one (ps_ret (pe_bl)))
      pss_nil)
      (pss_one (ps_ret (hc (ok_shows_none (K := K) T) (hr.mono (by decide)) T.g_shows_none pass0 (pa_cons (pv 0) (pa_cons (hck (ok_narrowed (K := K) T) (hr.mono (by decide)) T.g_narrowed pass0 (pa_cons (pv 0) (pa_cons (pv 1) (pa_cons (pv 2) pa_nil))) (pk_cons (pe_op op_sub (pv 3) (pe_int)) pk_nil)) (pa_cons (pv 4) pa_nil))))))))), ?_⟩
  walk_at "g"
  intro H1 _ _ s1 _ _ _
  have hP1 := hP.same s1
  have hd1 := hd.same s1
  have hp1 := hp.same s1
  walk_at "g"
  refine ite_d (fun c => ?_) (fun c => ?_)
  · walk_at "g"
    exact (q H1 s1).1 c
  · cases po with
    | none =>
      have ev : poV none = V.non := rfl
      rw [ev]
      walk_at "g"
      exact (q H1 s1).2.1 (by omega) rfl
    | some x =>
      obtain ⟨t, pa⟩ := x
      have ev : poV (some (t, pa)) = V.ref t := rfl
      rw [ev]
      have c2 : ¬ V.ref t = V.non := fun z => by cases z
      have hpa1 := (hpa t pa rfl).same s1
      have hv0 : [V.ref p, V.ref d, V.ref dp] ++ [V.int (n - 1)] = [V.ref p, V.ref d, V.ref dp, oV (some (n - 1))] := rfl
      walk_at "g"
      intro H6 D2 lim s6 nD2 hl2 hL2
      have hP6 := hP1.same s6
      have hpa6 := hpa1.same s6
      walk_at "g"
      intro H7 s7
      exact (q H7 (s1.trans (s6.trans s7))).2.2 t pa lim (by omega) rfl hl2
end
end M
end
-- part Mf
section
set_option Elab.async false
set_option linter.all false
set_option maxRecDepth 100000
set_option maxHeartbeats 4000000
namespace M
open PySem PySem.Spec PyProof.Rows L2
/-- l the streams that have flows, r the later ones: within limits, and what is shut is in balance -/
structure Good (l r : List Strm) (lim : Str → Int × Int) (f : Str → Int) : Prop where
  lo : ∀ s ∈ l, (lim s.name).1 ≤ f s.name ∧ f s.name ≤ (lim s.name).2
  bal : ∀ v, (∃ s ∈ l, s.tail = v ∨ s.head = v) → (∀ s ∈ r, s.tail ≠ v ∧ s.head ≠ v) → net l f v = 0
theorem good_nil {r : List Strm} {lim : Str → Int × Int} {f : Str → Int} : Good [] r lim f := ⟨fun s h => (nomatch h), fun v h _ => by
  obtain ⟨s, h, _⟩ := h
  cases h⟩
theorem Good.cong {l r : List Strm} {lim : Str → Int × Int} {f g : Str → Int} (e : ∀ s ∈ l, f s.name = g s.name) (h : Good l r lim f) : Good l r lim g where
  lo := fun s hs => by
    rw [← e s hs]
    exact h.lo s hs
  bal := fun v a b => by
    rw [← net_cong e]
    exact h.bal v a b
theorem net_off {l : List Strm} {s : Strm} {f : Str → Int} {v : Str} (h1 : s.tail ≠ v) (h2 : s.head ≠ v) : net (l ++ [s]) f v = net l f v := by
  rw [net_snoc, if_neg h1, if_neg h2]
  omega
theorem good_step {l r : List Strm} {s : Strm} {lim : Str → Int × Int} {f : Str → Int} : Good (l ++ [s]) r lim f ↔ Good l (s :: r) lim f ∧ ((lim s.name).1 ≤ f s.name ∧ f s.name ≤ (lim s.name).2) ∧
    ∀ v, (v = s.tail ∨ v = s.head) → (∀ s' ∈ r, s'.tail ≠ v ∧ s'.head ≠ v) → net (l ++ [s]) f v = 0 := by
  constructor
  · intro h
    refine ⟨⟨fun t ht => h.lo t (List.mem_append_left _ ht), fun v ⟨t, ht, e⟩ b => ?_⟩, h.lo s (List.mem_append_right _ (List.mem_singleton.mpr rfl)), fun v e b => ?_⟩
    · have b1 := b s List.mem_cons_self
      rw [← net_off b1.1 b1.2]
      exact h.bal v ⟨t, List.mem_append_left _ ht, e⟩ fun t ht => b t (List.mem_cons_of_mem _ ht)
    · exact h.bal v ⟨s, List.mem_append_right _ (List.mem_singleton.mpr rfl), e.imp Eq.symm Eq.symm⟩ b
  · rintro ⟨h, h1, h2⟩
    refine ⟨fun t ht => ?_, fun v ⟨t, ht, e⟩ b => ?_⟩
    · rcases List.mem_append.mp ht with ht | ht
      · exact h.lo t ht
      · rw [List.mem_singleton.mp ht]
        exact h1
    · by_cases c : v = s.tail ∨ v = s.head
      · exact h2 v c b
      · have c1 : s.tail ≠ v := fun z => c (.inl z.symm)
        have c2 : s.head ≠ v := fun z => c (.inr z.symm)
        rw [net_off c1 c2]
        refine h.bal v ⟨t, ?_, e⟩ fun t ht => ?_
        · rcases List.mem_append.mp ht with ht | ht
          · exact ht
          · rw [List.mem_singleton.mp ht] at e
            exact absurd (e.imp Eq.symm Eq.symm) c
        · rcases List.mem_cons.mp ht with z | ht
          · rw [z]
            exact ⟨c1, c2⟩
          · exact b t ht
theorem good_end {ks : List Str} {l : List Strm} {lim : Str → Int × Int} {f : Str → Int} (ht : ∀ s ∈ l, s.tail ∈ ks) (hh : ∀ s ∈ l, s.head ∈ ks) : Good l [] lim f ↔ Feas ks l lim f := by
  constructor
  · intro h
    refine ⟨fun s hs => (h.lo s hs).1, fun s hs => (h.lo s hs).2, fun k _ => ?_⟩
    by_cases c : ∃ s ∈ l, s.tail = k ∨ s.head = k
    · exact h.bal k c fun s hs => nomatch hs
    · unfold net
      refine sum_zero fun s hs => ?_
      rw [if_neg fun z => c ⟨s, hs, .inr z⟩, if_neg fun z => c ⟨s, hs, .inl z⟩]
      rfl
  · intro h
    refine ⟨fun s hs => ⟨h.lo s hs, h.hi s hs⟩, fun v ⟨s, hs, e⟩ _ => h.bal v ?_⟩
    rcases e with e | e
    · rw [← e]
      exact ht s hs
    · rw [← e]
      exact hh s hs
/-- the rows: good flows, and all of them -/
structure Rows (l r : List Strm) (lim : Str → Int × Int) (rows : List (Str → Int)) : Prop where
  ok : ∀ g ∈ rows, Good l r lim g
  all : ∀ f, Good l r lim f → ∃ g ∈ rows, ∀ s ∈ l, g s.name = f s.name
theorem Rows.start {r : List Strm} {lim : Str → Int × Int} {g : Str → Int} : Rows [] r lim [g] := ⟨fun g _ => good_nil, fun f _ => ⟨g, List.mem_singleton.mpr rfl, fun s h => nomatch h⟩⟩
def shutV (s : Strm) (r : List Strm) (v : Str) : Prop := (v = s.tail ∨ v = s.head) ∧ ∀ s' ∈ r, s'.tail ≠ v ∧ s'.head ≠ v
theorem Rows.step {l r : List Strm} {s : Strm} {lim : Str → Int × Int} {rows fs : List (Str → Int)} (n : ((l ++ [s]).map (·.name)).Nodup) (h : Rows l (s :: r) lim rows)
    (h1 : ∀ g ∈ fs, ∃ g0 ∈ rows, ∃ x, (lim s.name).1 ≤ x ∧ x ≤ (lim s.name).2 ∧ g = up g0 s.name x ∧ ∀ v, shutV s r v → net (l ++ [s]) g v = 0)
    (h2 : ∀ g0 ∈ rows, ∀ x, (lim s.name).1 ≤ x → x ≤ (lim s.name).2 → (∀ v, shutV s r v → net (l ++ [s]) (up g0 s.name x) v = 0) → up g0 s.name x ∈ fs) : Rows (l ++ [s]) r lim fs := by
  rw [List.map_append] at n
  have nn := List.nodup_append.mp n
  have hne : ∀ t ∈ l, t.name ≠ s.name := fun t ht e => nn.2.2 t.name (List.mem_map.mpr ⟨t, ht, rfl⟩) s.name (List.mem_singleton.mpr rfl) e
  refine ⟨fun g hg => ?_, fun f hf => ?_⟩
  · obtain ⟨g0, m0, x, x1, x2, rfl, hs⟩ := h1 g hg
    refine good_step.mpr ⟨(h.ok g0 m0).cong fun t ht => (up_ne (hne t ht)).symm, by rw [up_same]; exact ⟨x1, x2⟩, fun v a b => hs v ⟨a, b⟩⟩
  · obtain ⟨f1, f2, f3⟩ := good_step.mp hf
    obtain ⟨g0, m0, e0⟩ := h.all f f1
    have e1 : ∀ t ∈ l ++ [s], up g0 s.name (f s.name) t.name = f t.name := fun t ht => by
      rcases List.mem_append.mp ht with ht | ht
      · rw [up_ne (hne t ht)]
        exact e0 t ht
      · rw [List.mem_singleton.mp ht, up_same]
    refine ⟨_, h2 g0 m0 (f s.name) f2.1 f2.2 fun v hv => ?_, e1⟩
    rw [net_cong e1]
    exact f3 v hv.1 hv.2
end M
end
-- part X1
section
set_option Elab.async false
set_option linter.all false
set_option maxRecDepth 100000
set_option maxHeartbeats 4000000
namespace M
open PySem PySem.Spec PyProof.Rows L2
local macro_rules | `(tactic| walk_at "f") => `(tactic| (first
  | assumption
  | exact upd_same
  | exact Same.refl _
  | exact flat_strs
  | exact fd_keys
  | ((with_reducible apply same_at); assumption; walk_at "f")
  | ((with_reducible apply tupOf); walk_at "f")
  | ((with_reducible apply lstOf); walk_at "f")
  | ((with_reducible apply tyV_l); walk_at "f")
  | ((with_reducible apply Rd.of); walk_at "f")
  | ((with_reducible apply dget_ne); assumption; assumption)
  | ((with_reducible apply dget_fd) <;> walk_at "f")
  | ((with_reducible apply dput_int) <;> walk_at "f")
  | ((with_reducible apply dput_fd) <;> walk_at "f")
  | ((with_reducible apply rd_upd); assumption; walk_at "f")
  | ((with_reducible apply at_upd); assumption; walk_at "f")
  | ((with_reducible apply same_put); walk_at "f"; assumption)
  | ((with_reducible apply sx_upd) <;> walk_at "f")
  | ((with_reducible refine Same.trans ?_ (by assumption)); walk_at "f")
  | exact Nat.le_of_lt (small1000 (by first | assumption | omega))
  | exact (Nat.zero_le _ : 0 ≤ sizeLine)
  | exact (by decide : 1 ≤ sizeLine)
  | exact (by decide : 2 ≤ sizeLine)
  | exact (by decide : 3 ≤ sizeLine)
  | exact (by decide : 5 ≤ sizeLine)
  | exact (by decide : 6 ≤ sizeLine)
  | exact cmulL (by omega) (by omega)
  | exact cmulR (by omega) (by omega)
  | ((with_reducible apply SameE.upd); walk_at "f")
  | (show _ < 1000; exact of_decide_eq_true rfl)
  | exact len2 (by omega) (by omega)
  | exact small1000 (by first | assumption | omega)
  | ((with_reducible apply StL.same); assumption; walk_at "f")
  | ((with_reducible apply LT.same); assumption; walk_at "f")
  | ((with_reducible apply IsP.same); assumption; walk_at "f")
  | ((with_reducible apply IsPl.same); assumption; walk_at "f")
  | ((with_reducible apply IntD.same); assumption; walk_at "f")
  | ((with_reducible apply PrD.same); assumption; walk_at "f")
  | ((with_reducible apply Or.inl); walk_at "f")
  | ((with_reducible apply Or.inr); walk_at "f")
  | omega))
local macro_rules | `(tactic| walk_at "g") => `(tactic| repeat (first
  | assumption
  | with_reducible apply And.intro
  | with_reducible apply Exists.intro
  | exact rfl
  | walk_at "f"
  | exact iteT (by assumption)
  | exact iteF (by assumption)
  | ((with_reducible apply iteD); (first | assumption | omega))
  | ((with_reducible apply iteN); (first | assumption | omega))
  | ((with_reducible apply iteD2); (first | assumption | omega))
  | ((with_reducible apply iteN2); (first | assumption | omega))
  | apply And.intro
  | apply Exists.intro))
section
variable {P : Program} {w : World} {K : PySem.W.Frag} {mg : Str → Option Value} {base : Heap}
theorem intI {X : Cx} : CallR X (.type "int") (fun xs H Q => ∃ i, xs = [.int i] ∧ Q (.int i) H) := call_imp call_int1 fun xs H Q ⟨i, e, q⟩ => .inl ⟨i, e, q⟩
theorem intB {X : Cx} : CallR X (.type "int") (fun xs H Q => ∃ k, xs = [.bl k] ∧ Q (.int (if k then 1 else 0)) H) := call_imp call_int1 fun xs H Q ⟨i, e, q⟩ => .inr ⟨i, e, q⟩
theorem emod_in (x : Int) {n : Int} (h : 0 < n) : 0 ≤ x % n ∧ x % n < n := ⟨Int.emod_nonneg x (by omega), Int.emod_lt_of_pos x h⟩
def sp_L_row (K : PySem.W.Frag) : Sp := fun vs H Q _ => ∃ c m, vs = [.int c, .int m] ∧ 0 ≤ m ∧ m ≤ 100 ∧ ∀ H' a, ∀ ns : List Int, Same H H' → H a = none → ns.length = m.toNat → (∀ x ∈ ns, 0 ≤ x ∧ x ≤ 1008) → H' a = some (.lst (ns.map V.int)) → Q (.ref a) H'
theorem sc_L_row : FnScope ["_law_cell", "_law_many", "_law_row_here", "_law_rest", "_law_state", "_law_k"] ["_law_cell", "_law_many"] (defScope s_L_row) := ⟨rfl, rfl, rfl, by decide +kernel, rfl, by decide +kernel, by decide +kernel⟩
theorem ok_L_row (T : Tx K mg) : Has P w K mg base CX0 1 (A_L_row K) ["_law_cell", "_law_many"] [] (sp_L_row K) := by
  obtain ⟨fd, F⟩ := T.F_L_row
  refine ⟨fd, [], F.ok sc_L_row (fun vs H Q E h => by
    obtain ⟨_, _, rfl, _⟩ := h
    rfl) (fun cdv A outer s H vs Q E hr h => ?_), F.bindsN (fun _ _ _ _ _ _ us hl => match us, hl with | [_, _], _ => rfl), .nil, F.kp⟩
  obtain ⟨c, m, rfl, hm, hm2, q⟩ := h
  refine ⟨_, (pss_cons (ps_set (i := 2) sc_L_row.nd rfl (Or.inl rfl) (pe_lst pa_nil))
      (pss_cons (ps_set (i := 3) sc_L_row.nd rfl (Or.inl rfl) (pe_int))
      (pss_cons (psCut (ps_if (pt_cmpR op_ge (pe_callB call_abs (by rfl) T.b_abs (by decide +kernel) (pa_cons (pv 0) pa_nil)) (pe_op op_pow (pe_int) (pe_int)) (nomark _))
      (pss_one (ps_set (i := 3) sc_L_row.nd rfl (Or.inl rfl) (pe_callB call_abs (by rfl) T.b_abs (by decide +kernel) (pa_cons (pv 0) pa_nil))))
      pss_nil))
      (pss_cons (ps_set (i := 4) sc_L_row.nd rfl (Or.inl rfl) (pe_op op_mod (pe_callTy intI (by rfl) T.b_int (by decide +kernel) (pa_cons (pe_callB call_abs (by rfl) T.b_abs (by decide +kernel) (pa_cons (pv 0) pa_nil)) pa_nil)) (pe_int)))
      (pss_cons (psFor (passes_of rfl) rfl (pi_range1 (by rfl) T.b_range (pa_cons (pv 1) pa_nil)) (pg_name (i := 5) sc_L_row.nd rfl (Or.inl rfl))
      (pss_cons (ps_set (i := 4) sc_L_row.nd rfl (Or.inl rfl) (pe_op op_mod (pe_callTy intI (by rfl) T.b_int (by decide +kernel) (pa_cons (pe_op op_add (pe_op op_mul (pe_op op_add (pv 4) (pe_int)) (pe_int)) (pe_op op_mul (pe_int) (pv 5))) pa_nil)) (pe_int)))
      (pss_one (ps_if (pt_cmpR op_gt (pv 3) (pe_int) (nomark _))
      (pss_cons (ps_expr (pe_bm PySem.F.plainAttrs_list PySem.F.slot_list_append PySem.F.type_list_append mt_append (pv 2) (pa_cons (pe_op op_mod (pe_callTy intI (by rfl) T.b_int (by decide +kernel) (pa_cons (pv 3) pa_nil)) (pe_int)) pa_nil)))
      (pss_one (ps_set (i := 3) sc_L_row.nd rfl (Or.inl rfl) (pe_op op_fdiv (pv 3) (pe_int)))))
      (pss_one (ps_expr (pe_bm PySem.F.plainAttrs_list PySem.F.slot_list_append PySem.F.type_list_append mt_append (pv 2) (pa_cons (pe_op op_mod (pe_callTy intI (by rfl) T.b_int (by decide +kernel) (pa_cons (pe_op op_fdiv (pv 4) (pe_int)) pa_nil)) (pe_int)) pa_nil))))))))
      (pss_one (ps_ret (pv 2)))))))), ?_⟩
  walk_at "g"
  intro D n_D; generalize hG : upd H D _ = H1; have s_H1 : Same H H1 := nw_same n_D hG; have e_D := nw_at hG; clear hG
  walk_at "g"
  refine Cut.of (fun σ H' => Hold (∃ rest : Int, σ = [some (.int c), some (.int m), some (.ref D), some (.int rest), none, none] ∧ H' = H1)) ?_ (fun σ H' hh => ?_)
  · walk_at "g"
    · refine ite_d (fun e => ?_) (fun e => ?_)
      · walk_at "g"
        exact ⟨_, rfl, rfl⟩
      · walk_at "g"
        exact ⟨_, rfl, rfl⟩
  · obtain ⟨rest, rfl, rfl⟩ := hh.go
    have p1 : (0 : Int) < 2147483647 := by decide
    have p2 : (0 : Int) < 1009 := by decide
    walk_at "g"
    refine ⟨forG (wk_range (lo := 0) (n := m.toNat)) (fun i σ H' => Hold (∃ y5, ∃ rest st : Int, ∃ ns : List Int, σ = [some (.int c), some (.int m), some (.ref D), some (.int rest), some (.int st), y5] ∧ Same H H' ∧ H' D = some (.lst (ns.map V.int)) ∧ ns.length = i ∧ (∀ x ∈ ns, 0 ≤ x ∧ x ≤ 1008)))
      ⟨none, rest, _, [], rfl, s_H1, e_D, rfl, fun x h => nomatch h⟩ (fun i σ H' _ h => trivial) (fun i x v σ H' H'' ex h s5 hv2 => ?_) (fun σ H' h => ?_)⟩
    · obtain ⟨y5, rest, st, ns, rfl, t1, t2, t3, t4⟩ := h.go
      subst hv2
      have hi := (List.getElem?_eq_some_iff.mp ex).1
      rw [List.length_range] at hi
      have t2' := s5 _ _ t2
      have hnl : (ns.map V.int).length ≤ 1000 := by rw [List.length_map]; omega
      have p3 : (0 : Int) < 2048 := by decide
      walk_at "g"
      have fin : ∀ z : Int, 0 ≤ z ∧ z < 1009 → Same H (upd H'' D (.lst (ns.map V.int ++ [V.int z]))) ∧ (upd H'' D (.lst (ns.map V.int ++ [V.int z]))) D = some (.lst ((ns ++ [z]).map V.int)) ∧ (ns ++ [z]).length = i + 1 ∧ (∀ x ∈ ns ++ [z], 0 ≤ x ∧ x ≤ 1008) := fun z hz =>
        ⟨same_put (t1.trans s5) n_D, by rw [upd_same, List.map_append]; rfl, by rw [List.length_append, t3]; rfl, fun x hx => by
          rcases List.mem_append.mp hx with hx | hx
          · exact t4 x hx
          · rw [List.mem_singleton.mp hx]
            omega⟩
      refine ite_d (fun e => ?_) (fun e => ?_)
      · walk_at "g"
        exact ⟨_, _, _, _, rfl, fin _ (emod_in _ (by decide))⟩
      · walk_at "g"
        exact ⟨_, _, _, _, rfl, fin _ (emod_in _ (by decide))⟩
    · obtain ⟨y5, rest, st, ns, rfl, t1, t2, t3, t4⟩ := h.go
      walk_at "g"
      exact q H' D ns t1 n_D (by rw [t3, List.length_range]) t4 t2
end
end M
end
-- part X2
section
set_option Elab.async false
set_option linter.all false
set_option maxRecDepth 100000
set_option maxHeartbeats 4000000
namespace M
open PySem PySem.Spec PyProof.Rows L2
local macro_rules | `(tactic| walk_at "f") => `(tactic| (first
  | assumption
  | exact upd_same
  | exact Same.refl _
  | exact flat_strs
  | exact fd_keys
  | ((with_reducible apply same_at); assumption; walk_at "f")
  | ((with_reducible apply tupOf); walk_at "f")
  | ((with_reducible apply lstOf); walk_at "f")
  | ((with_reducible apply tyV_l); walk_at "f")
  | ((with_reducible apply Rd.of); walk_at "f")
  | ((with_reducible apply dget_ne); assumption; assumption)
  | ((with_reducible apply dget_fd) <;> walk_at "f")
  | ((with_reducible apply dput_int) <;> walk_at "f")
  | ((with_reducible apply dput_fd) <;> walk_at "f")
  | ((with_reducible apply rd_upd); assumption; walk_at "f")
  | ((with_reducible apply at_upd); assumption; walk_at "f")
  | ((with_reducible apply same_put); walk_at "f"; assumption)
  | ((with_reducible apply sx_upd) <;> walk_at "f")
  | ((with_reducible refine Same.trans ?_ (by assumption)); walk_at "f")
  | exact Nat.le_of_lt (small1000 (by first | assumption | omega))
  | exact (Nat.zero_le _ : 0 ≤ sizeLine)
  | exact (by decide : 1 ≤ sizeLine)
  | exact (by decide : 2 ≤ sizeLine)
  | exact (by decide : 3 ≤ sizeLine)
  | exact (by decide : 5 ≤ sizeLine)
  | exact (by decide : 6 ≤ sizeLine)
  | exact cmulL (by omega) (by omega)
  | exact cmulR (by omega) (by omega)
  | ((with_reducible apply SameE.upd); walk_at "f")
  | (show _ < 1000; exact of_decide_eq_true rfl)
  | exact len2 (by omega) (by omega)
  | exact small1000 (by first | assumption | omega)
  | ((with_reducible apply StL.same); assumption; walk_at "f")
  | ((with_reducible apply LT.same); assumption; walk_at "f")
  | ((with_reducible apply IsP.same); assumption; walk_at "f")
  | ((with_reducible apply IsPl.same); assumption; walk_at "f")
  | ((with_reducible apply IntD.same); assumption; walk_at "f")
  | ((with_reducible apply PrD.same); assumption; walk_at "f")
  | ((with_reducible apply Or.inl); walk_at "f")
  | ((with_reducible apply Or.inr); walk_at "f")
  | omega))
local macro_rules | `(tactic| walk_at "g") => `(tactic| repeat (first
  | assumption
  | with_reducible apply And.intro
  | with_reducible apply Exists.intro
  | exact rfl
  | walk_at "f"
  | exact iteT (by assumption)
  | exact iteF (by assumption)
  | ((with_reducible apply iteD); (first | assumption | omega))
  | ((with_reducible apply iteN); (first | assumption | omega))
  | ((with_reducible apply iteD2); (first | assumption | omega))
  | ((with_reducible apply iteN2); (first | assumption | omega))
  | apply And.intro
  | apply Exists.intro))
section
variable {P : Program} {w : World} {K : PySem.W.Frag} {mg : Str → Option Value} {base : Heap}
theorem cutV_map {α : Type} {f : α → V} {l : List α} {lo hi : Option Int} : cutV (l.map f) lo hi = ((l.drop (HT.sIx l.length 0 lo)).take (HT.sIx l.length l.length hi - HT.sIx l.length 0 lo)).map f := by
  unfold cutV
  rw [List.length_map, List.map_take, List.map_drop]
theorem big_size {n : Nat} (h : n ≤ 10000000) : n < sizeLine := by
  rw [sizeLine_eq]
  omega
def sp_L_numbers (K : PySem.W.Frag) : Sp := fun vs H Q _ => ∃ a, ∃ cs : List Int, vs = [.ref a, .int 60] ∧ SqL K H a (cs.map V.int) ∧ cs.length ≤ 63 ∧ ∀ H' b, ∀ ns : List Int, Same H H' → ns.length = 60 → (∀ x ∈ ns, 0 ≤ x ∧ x ≤ 1008) → H' b = some (.lst (ns.map V.int)) → Q (.ref b) H'
theorem sc_L_numbers : FnScope ["_law_script", "_law_many", "_law_cells", "_law_each", "_law_numbers_here", "_law_cell", "_law_number"] ["_law_script", "_law_many"] (defScope s_L_numbers) := ⟨rfl, rfl, rfl, by decide +kernel, rfl, by decide +kernel, by decide +kernel⟩
theorem ok_L_numbers (T : Tx K mg) : Has P w K mg base CX0 2 (A_L_numbers K) ["_law_script", "_law_many"] [] (sp_L_numbers K) := by
  obtain ⟨fd, F⟩ := T.F_L_numbers
  refine ⟨fd, [], F.ok sc_L_numbers (fun vs H Q E h => by
    obtain ⟨_, _, rfl, _⟩ := h
    rfl) (fun cdv A outer s H vs Q E hr h => ?_), F.bindsN (fun _ _ _ _ _ _ us hl => match us, hl with | [_, _], _ => rfl), .nil, F.kp⟩
  obtain ⟨a, cs, rfl, ha, hl, q⟩ := h
  refine ⟨_, (pss_cons (ps_set (i := 2) sc_L_numbers.nd rfl (Or.inl rfl) (pe_slice sl_list (pv 0) po_none (po_some (pe_int))))
      (pss_cons (ps_set (i := 3) sc_L_numbers.nd rfl (Or.inl rfl) (pe_op op_add (pe_int) (pe_op op_fdiv (pv 1) (pe_callB (call_max2 rfl) (by rfl) T.b_max (by decide +kernel) (pa_cons (pe_int) (pa_cons (pe_callB lenL (by rfl) T.b_len (by decide +kernel) (pa_cons (pv 2) pa_nil)) pa_nil))))))
      (pss_cons (ps_set (i := 4) sc_L_numbers.nd rfl (Or.inl rfl) (pe_lst pa_nil))
      (pss_cons (psFor (passes_of rfl) rfl (pi_list (pv 2)) (pg_name (i := 5) sc_L_numbers.nd rfl (Or.inl rfl))
      (pss_one (psFor (passes_of rfl) rfl (pi_list (hc (ok_L_row T) (hr.mono (by decide)) T.g_L_row pass0 (pa_cons (pv 5) (pa_cons (pv 3) pa_nil)))) (pg_name (i := 6) sc_L_numbers.nd rfl (Or.inl rfl))
      (pss_one (ps_expr (pe_bm PySem.F.plainAttrs_list PySem.F.slot_list_append PySem.F.type_list_append mt_append (pv 4) (pa_cons (pv 6) pa_nil)))))))
      (pss_cons (psWhl (passes_of rfl) (pt_cmpR op_lt (pe_callB lenL (by rfl) T.b_len (by decide +kernel) (pa_cons (pv 4) pa_nil)) (pv 1) (nomark _))
      (pss_one (ps_expr (pe_bm PySem.F.plainAttrs_list PySem.F.slot_list_append PySem.F.type_list_append mt_append (pv 4) (pa_cons (pe_int) pa_nil)))))
      (pss_one (ps_ret (pe_slice slL (pv 4) po_none (po_some (pv 1)))))))))), ?_⟩
  walk_at "g"
  intro C n_C
  generalize hcl : (cs.drop (HT.sIx cs.length 0 none)).take (HT.sIx cs.length cs.length (some 63) - HT.sIx cs.length 0 none) = cl
  have hcl2 : cl.length ≤ 63 := by
    rw [← hcl, List.length_take, List.length_drop]
    omega
  rw [cutV_map, hcl]
  clear hcl
  generalize hG : upd H C _ = H1
  have s_H1 := nw_same n_C hG
  have e_C := nw_at hG
  clear hG
  have p1 : (0 : Int) < 60 := by decide
  have hl9 : (cl.map V.int).length ≤ 63 := by
    rw [List.length_map]
    exact hcl2
  have hm1 : 1 ≤ (if ((cl.map V.int).length : Int) > 1 then ((cl.map V.int).length : Int) else 1) := by
    split <;> omega
  have hb : 0 ≤ 60 / (if ((cl.map V.int).length : Int) > 1 then ((cl.map V.int).length : Int) else 1) ∧ 60 / (if ((cl.map V.int).length : Int) > 1 then ((cl.map V.int).length : Int) else 1) ≤ 60 :=
    ⟨Int.ediv_nonneg (by decide) (by omega), Int.ediv_le_self _ (by decide)⟩
  walk_at "g"
  intro D n_D; generalize hG : upd H1 D _ = H2; have s_H2 : Same H1 H2 := nw_same n_D hG; have e_D := nw_at hG; clear hG
  have e_C2 := s_H2 _ _ e_C
  walk_at "g"
  refine ⟨forG (wk_listM (ys := cl) (m := V.int)) (fun i σ H' => Hold (∃ y5 y6, ∃ e : Int, ∃ ns : List Int, σ = [some (.ref a), some (.int 60), some (.ref C), some (.int e), some (.ref D), y5, y6] ∧ 0 ≤ e ∧ e ≤ 61 ∧ Same H1 H' ∧ H' D = some (.lst (ns.map V.int)) ∧ ns.length ≤ i * 61 ∧ (∀ x ∈ ns, 0 ≤ x ∧ x ≤ 1008)))
    ⟨none, none, _, [], rfl, by show 0 ≤ 1 + _; omega, by show 1 + _ ≤ _; omega, s_H2, e_D, Nat.zero_le _, fun x h => nomatch h⟩ (fun i σ H' _ h => ?_) (fun i x v σ H' H'' ex h s5 hv2 => ?_) (fun σ H' h => ?_)⟩
  · obtain ⟨y5, y6, e, ns, rfl, t0, t1, t2, t3, t4, t5⟩ := h.go
    exact lstOf (t2 _ _ e_C)
  · obtain ⟨y5, y6, e, ns, rfl, t0, t1, t2, t3, t4, t5⟩ := h.go
    subst hv2
    have hi := (List.getElem?_eq_some_iff.mp ex).1
    have t2' := t2.trans s5
    have t3' := s5 _ _ t3
    have he : e ≤ 100 := by omega
    walk_at "g"
    intro H4 r ms s6 nr hml hmr er
    have t2'' := t2'.trans s6
    have t3'' := s6 _ _ t3'
    walk_at "g"
    refine ⟨forG (wk_listM (ys := ms) (m := V.int)) (fun j σ H' => Hold (∃ y6, ∃ ns : List Int, σ = [some (.ref a), some (.int 60), some (.ref C), some (.int e), some (.ref D), some (.int x), y6] ∧ H' r = some (.lst (ms.map V.int)) ∧ Same H1 H' ∧ H' D = some (.lst (ns.map V.int)) ∧ ns.length ≤ i * 61 + j ∧ (∀ x ∈ ns, 0 ≤ x ∧ x ≤ 1008)))
      ⟨_, ns, rfl, er, t2'', t3'', t4, t5⟩ (fun i σ H' _ h => ?_) (fun j y v σ H5 H6 ey h s7 hv3 => ?_) (fun σ H' h => ?_)⟩
    · obtain ⟨y6, ns, rfl, u0, u1, u2, u3, u4⟩ := h.go
      exact lstOf u0
    · obtain ⟨y6, ns, rfl, u0, u1, u2, u3, u4⟩ := h.go
      subst hv3
      have hj := (List.getElem?_eq_some_iff.mp ey).1
      have u2' := s7 _ _ u2
      have u0' := s7 _ _ u0
      have u1' := u1.trans s7
      have hnl : (ns.map V.int).length < sizeLine := big_size (by
        rw [List.length_map]
        have : i * 61 ≤ 63 * 61 := Nat.mul_le_mul_right _ (by omega)
        omega)
      have hrD : r ≠ D := (ne_of_none t3' nr).symm
      walk_at "g"
      refine ⟨_, ns ++ [y], rfl, at_upd hrD u0', same_put u1' n_D, by rw [upd_same, List.map_append]; rfl, by rw [List.length_append]; exact Nat.succ_le_succ u3, fun x hx => ?_⟩
      rcases List.mem_append.mp hx with hx | hx
      · exact u4 x hx
      · rw [List.mem_singleton.mp hx]
        exact hmr y (List.mem_of_getElem? ey)
    · obtain ⟨y6, ns, rfl, u0, u1, u2, u3, u4⟩ := h.go
      refine ⟨_, _, e, ns, rfl, t0, t1, u1, u2, ?_, u4⟩
      rw [hml] at u3
      rw [Nat.succ_mul]
      omega
  · obtain ⟨y5, y6, e, ns, rfl, t0, t1, t2, t3, t4, t5⟩ := h.go
    walk_at "g"
    refine ⟨whileG (fun n σ H' => Hold (∃ ns : List Int, σ = [some (.ref a), some (.int 60), some (.ref C), some (.int e), some (.ref D), y5, y6] ∧ Same H1 H' ∧ H' D = some (.lst (ns.map V.int)) ∧ ns.length ≤ 5000 ∧ (∀ x ∈ ns, 0 ≤ x ∧ x ≤ 1008) ∧ n = 60 - ns.length)) _
      ⟨ns, rfl, t2, t3, by
        have : cl.length * 61 ≤ 63 * 61 := Nat.mul_le_mul_right _ hcl2
        omega, t5, rfl⟩ (fun n σ H' h => ?_)⟩
    obtain ⟨ns, rfl, t2, t3, t4, t5, rfl⟩ := h.go
    have hcut : cutV (ns.map V.int) none (some 60) = (ns.take 60).map V.int := by
      have e1 : HT.sIx (ns.map V.int).length (ns.map V.int).length (some 60) = min 60 (ns.map V.int).length := HT.sIx_nat _ _ 60
      unfold cutV
      rw [HT.sIx_none, e1, List.drop_zero, List.map_take, Nat.sub_zero]
      by_cases z : 60 ≤ (ns.map V.int).length
      · rw [Nat.min_eq_left z]
      · rw [Nat.min_eq_right (by omega), List.take_length, List.take_of_length_le (by omega)]
    walk_at "g"
    refine ite_d (fun c => ?_) (fun c => ?_)
    · have c2 : ns.length < 60 := by
        rw [List.length_map] at c
        omega
      have hnl : (ns.map V.int).length < sizeLine := big_size (by
        rw [List.length_map]
        omega)
      walk_at "g"
      refine Dec.of (60 - (ns ++ [0]).length) (by rw [List.length_append]; show 60 - (ns.length + 1) < _; omega) ⟨ns ++ [0], rfl, same_put t2 n_D, by rw [upd_same, List.map_append]; rfl, by rw [List.length_append]; show ns.length + 1 ≤ _; omega, fun x hx => ?_, rfl⟩
      rcases List.mem_append.mp hx with hx | hx
      · exact t5 x hx
      · rw [List.mem_singleton.mp hx]
        omega
    · have c2 : 60 ≤ ns.length := by
        rw [List.length_map] at c
        omega
      walk_at "g"
      intro b n_b
      generalize hG : upd H' b _ = H9
      have s_H9 := nw_same n_b hG
      have e_b := nw_at hG
      clear hG
      rw [hcut] at e_b
      exact q H9 b (ns.take 60) ((s_H1.trans t2).trans s_H9) (by rw [List.length_take]; omega) (fun x hx => t5 x (List.mem_of_mem_take hx)) e_b
end
end M
end
-- part W31
section
set_option Elab.async false
set_option linter.all false
set_option maxRecDepth 100000
set_option maxHeartbeats 4000000
namespace M
open PySem PySem.Spec PyProof.Rows L2
local macro_rules | `(tactic| walk_at "e") => `(tactic| (first
  | exact rfl
  | assumption
  | exact upd_same
  | exact flat_strs
  | exact fd_keys
  | ((with_reducible apply same_at); assumption; walk_at "f")
  | ((with_reducible apply at_upd); assumption; walk_at "f")
  | omega))
local macro_rules | `(tactic| walk_at "n") => `(tactic| (first
  | assumption
  | omega
  | exact Nat.le_of_lt (small1000 (by first | assumption | omega))
  | exact (Nat.zero_le _ : 0 ≤ sizeLine)
  | exact (by decide : 1 ≤ sizeLine)
  | exact (by decide : 2 ≤ sizeLine)
  | exact (by decide : 3 ≤ sizeLine)
  | exact (by decide : 5 ≤ sizeLine)
  | exact (by decide : 6 ≤ sizeLine)
  | (show _ < 1000; exact of_decide_eq_true rfl)
  | exact len2 (by omega) (by omega)
  | exact small1000 (by first | assumption | omega)))
local macro_rules | `(tactic| walk_at "f") => `(tactic| (first
  | with_reducible assumption
  | ((with_reducible apply gEq); walk_at "e")
  | ((with_reducible apply gLe); walk_at "n")
  | ((with_reducible apply gLt); walk_at "n")
  | ((with_reducible apply gNot); (first | assumption | omega))
  | with_reducible exact Same.refl _
  | ((with_reducible apply tupOf); walk_at "f")
  | ((with_reducible apply lstOf); walk_at "f")
  | ((with_reducible apply gCls); assumption)
  | ((with_reducible apply gNoAttr); assumption)
  | ((with_reducible apply gIsPl); assumption)
  | ((with_reducible apply gStL); assumption)
  | ((with_reducible apply gIntD); assumption)
  | ((with_reducible apply gSqT); assumption)
  | ((with_reducible apply gSqL); assumption)
  | ((with_reducible apply tyV_l); walk_at "f")
  | ((with_reducible apply Rd.of); walk_at "f")
  | ((with_reducible apply dget_ne); assumption; assumption)
  | ((with_reducible apply dget_fd) <;> walk_at "f")
  | ((with_reducible apply dput_int) <;> walk_at "f")
  | ((with_reducible apply dput_fd) <;> walk_at "f")
  | ((with_reducible apply rd_upd); assumption; walk_at "f")
  | ((with_reducible apply same_put); walk_at "f"; assumption)
  | ((with_reducible apply sx_upd) <;> walk_at "f")
  | ((with_reducible refine Same.trans ?_ (by assumption)); walk_at "f")
  | ((with_reducible apply cmulLg); omega; omega)
  | ((with_reducible apply cmulRg); omega; omega)
  | ((with_reducible apply SameE.upd); walk_at "f")
  | ((with_reducible apply StL.same); assumption; walk_at "f")
  | ((with_reducible apply LT.same); assumption; walk_at "f")
  | ((with_reducible apply IsP.same); assumption; walk_at "f")
  | ((with_reducible apply IsPl.same); assumption; walk_at "f")
  | ((with_reducible apply IntD.same); assumption; walk_at "f")
  | ((with_reducible apply PrD.same); assumption; walk_at "f")
  | ((with_reducible apply Or.inl); walk_at "f")
  | ((with_reducible apply Or.inr); walk_at "f")))
local macro_rules | `(tactic| walk_at "g") => `(tactic| repeat (first
  | with_reducible apply And.intro
  | with_reducible apply Exists.intro
  | walk_at "f"
  | ((with_reducible apply iteT); assumption)
  | ((with_reducible apply iteF); assumption)
  | ((with_reducible apply iteD); (first | assumption | omega))
  | ((with_reducible apply iteN); (first | assumption | omega))
  | ((with_reducible apply iteD2); (first | assumption | omega))
  | ((with_reducible apply iteN2); (first | assumption | omega))
  | apply And.intro
  | apply Exists.intro))
section
variable {P : Program} {w : World} {K : PySem.W.Frag} {mg : Str → Option Value} {base : Heap}
def tJd (ts : List TE) : TE := fun σ H Q => tJs ts Str.empty σ H fun out H1 => Q (.str out) H1
theorem pe_jd {X : Cx} {v1 v2 : Expr} {rest : List Expr} {ts : List TE} {pos : Pos} (h : PJ X (v1 :: v2 :: rest) ts) : PE X (.JoinedStr (v1 :: v2 :: rest) pos) (tJd ts) := pe_joined h
theorem ip_of {X : Cx} {o : Operator} {r : R2} (h : OpR X (inplaceOp o) r) : PIp X o r := h
theorem log_small {n : Nat} (h : n ≤ 1000000) : n.log2 < 1920 := by
  by_cases z : n = 0
  · subst z
    decide
  · refine (Nat.log2_lt z).mpr (Nat.lt_of_le_of_lt h ?_)
    exact Nat.lt_of_lt_of_le (by decide : 1000000 < 2 ^ 20) (Nat.pow_le_pow_right (by decide) (by decide))
theorem strs_of {α : Type} {N : Nat} : ∀ {xs : List α} {ws : List V}, A2 (fun _ v => ∃ z : Str, v = .str z ∧ z.length ≤ N) xs ws → ∃ ys : List Str, ws = ys.map V.str ∧ ys.length = xs.length ∧ ∀ y ∈ ys, y.length ≤ N
  | _, _, .nil => ⟨[], rfl, rfl, fun y h => nomatch h⟩
  | _, _, .cons ⟨z, e, h⟩ r => by
    obtain ⟨ys, e1, e2, e3⟩ := strs_of r
    refine ⟨z :: ys, by rw [e, e1]; rfl, by rw [List.length_cons, List.length_cons, e2], fun y hy => ?_⟩
    rcases List.mem_cons.mp hy with e4 | hy
    · rw [e4]
      exact h
    · exact e3 y hy
theorem sum_lens {N : Nat} : ∀ {ys : List Str}, (∀ y ∈ ys, y.length ≤ N) → (ys.map (·.length)).sum ≤ ys.length * N
  | [], _ => Nat.zero_le _
  | y :: ys, h => by
    have h1 := h y List.mem_cons_self
    have h2 := sum_lens (ys := ys) fun z hz => h z (List.mem_cons_of_mem _ hz)
    rw [List.map_cons, List.sum_cons, List.length_cons, Nat.succ_mul]
    omega
theorem len_sjoin (sep : Str) : ∀ l : List Str, (Str.join sep l).length ≤ (l.map (·.length)).sum + l.length * sep.length
  | [] => Nat.zero_le _
  | [x] => by
    show x.length ≤ x.length + 0 + _
    omega
  | x :: y :: r => by
    have ih := len_sjoin sep (y :: r)
    show (x ++ sep ++ Str.join sep (y :: r)).length ≤ _
    rw [Str.length_append, Str.length_append, List.map_cons, List.sum_cons, List.length_cons, Nat.succ_mul]
    omega
theorem len_join_le2 (sep : Str) (l : List Str) : (Txt.join sep l).length ≤ (l.map (·.length)).sum + l.length * sep.length := by
  rw [show Txt.join sep l = Str.join sep l from StrLaws.glued_eq_join sep l]
  exact len_sjoin sep l
theorem len_app (a b : Str) : (a ++ b).length = a.length + b.length := Str.length_append a b
theorem emp_app (a : Str) : (Str.empty ++ a).length = a.length := by
  rw [len_app]
  exact Nat.zero_add _
def sp_format_plant (K : PySem.W.Frag) : Sp := fun vs H Q _ => ∃ p pl, vs = [.ref p] ∧ IsPl K H p pl ∧ PV pl ∧ ∀ H' z, Same H H' → Q (.str z) H'
theorem sc_format_plant : FnScope ["plant", "lines", "knot", "stream", "part"] ["plant"] (defScope s_format_plant) := ⟨rfl, rfl, rfl, by decide +kernel, rfl, by decide +kernel, by decide +kernel⟩
theorem ok_format_plant (T : Tx K mg) : Has P w K mg base CX0 3 (A_format_plant K) ["plant"] [] (sp_format_plant K) := by
  obtain ⟨fd, F⟩ := T.F_format_plant
  refine ⟨fd, [], F.ok sc_format_plant (fun vs H Q E h => by
    obtain ⟨_, _, rfl, _⟩ := h
    rfl) (fun cdv A outer s H vs Q E hr h => ?_), F.bindsN (fun _ _ _ _ _ _ us hl => match us, hl with | [_], _ => rfl), .nil, F.kp⟩
  obtain ⟨p, pl, rfl, hP, hpv, q⟩ := h
  obtain ⟨kl, sl, dx, hO⟩ := hP.ex
  have hob := hO.ob
  have hkl := hpv.kl
  have hsl := hpv.sl
  have hln := hpv.ln
  refine ⟨_, (pss_cons (ps_setLc (i := 1) (own := [("knot", 2)]) (g := (gName 2)) rfl sc_format_plant.nd rfl rfl (sw_true rfl rfl rfl (by decide +kernel)) (pi_list (hprop (ok_Plant_knots (K := K) T) (hr.mono (by decide)) T.c_Plant T.p_Plant_knots pass0 (pv 0))) (blkOk_by (own := [("knot", 2)]) (N := ["plant", "lines", "knot", "stream", "part"]) (sc := defScope s_format_plant) (by decide +kernel)) (fun _ _ _ _ _ => (pg_name (i := 2) sc_format_plant.nd rfl (Or.inl rfl))) (fun _ _ _ _ _ => pts_nil) (fun _ _ _ _ _ => (pe_jd (PJ.cons pe_str (PJ.cons (pe_fmt (pv 2)) PJ.nil)))))
      (pss_cons (ps_aug (i := 1) sc_format_plant.nd rfl (Or.inl rfl) (pe_lc (own := [("stream", 3)]) (g := (gName 3)) rfl sc_format_plant.nd (pi_list (hprop (ok_Plant_streams (K := K) T) (hr.mono (by decide)) T.c_Plant T.p_Plant_streams pass0 (pv 0))) (blkOk_by (own := [("stream", 3)]) (N := ["plant", "lines", "knot", "stream", "part"]) (sc := defScope s_format_plant) (by decide +kernel)) (fun _ _ _ _ _ => (pg_name (i := 3) sc_format_plant.nd rfl (Or.inl rfl))) (fun _ _ _ _ _ => pts_nil) (fun _ _ _ _ _ => (joinS pe_str (pe_op op_cat (pe_lst (pa_cons (pe_str) pa_nil)) (pe_lc (wi := iTup K (tVar 3)) (own := [("part", 4)]) (g := (gName 4)) rfl sc_format_plant.nd (pi_tup (pv 3)) (blkOk_by (own := [("part", 4)]) (N := ["plant", "lines", "knot", "stream", "part"]) (by kernel_rfl)) (fun _ _ _ _ _ => (pg_name (i := 4) sc_format_plant.nd rfl (Or.inl rfl))) (fun _ _ _ _ _ => pts_nil) (fun _ _ _ _ _ => (pe_callTy (call_str_int.or SkE.call_str_str) (by rfl) T.b_str (by decide +kernel) (pa_cons (pv 4) pa_nil)))))))) (ip_of iop_ext))
      (pss_one (ps_ret (joinS pe_str (pv 1)))))), ?_⟩
  walk_at "g"
  intro H1 k1 s1 nk1 ek1
  walk_at "g"
  intro D hD
  refine lcG (wk_listM (ys := pl.knots) (m := V.str)) (fun k => some k) (fun _ v _ => ∃ z : Str, v = .str z ∧ z.length ≤ 100) (fun b v H H' s h => h) hD (lstOf ek1) (by omega) (fun i x v H' Ky Kn ex sm _ hv ky kn => ?_) (fun H2 ws s2 eD aD => ?_)
  · subst hv
    have hok := (hpv.ok x (List.mem_of_getElem? ex)).b
    walk_at "g"
    have hl1 : (Str.empty ++ ("knot " : Str)).length = 5 := by decide
    have hl2 : (Str.empty ++ ("knot " : Str) ++ x).length ≤ 100 := by
      rw [len_app, hl1]
      omega
    exact .inl ⟨x, rfl, Nat.le_of_lt (small1000 (by omega)), x, rfl, Nat.le_of_lt (small1000 (by omega)), ky _ _ _ (Same.refl _) rfl ⟨_, rfl, hl2⟩⟩
  · obtain ⟨ys, ews, hyl, hyb⟩ := strs_of aD
    rw [fm_map, List.map_id', ] at hyl
    have S2 : Same H H2 := s1.trans s2
    have hP2 := hP.same S2
    have nD : H D = none := s1.free hD
    walk_at "g"
    intro H3 sa s3 nsa esa
    obtain ⟨us, esa1, esa2⟩ := esa.ex
    walk_at "g"
    intro D2 hD2
    refine lcG (LT.wk (m := sV) (vs := us) (xs := pl.ss)) (fun s => some s) (fun _ v _ => ∃ z : Str, v = .str z ∧ z.length ≤ 100000) (fun b v H H' s h => h) hD2 ⟨lstOf esa1, esa2⟩ (by omega) (fun i x v H' Ky Kn ex sm _ hv ky kn => ?_) (fun H4 ws2 s4 eD2 aD2 => ?_)
    · obtain ⟨t, rfl, ht⟩ := hv
      have hx := List.mem_of_getElem? ex
      have n1 := (hpv.on x.name (List.mem_map.mpr ⟨x, hx, rfl⟩)).b
      have n2 := (hpv.ok _ (hpv.tk x hx)).b
      have n3 := (hpv.ok _ (hpv.hk x hx)).b
      obtain ⟨b1, b2, b3⟩ := hpv.bd x hx
      walk_at "g"
      intro L1 n_L1; generalize hG : upd H' L1 _ = H5; have s_H5 : Same H' H5 := nw_same n_L1 hG; have e_L1 := nw_at hG; clear hG
      have ht5 := s_H5 _ _ ht
      walk_at "g"
      intro D3 hD3
      refine lcG (wk_tupM (ys := sV x) (m := id)) (fun s => some s) (fun _ v _ => ∃ z : Str, v = .str z ∧ z.length ≤ 2000) (fun b v H H' s h => h) hD3 (by rw [List.map_id]; exact tupOf ht5) (by show 5 ≤ 1000; decide) (fun j y v H6 Ky2 Kn2 ey sm2 _ hv2 ky2 kn2 => ?_) (fun H6 ws3 s6 eD3 aD3 => ?_)
      · have hv3 : v = y := hv2
        rw [← hv3] at ey
        have hy := List.mem_of_getElem? ey
        have hy : v = .str x.name ∨ v = .str x.tail ∨ v = .str x.head ∨ v = .int x.low ∨ v = .int x.high := by
          unfold sV at hy
          simpa using hy
        have fS : ∀ z : Str, z.length ≤ 12 → Ky2 (.str z) H6 := fun z hz => ky2 _ _ _ (Same.refl _) rfl ⟨z, rfl, by omega⟩
        have fI : ∀ k : Int, 0 ≤ k → k ≤ 1000000 → Ky2 (.str (toString k)) H6 := fun k h0 h1 => ky2 _ _ _ (Same.refl _) rfl ⟨_, rfl, Nat.le_trans (int_text_len_1921 (log_small (by omega))) (by decide)⟩
        walk_at "g"
        clear hv2 hv3
        rcases hy with e | e | e | e | e <;> subst e
        · exact .inr ⟨_, rfl, fS _ n1⟩
        · exact .inr ⟨_, rfl, fS _ n2⟩
        · exact .inr ⟨_, rfl, fS _ n3⟩
        · exact .inl ⟨_, rfl, log_small (by omega), fI _ (by omega) (by omega)⟩
        · exact .inl ⟨_, rfl, log_small (by omega), fI _ (by omega) (by omega)⟩
      obtain ⟨zs, ews3, hzl, hzb⟩ := strs_of aD3
      rw [fm_map, List.map_id'] at hzl
      have hzl : zs.length = 5 := hzl
      subst ews3
      have eL1 := s6 _ _ e_L1
      have hsz : [V.str "stream"].length + (zs.map V.str).length ≤ sizeLine := by
        rw [List.length_map, hzl]
        exact (by decide : 1 + 5 ≤ sizeLine)
      walk_at "g"
      intro L3 n_L3; generalize hG : upd H6 L3 _ = H7; have s_H7 : Same H6 H7 := nw_same n_L3 hG; have e_L3 := nw_at hG; clear hG
      have eL3 : H7 L3 = some (.lst ((("stream" : Str) :: zs).map V.str)) := e_L3
      have hb : ∀ y ∈ ("stream" : Str) :: zs, y.length ≤ 2000 := fun y hy => by
        rcases List.mem_cons.mp hy with e | hy
        · rw [e]
          decide
        · exact hzb y hy
      have hs1 := sum_lens hb
      have hs2 : ((("stream" : Str) :: zs).map (·.length)).sum + (("stream" : Str) :: zs).length * (" " : Str).length ≤ 16777216 := by
        have e1 : (("stream" : Str) :: zs).length = 6 := by rw [List.length_cons, hzl]
        have e2 : (" " : Str).length = 1 := by decide
        rw [e1] at hs1 ⊢
        rw [e2]
        omega
      walk_at "g"
      have hj := len_join_le2 (" " : Str) (("stream" : Str) :: zs)
      exact ky _ _ _ (s_H5.trans (s6.trans s_H7)) rfl ⟨_, rfl, by
        have e1 : (("stream" : Str) :: zs).length = 6 := by rw [List.length_cons, hzl]
        have e2 : (" " : Str).length = 1 := by decide
        rw [e1, e2] at hj
        rw [e1] at hs1
        omega⟩
    · obtain ⟨ys2, ews2, hyl2, hyb2⟩ := strs_of aD2
      rw [fm_map, List.map_id'] at hyl2
      subst ews ews2
      have eD4 := s4 _ _ (s3 _ _ eD)
      have hsz : (ys.map V.str).length + (ys2.map V.str).length ≤ sizeLine := by
        rw [List.length_map, List.length_map]
        exact Nat.le_of_lt (small1000 (by omega))
      have all3 : ∀ y ∈ ys ++ ys2, y.length ≤ 100000 := fun y hy => by
        rcases List.mem_append.mp hy with hy | hy
        · exact Nat.le_trans (hyb y hy) (by decide)
        · exact hyb2 y hy
      have hs9 := sum_lens all3
      have hl9 : (ys ++ ys2).length ≤ 54 := by
        rw [List.length_append]
        omega
      have hs2 : ((ys ++ ys2).map (·.length)).sum + (ys ++ ys2).length * ("\n" : Str).length ≤ 16777216 := by
        have e2 : ("\n" : Str).length = 1 := by decide
        have : (ys ++ ys2).length * 100000 ≤ 54 * 100000 := Nat.mul_le_mul_right _ hl9
        rw [e2]
        omega
      have e9 : (upd H4 D (.lst (ys.map V.str ++ ys2.map V.str))) D = some (.lst ((ys ++ ys2).map V.str)) := by rw [upd_same, List.map_append]
      walk_at "g"
      exact q _ _ (same_put (S2.trans (s3.trans s4)) nD)
def sp_format_readings (K : PySem.W.Frag) : Sp := fun vs H Q _ => ∃ d pl rk rf, vs = [.ref d] ∧ PV pl ∧ PrD H d rk rf ∧ RdV pl rk rf ∧ ∀ H' z, Same H H' → Q (.str z) H'
theorem sc_format_readings : FnScope ["readings", "name"] ["readings"] (defScope s_format_readings) := ⟨rfl, rfl, rfl, by decide +kernel, rfl, by decide +kernel, by decide +kernel⟩
theorem ok_format_readings (T : Tx K mg) : Has P w K mg base CX0 1 (A_format_readings K) ["readings"] [] (sp_format_readings K) := by
  obtain ⟨fd, F⟩ := T.F_format_readings
  refine ⟨fd, [], F.ok sc_format_readings (fun vs H Q E h => by
    obtain ⟨_, _, _, _, rfl, _⟩ := h
    rfl) (fun cdv A outer s H vs Q E hr h => ?_), F.bindsN (fun _ _ _ _ _ _ us hl => match us, hl with | [_], _ => rfl), .nil, F.kp⟩
  obtain ⟨d, pl, rk, rf, rfl, hpv, hd, hv, q⟩ := h
  obtain ⟨r, hd1, hd2⟩ := hd.ex
  have hrl := hv.ln hpv
  refine ⟨_, (pss_one (ps_ret (joinS pe_str (pe_lc (own := [("name", 1)]) (g := (gName 1)) rfl sc_format_readings.nd (pi_list (pe_callB (call_sortedD rfl) (by rfl) T.b_sorted (by decide +kernel) (pa_cons (pv 0) pa_nil))) (blkOk_by (own := [("name", 1)]) (N := ["readings", "name"]) (sc := defScope s_format_readings) (by decide +kernel)) (fun _ _ _ _ _ => (pg_name (i := 1) sc_format_readings.nd rfl (Or.inl rfl))) (fun _ _ _ _ _ => pts_nil) (fun _ _ _ _ _ => (pe_jd (PJ.cons pe_str (PJ.cons (pe_fmt (pv 1)) (PJ.cons pe_str (PJ.cons (pe_fmt (pe_ix ixT (pe_dget (hu_of hr) (pv 0) (pv 1) (fun _ _ => rfl)) (pe_int) (fun _ _ => rfl))) (PJ.cons pe_str (PJ.cons (pe_fmt (pe_ix ixT (pe_dget (hu_of hr) (pv 0) (pv 1) (fun _ _ => rfl)) (pe_int) (fun _ _ => rfl))) PJ.nil)))))))))))), ?_⟩
  walk_at "g"
  intro ys L pm so nL
  have n_L := nL
  generalize hG : upd H L _ = H1; have s_H1 : Same H H1 := nw_same n_L hG; have e_L := nw_at hG; clear hG
  walk_at "g"
  intro D hD
  have hrd : Rd H1 d (.dK (fdV rk fun k => .ref (r k))) := .inl (s_H1 _ _ hd1)
  have hyl : ys.length ≤ 30 := by
    rw [pm.length_eq]
    exact hrl
  refine lcG (wk_listM (ys := ys) (m := V.str)) (fun k => some k) (fun _ v _ => ∃ z : Str, v = .str z ∧ z.length ≤ 10000) (fun b v H H' s h => h) hD (lstOf e_L) (by omega) (fun i x v H' Ky Kn ex sm _ hv2 ky kn => ?_) (fun H2 ws s2 eD aD => ?_)
  · subst hv2
    have hx : x ∈ rk := pm.mem_iff.mp (List.mem_of_getElem? ex)
    have hxl := (hpv.on x (hv.inN x hx)).b
    obtain ⟨b1, b2, b3, b4⟩ := hv.bd x hx
    have g1 : DGet H' d (.str x) (some (.ref (r x))) := dget_fd (g := fun k => V.ref (r k)) (same_rd sm hrd) hx
    have g2 := sm _ _ (s_H1 _ _ (hd2 x hx))
    have g3 : DGet H' d (.str x) (some (.ref (r x))) := g1
    have at0 : atI [V.int (rf x).1, V.int (rf x).2] (0 : Int) = some (.int (rf x).1) := atI_nat (j := 0) rfl
    have at1 : atI [V.int (rf x).1, V.int (rf x).2] (1 : Int) = some (.int (rf x).2) := atI_nat (j := 1) rfl
    have i1 := int_text_len_1921 (i := (rf x).1) (log_small (by omega))
    have i2 := int_text_len_1921 (i := (rf x).2) (log_small (by omega))
    have h1 : (Str.empty ++ ("meter " : Str)).length = 6 := by decide
    have h2 : (" " : Str).length = 1 := by decide
    have hT : ∀ z : Int, (Str.ofString (toString z)).length ≤ 1921 → (toString z : Str).length ≤ 1921 := fun z h => h
    have l1 : (Str.empty ++ ("meter " : Str) ++ x).length ≤ 20 := by
      rw [len_app, h1]
      omega
    have l2 : (Str.empty ++ ("meter " : Str) ++ x ++ (" " : Str)).length ≤ 30 := by
      rw [len_app, h2]
      omega
    have l3 : (Str.empty ++ ("meter " : Str) ++ x ++ (" " : Str) ++ (toString (rf x).1 : Str)).length ≤ 1960 := by
      rw [len_app]
      have := hT _ i1
      omega
    have l4 : (Str.empty ++ ("meter " : Str) ++ x ++ (" " : Str) ++ (toString (rf x).1 : Str) ++ (" " : Str)).length ≤ 1970 := by
      rw [len_app, h2]
      omega
    have l5 : (Str.empty ++ ("meter " : Str) ++ x ++ (" " : Str) ++ (toString (rf x).1 : Str) ++ (" " : Str) ++ (toString (rf x).2 : Str)).length ≤ 4000 := by
      rw [len_app]
      have := hT _ i2
      omega
    have z1 := Nat.le_of_lt (big_size (Nat.le_trans l1 (by decide)))
    have z2 := Nat.le_of_lt (big_size (Nat.le_trans l2 (by decide)))
    have z3 := Nat.le_of_lt (big_size (Nat.le_trans l3 (by decide)))
    have z4 := Nat.le_of_lt (big_size (Nat.le_trans l4 (by decide)))
    have z5 := Nat.le_of_lt (big_size (Nat.le_trans l5 (by decide)))
    have g5 : (rf x).1.natAbs.log2 < 1920 := log_small (by omega)
    have g6 : (rf x).2.natAbs.log2 < 1920 := log_small (by omega)
    walk_at "g"
    refine .inl ⟨x, rfl, Nat.le_of_lt (big_size (by omega)), x, rfl, z1, ?_⟩
    walk_at "g"
    refine .inr ⟨_, rfl, g5, _, rfl, z3, ?_⟩
    walk_at "g"
    refine .inr ⟨_, rfl, g6, _, rfl, z5, ?_⟩
    exact ky _ _ _ (Same.refl _) rfl ⟨_, rfl, Nat.le_trans l5 (by decide)⟩
  · obtain ⟨zs, ews, hzl, hzb⟩ := strs_of aD
    rw [fm_map, List.map_id'] at hzl
    subst ews
    have hs9 := sum_lens hzb
    have hs2 : (zs.map (·.length)).sum + zs.length * ("\n" : Str).length ≤ 16777216 := by
      have e2 : ("\n" : Str).length = 1 := by decide
      have : zs.length * 10000 ≤ 30 * 10000 := Nat.mul_le_mul_right _ (by omega)
      rw [e2]
      omega
    walk_at "g"
    exact q _ _ (s_H1.trans s2)
end
end M
end
-- part W32
section
set_option Elab.async false
set_option linter.all false
set_option maxRecDepth 100000
set_option maxHeartbeats 4000000
namespace M
open PySem PySem.Spec PyProof.Rows L2
local macro_rules | `(tactic| walk_at "e") => `(tactic| (first
  | exact rfl
  | assumption
  | exact upd_same
  | exact flat_strs
  | exact fd_keys
  | ((with_reducible apply same_at); assumption; walk_at "f")
  | ((with_reducible apply at_upd); assumption; walk_at "f")
  | omega))
local macro_rules | `(tactic| walk_at "n") => `(tactic| (first
  | assumption
  | omega
  | exact Nat.le_of_lt (small1000 (by first | assumption | omega))
  | exact (Nat.zero_le _ : 0 ≤ sizeLine)
  | exact (by decide : 1 ≤ sizeLine)
  | exact (by decide : 2 ≤ sizeLine)
  | exact (by decide : 3 ≤ sizeLine)
  | exact (by decide : 5 ≤ sizeLine)
  | exact (by decide : 6 ≤ sizeLine)
  | (show _ < 1000; exact of_decide_eq_true rfl)
  | exact len2 (by omega) (by omega)
  | exact small1000 (by first | assumption | omega)))
local macro_rules | `(tactic| walk_at "f") => `(tactic| (first
  | with_reducible assumption
  | ((with_reducible apply gEq); walk_at "e")
  | ((with_reducible apply gLe); walk_at "n")
  | ((with_reducible apply gLt); walk_at "n")
  | ((with_reducible apply gNot); (first | assumption | omega))
  | with_reducible exact Same.refl _
  | ((with_reducible apply tupOf); walk_at "f")
  | ((with_reducible apply lstOf); walk_at "f")
  | ((with_reducible apply gCls); assumption)
  | ((with_reducible apply gNoAttr); assumption)
  | ((with_reducible apply gIsPl); assumption)
  | ((with_reducible apply gStL); assumption)
  | ((with_reducible apply gIntD); assumption)
  | ((with_reducible apply gSqT); assumption)
  | ((with_reducible apply gSqL); assumption)
  | ((with_reducible apply tyV_l); walk_at "f")
  | ((with_reducible apply Rd.of); walk_at "f")
  | ((with_reducible apply dget_ne); assumption; assumption)
  | ((with_reducible apply dget_fd) <;> walk_at "f")
  | ((with_reducible apply dput_int) <;> walk_at "f")
  | ((with_reducible apply dput_fd) <;> walk_at "f")
  | ((with_reducible apply rd_upd); assumption; walk_at "f")
  | ((with_reducible apply same_put); walk_at "f"; assumption)
  | ((with_reducible apply sx_upd) <;> walk_at "f")
  | ((with_reducible refine Same.trans ?_ (by assumption)); walk_at "f")
  | ((with_reducible apply cmulLg); omega; omega)
  | ((with_reducible apply cmulRg); omega; omega)
  | ((with_reducible apply SameE.upd); walk_at "f")
  | ((with_reducible apply StL.same); assumption; walk_at "f")
  | ((with_reducible apply LT.same); assumption; walk_at "f")
  | ((with_reducible apply IsP.same); assumption; walk_at "f")
  | ((with_reducible apply IsPl.same); assumption; walk_at "f")
  | ((with_reducible apply IntD.same); assumption; walk_at "f")
  | ((with_reducible apply PrD.same); assumption; walk_at "f")
  | ((with_reducible apply Or.inl); walk_at "f")
  | ((with_reducible apply Or.inr); walk_at "f")))
local macro_rules | `(tactic| walk_at "g") => `(tactic| repeat (first
  | with_reducible apply And.intro
  | with_reducible apply Exists.intro
  | walk_at "f"
  | ((with_reducible apply iteT); assumption)
  | ((with_reducible apply iteF); assumption)
  | ((with_reducible apply iteD); (first | assumption | omega))
  | ((with_reducible apply iteN); (first | assumption | omega))
  | ((with_reducible apply iteD2); (first | assumption | omega))
  | ((with_reducible apply iteN2); (first | assumption | omega))
  | apply And.intro
  | apply Exists.intro))
section
variable {P : Program} {w : World} {K : PySem.W.Frag} {mg : Str → Option Value} {base : Heap}
def tNw : TE := fun _ _ _ => False
theorem pe_nw {X : Cx} {e : Expr} : PE X e tNw := ⟨fun _ _ _ _ _ _ h => h.elim⟩
def sp_least_cost (K : PySem.W.Frag) : Sp := fun vs H Q _ => ∃ p pl d rk rf, vs = [.ref p, .ref d] ∧ IsPl K H p pl ∧ PV pl ∧ PrD H d rk rf ∧ RdV pl rk rf ∧
  (∀ H' f, Same H H' → Poss pl f → (∀ g, Poss pl g → costN rk rf (fun _ => 1) f ≤ costN rk rf (fun _ => 1) g) → Q (.int (costN rk rf (fun _ => 1) f)) H') ∧
  (∀ H', Same H H' → (∀ g, ¬ Poss pl g) → Q .non H')
theorem sc_least_cost : FnScope ["plant", "readings", "name"] ["plant", "readings"] (defScope s_least_cost) := ⟨rfl, rfl, rfl, by decide +kernel, rfl, by decide +kernel, by decide +kernel⟩
theorem ok_least_cost (T : Tx K mg) : Has P w K mg base CX0 7 (A_least_cost K) ["plant", "readings"] [] (sp_least_cost K) := by
  obtain ⟨fd, F⟩ := T.F_least_cost
  refine ⟨fd, [], F.ok sc_least_cost (fun vs H Q E h => by
    obtain ⟨_, _, _, _, _, rfl, _⟩ := h
    rfl) (fun cdv A outer s H vs Q E hr h => ?_), F.bindsN (fun _ _ _ _ _ _ us hl => match us, hl with | [_, _], _ => rfl), .nil, F.kp⟩
  obtain ⟨p, pl, d, rk, rf, rfl, hP, hpv, hd, hv, q, qn⟩ := h
  obtain ⟨r, hd1, hd2⟩ := hd.ex
  have hrl := hv.ln hpv
  refine ⟨_, (pss_one (ps_try_only rfl rfl ⟨rfl, by decide, .inl T.g_NoFlows⟩ takes0 (fun W pn xe tk _ => (pss_one (ps_ret (fld T.c_Least T.n_Least_cost (hcS (ok_least_flows (K := K) T) (hr.mono (by decide)) T.g_least_flows (fun σ => passAt tk σ) (pa_cons (pv 0) (pa_cons (pv 1) (pa_cons (peLockN 1 (pe_dc (own := [("name", 2)]) (g := (gName 2)) rfl sc_least_cost.nd (piKeys (pv 1)) (blkOk_by (own := [("name", 2)]) (N := ["plant", "readings", "name"]) (sc := defScope s_least_cost) (by decide +kernel)) (fun _ _ _ _ _ => (pg_name (i := 2) sc_least_cost.nd rfl (Or.inl rfl))) (fun _ _ _ _ _ => pts_nil) (fun _ _ _ _ _ => (pv 2)) (fun _ _ _ _ _ => (pe_int)))) pa_nil)))))))) (fun a oe cls d pn _ _ => (pss_one (ps_ret (pe_non)))))), ?_⟩
  walk_at "g"
  intro od
  generalize hG : upd H d _ = H0
  have e0 := nw_at hG
  have s0 : ∀ {H'}, Same H0 H' → Same H (upd H' d (.dK (fdV rk fun k => .ref (r k)))) := fun s => same_unlock hd1 (hG ▸ s)
  have hfr : ∀ {b}, H0 b = none → H b = none := fun h => lock_free (hG ▸ h)
  clear hG
  walk_at "g"
  intro D hD
  refine dcK (fun n => V.int 1) hv.nd hD e0 (by omega) (fun n v H1 Ky Kn hn s hfz hv2 ky => ?_) (fun H1 s1 eD => ?_)
  · subst hv2
    walk_at "g"
    exact ky _ (Same.refl _)
  have f1 := s1 _ _ e0
  have hDd : D ≠ d := (ne_of_none e0 hD).symm
  have sm1 := s0 s1
  have eD' := at_upd (o := .dK (fdV rk fun k => .ref (r k))) hDd eD
  refine ⟨f1, ?_⟩
  generalize upd H1 d _ = H2 at sm1 eD' ⊢
  have eD2 : IntD H2 D rk (fun _ => 1) := eD'
  have hP2 := hP.same sm1
  have hd2 := hd.same sm1
  have hk : ∀ n ∈ rk, n ∈ rk ∧ 1 ≤ (fun _ : Str => (1 : Int)) n ∧ (fun _ : Str => (1 : Int)) n ≤ 1000000 := fun n hn => ⟨hn, Int.le_refl _, by show (1 : Int) ≤ 1000000; decide⟩
  have hk2 : ∀ n ∈ rk, n ∈ rk := fun n h => h
  walk_at "g"
  · intro H3 x f g df dh s3 lo ps op _
    obtain ⟨dx, ob⟩ := lo.ob
    walk_at "g"
    exact q H3 f (sm1.trans s3) ps op
  · intro H3 s3 hn
    exact ⟨true, T.e_NoFlows, fun _ a ha => qn H3 (sm1.trans s3) hn, fun z => nomatch z⟩
def sp_found_answer (K : PySem.W.Frag) : Sp := fun vs H Q _ => ∃ p pl d rk rf, vs = [.ref p, .ref d, .str "least"] ∧ IsPl K H p pl ∧ PV pl ∧ PrD H d rk rf ∧ RdV pl rk rf ∧
  (∀ H' f, Same H H' → Poss pl f → (∀ g, Poss pl g → costN rk rf (fun _ => 1) f ≤ costN rk rf (fun _ => 1) g) → Q (.int (costN rk rf (fun _ => 1) f)) H') ∧
  (∀ H', Same H H' → (∀ g, ¬ Poss pl g) → Q .non H')
theorem sc_found_answer : FnScope ["plant", "readings", "question"] ["plant", "readings", "question"] (defScope s_found_answer) := ⟨rfl, rfl, rfl, by decide +kernel, rfl, by decide +kernel, by decide +kernel⟩
theorem ok_found_answer (T : Tx K mg) : Has P w K mg base CX0 9 (A_found_answer K) ["plant", "readings", "question"] [] (sp_found_answer K) := by
  obtain ⟨fd, F⟩ := T.F_found_answer
  refine ⟨fd, [], F.ok sc_found_answer (fun vs H Q E h => by
    obtain ⟨_, _, _, _, _, rfl, _⟩ := h
    rfl) (fun cdv A outer s H vs Q E hr h => ?_), F.bindsN (fun _ _ _ _ _ _ us hl => match us, hl with | [_, _, _], _ => rfl), .nil, F.kp⟩
  obtain ⟨p, pl, d, rk, rf, rfl, hP, hpv, hd, hv, q, qn⟩ := h
  refine ⟨_, (pss_cons (ps_if (pt_cmpR op_eq (pv 2) (pe_str) (nomark _))
      (pss_one (ps_ret (pe_cmpR op_notN (hc (ok_flows_of (K := K) T) (hr.mono (by decide)) T.g_flows_of pass0 (pa_cons (pv 0) (pa_cons (pv 1) pa_nil))) (pe_non) (nomark _))))
      pss_nil)
      (pss_cons (ps_if (pt_cmpR op_eq (pv 2) (pe_str) (nomark _))
      (pss_one (ps_ret (pe_nw)))
      pss_nil)
      (pss_cons (ps_if (pt_cmpR op_eq (pv 2) (pe_str) (nomark _))
      (pss_one (ps_ret (pe_nw)))
      pss_nil)
      (pss_one (ps_ret (hc (ok_least_cost (K := K) T) (hr.mono (by decide)) T.g_least_cost pass0 (pa_cons (pv 0) (pa_cons (pv 1) pa_nil)))))))), ?_⟩
  have c1 : ¬ V.str "least" = V.str "agree" := fun e => absurd (V.str.inj e) (by decide)
  have c2 : ¬ V.str "least" = V.str "ranges" := fun e => absurd (V.str.inj e) (by decide)
  have c3 : ¬ V.str "least" = V.str "told" := fun e => absurd (V.str.inj e) (by decide)
  walk_at "g"
def rIsiN : List V → Hp → VK → Prop := fun xs H Q => ∃ v c, xs = [v, .ty c] ∧ (v = .non ∨ ∃ i, v = .int i) ∧ (c = "dict" ∨ c = "list") ∧ Q (.bl false) H
theorem isiN {X : Cx} : CallR X (.builtin "isinstance") rIsiN := call_imp call_isi fun xs H Q ⟨v, c, e, hv, hc, q⟩ => by
  rcases hv with rfl | ⟨i, rfl⟩ <;> rcases hc with rfl | rfl
  · exact ⟨_, _, .type "NoneType", .type "dict", false, e, .ty _, .base .non, kit_ty (by decide +kernel), q⟩
  · exact ⟨_, _, .type "NoneType", .type "list", false, e, .ty _, .base .non, kit_ty (by decide +kernel), q⟩
  · exact ⟨_, _, .type "int", .type "dict", false, e, .ty _, .base (.int _), kit_ty (by decide +kernel), q⟩
  · exact ⟨_, _, .type "int", .type "list", false, e, .ty _, .base (.int _), kit_ty (by decide +kernel), q⟩
def sp_copied (K : PySem.W.Frag) : Sp := fun vs H Q _ => ∃ v, vs = [v] ∧ (v = .non ∨ ∃ i, v = .int i) ∧ Q v H
theorem sc_copied : FnScope ["answer"] ["answer"] (defScope s_copied) := ⟨rfl, rfl, rfl, by decide +kernel, rfl, by decide +kernel, by decide +kernel⟩
theorem ok_copied (T : Tx K mg) : Has P w K mg base CX0 1 (A_copied K) ["answer"] [] (sp_copied K) := by
  obtain ⟨fd, F⟩ := T.F_copied
  refine ⟨fd, [], F.ok sc_copied (fun vs H Q E h => by
    obtain ⟨_, rfl, _⟩ := h
    rfl) (fun cdv A outer s H vs Q E hr h => ?_), F.bindsN (fun _ _ _ _ _ _ us hl => match us, hl with | [_], _ => rfl), .nil, F.kp⟩
  obtain ⟨v, rfl, hv, q⟩ := h
  refine ⟨_, (pss_cons (ps_if (pt_val (pe_callB isiN (by rfl) T.b_isinstance (by decide +kernel) (pa_cons (pv 0) (pa_cons (pe_bltn (v := .ty "dict") (by rfl) T.b_dict (by decide +kernel) rfl) pa_nil))))
      (pss_one (ps_ret (pe_callTy call_dictD (by rfl) T.b_dict (by decide +kernel) (pa_cons (pv 0) pa_nil))))
      pss_nil)
      (pss_cons (ps_if (pt_val (pe_callB isiN (by rfl) T.b_isinstance (by decide +kernel) (pa_cons (pv 0) (pa_cons (pe_bltn (v := .ty "list") (by rfl) T.b_list (by decide +kernel) rfl) pa_nil))))
      (pss_one (ps_ret (pe_callTy listL (by rfl) T.b_list (by decide +kernel) (pa_cons (pv 0) pa_nil))))
      pss_nil)
      (pss_one (ps_ret (pv 0))))), ?_⟩
  walk_at "g"
def sp_deed_of (K : PySem.W.Frag) : Sp := fun vs H Q _ => ∃ a, vs = [.ref a] ∧ H a = some (.lst [.str "least"]) ∧ ∀ H', Same H H' → Q .non H'
theorem sc_deed_of : FnScope ["parts", "numbers", "part"] ["parts"] (defScope s_deed_of) := ⟨rfl, rfl, rfl, by decide +kernel, rfl, by decide +kernel, by decide +kernel⟩
theorem ok_deed_of (T : Tx K mg) : Has P w K mg base CX0 1 (A_deed_of K) ["parts"] [] (sp_deed_of K) := by
  obtain ⟨fd, F⟩ := T.F_deed_of
  refine ⟨fd, [], F.ok sc_deed_of (fun vs H Q E h => by
    obtain ⟨_, rfl, _⟩ := h
    rfl) (fun cdv A outer s H vs Q E hr h => ?_), F.bindsN (fun _ _ _ _ _ _ us hl => match us, hl with | [_], _ => rfl), .nil, F.kp⟩
  obtain ⟨a, rfl, ha, q⟩ := h
  refine ⟨_, (pss_cons (ps_setLc (i := 1) (own := [("part", 2)]) (g := (gName 2)) rfl sc_deed_of.nd rfl rfl (sw_true rfl rfl rfl (by decide +kernel)) (pi_list (pe_slice slL (pv 0) (po_some (pe_int)) po_none)) (blkOk_by (own := [("part", 2)]) (N := ["parts", "numbers", "part"]) (sc := defScope s_deed_of) (by decide +kernel)) (fun _ _ _ _ _ => (pg_name (i := 2) sc_deed_of.nd rfl (Or.inl rfl))) (fun _ _ _ _ _ => pts_nil) (fun _ _ _ _ _ => (pe_nw)))
      (pss_cons (ps_if (PW.pt (pw_and (pt_cmpR op_eq (pe_callB lenL (by rfl) T.b_len (by decide +kernel) (pa_cons (pv 0) pa_nil)) (pe_int) (nomark _)) (pw_and1 (pt_cmpR op_eq (pe_ix ixL (pv 0) (pe_int) (fun _ _ => rfl)) (pe_str) (nomark _)))))
      (pss_one (ps_ret (pe_tup (pa_cons (pe_str) (pa_cons (pe_ix ixL (pv 0) (pe_int) (fun _ _ => rfl)) pa_nil)))))
      pss_nil)
      (pss_cons (ps_if (PW.pt (pw_and (pt_cmpR op_eq (pe_callB lenL (by rfl) T.b_len (by decide +kernel) (pa_cons (pv 0) pa_nil)) (pe_int) (nomark _)) (pw_and (pt_cmpR op_eq (pe_ix ixL (pv 0) (pe_int) (fun _ _ => rfl)) (pe_str) (nomark _)) (pw_and1 (pt_cmpR op_inSt (pe_ix ixL (pv 0) (pe_int) (fun _ _ => rfl)) (pe_lst (pa_cons (pe_str) (pa_cons (pe_str) (pa_cons (pe_str) pa_nil)))) (by rfl))))))
      (pss_one (ps_ret (pe_tup (pa_cons (pe_op op_add_str (pe_str) (pe_ix ixL (pv 0) (pe_int) (fun _ _ => rfl))) (pa_cons (pe_ix ixL (pv 0) (pe_int) (fun _ _ => rfl)) pa_nil)))))
      pss_nil)
      (pss_cons (ps_if (PW.pt (pw_and (pt_cmpR op_eq (pe_callB lenL (by rfl) T.b_len (by decide +kernel) (pa_cons (pv 0) pa_nil)) (pe_int) (nomark _)) (pw_and (pt_cmpR op_eq (pe_ix ixL (pv 0) (pe_int) (fun _ _ => rfl)) (pe_str) (nomark _)) (pw_and1 (pt_cmpR op_notIn_seq (pe_non) (pe_slice slL (pv 1) (po_some (pe_int)) po_none) (by rfl))))))
      (pss_one (ps_ret (pe_tup (pa_cons (pe_str) (pa_cons (pe_nw) pa_nil)))))
      pss_nil)
      (pss_cons (ps_if (PW.pt (pw_and (pt_cmpR op_eq (pe_callB lenL (by rfl) T.b_len (by decide +kernel) (pa_cons (pv 0) pa_nil)) (pe_int) (nomark _)) (pw_and (pt_cmpR op_eq (pe_ix ixL (pv 0) (pe_int) (fun _ _ => rfl)) (pe_str) (nomark _)) (pw_and1 (pt_cmpR op_notIn_seq (pe_non) (pv 1) (by rfl))))))
      (pss_one (ps_ret (pe_tup (pa_cons (pe_str) (pa_cons (pe_ix ixL (pv 0) (pe_int) (fun _ _ => rfl)) (pa_cons (pe_ix ixL (pv 1) (pe_int) (fun _ _ => rfl)) (pa_cons (pe_ix ixL (pv 1) (pe_int) (fun _ _ => rfl)) pa_nil)))))))
      pss_nil)
      (pss_one (ps_ret (pe_non)))))))), ?_⟩
  walk_at "g"
  intro c n_c; generalize hG : upd H c _ = H1; have s_H1 : Same H H1 := nw_same n_c hG; have e_c := nw_at hG; clear hG
  have e_c2 : H1 c = some (.lst []) := e_c
  walk_at "g"
  intro D hD
  refine lcV (wk_listV (vs := [])) (fun v => (none : Option V)) id hD (lstOf e_c2) (Nat.zero_le _) (fun i x v H' Ky Kn ex s _ hv ky kn => (by cases ex)) (fun H2 s2 eD => ?_)
  have ha2 := s2 _ _ (s_H1 _ _ ha)
  have n1 : ¬ V.int (([V.str "least"] : List V).length : Int) = V.int 2 := fun e => absurd (V.int.inj e) (by decide)
  have n2 : ¬ V.int (([V.str "least"] : List V).length : Int) = V.int 3 := fun e => absurd (V.int.inj e) (by decide)
  have n3 : ¬ V.int (([V.str "least"] : List V).length : Int) = V.int 6 := fun e => absurd (V.int.inj e) (by decide)
  have n4 : ¬ V.int (([V.str "least"] : List V).length : Int) = V.int 4 := fun e => absurd (V.int.inj e) (by decide)
  walk_at "g"
  exact q H2 (s_H1.trans s2)
theorem PrD.se {H H' : Hp} {self d : Addr} {ks : List Str} {f : Str → Int × Int} {C dx : Addr} {fs : List (Str × V)} (s : SameE self H H') (hs : H self = some (.ins C dx fs)) (h : PrD H d ks f) : PrD H' d ks f :=
  ⟨h.ex.imp fun r h => ⟨s _ _ (ne_at h.1 hs (fun e => by cases e)) h.1, fun k hk => s _ _ (ne_at (h.2 k hk) hs (fun e => by cases e)) (h.2 k hk)⟩⟩
theorem IsPl.se {K : PySem.W.Frag} {H H' : Hp} {self p : Addr} {pl : Plt} {C dx : Addr} (s : SameE self H H') (hs : H self = some (.ins C dx [])) (h : IsPl K H p pl) : IsPl K H' p pl := by
  obtain ⟨a, b, c, h⟩ := h.ex
  obtain ⟨us, h1, h2⟩ := h.s.ex
  exact ⟨a, b, c, s _ _ (ne_at h.ob hs (fun e => by cases e)) h.ob, s _ _ (ne_at h.k hs (fun e => by cases e)) h.k, us, s _ _ (ne_at h1 hs (fun e => by cases e)) h1, h2.imp fun x v ⟨t, e, r⟩ => ⟨t, e, s _ _ (ne_at r hs (fun e => by cases e)) r⟩⟩
/-- a desk's object -/
structure DeskO (K : PySem.W.Frag) (H : Hp) (x p : Addr) (pl : Plt) (rk : List Str) (rf : Str → Int × Int) (kn : Addr) : Prop where
  ob : ∃ dx st t1 t2 d, H x = some (.ins (C_Desk K) dx [("state", .ref st), ("past", .ref t1), ("future", .ref t2), ("known", .ref kn)]) ∧ H st = some (.tup [.ref p, .ref d]) ∧ PrD H d rk rf
  kn : H kn = some (.dT [])
  pl : IsPl K H p pl
def sp_Desk_init (K : PySem.W.Frag) : Sp := fun vs H Q _ => ∃ self p pl d rk rf dx, vs = [.ref self, .ref p, .ref d] ∧ H self = some (.ins (C_Desk K) dx []) ∧ IsPl K H p pl ∧ PV pl ∧ PrD H d rk rf ∧ RdV pl rk rf ∧
  ∀ H' kn, SameE self H H' → DeskO K H' self p pl rk rf kn → H kn = none → Q .non H'
theorem sc_Desk_init : FnScope ["self", "plant", "readings"] ["self", "plant", "readings"] (defScope s_Desk_init) := ⟨rfl, rfl, rfl, by decide +kernel, rfl, by decide +kernel, by decide +kernel⟩
theorem ok_Desk_init (T : Tx K mg) : Has P w K mg base CX0 3 (A_Desk_init K) ["self", "plant", "readings"] [] (sp_Desk_init K) := by
  obtain ⟨fd, F⟩ := T.F_Desk_init
  refine ⟨fd, [], F.ok sc_Desk_init (fun vs H Q E h => by
    obtain ⟨_, _, _, _, _, _, _, rfl, _⟩ := h
    rfl) (fun cdv A outer s H vs Q E hr h => ?_), F.bindsN (fun _ _ _ _ _ _ us hl => match us, hl with | [_, _, _], _ => rfl), .nil, F.kp⟩
  obtain ⟨self, p, pl, d, rk, rf, dx, rfl, hs, hP, hpv, hd, hv, q⟩ := h
  have k1 := T.c_Desk
  have k2 := T.n_Desk_state
  have k3 := T.n_Desk_past
  have k4 := T.n_Desk_future
  have k5 := T.n_Desk_known
  obtain ⟨r, hd1, hd2⟩ := hd.ex
  refine ⟨_, (pss_cons (ps_expr (hc (ok_check_readings (K := K) T) (hr.mono (by decide)) T.g_check_readings pass0 (pa_cons (pv 1) (pa_cons (pv 2) pa_nil))))
      (pss_cons (ps_fld (pv 0) (pe_tup (pa_cons (pv 1) (pa_cons (pe_callTy call_dictD (by rfl) T.b_dict (by decide +kernel) (pa_cons (pv 2) pa_nil)) pa_nil))) rfl)
      (pss_cons (ps_fld (pv 0) (pe_tup pa_nil) rfl)
      (pss_cons (ps_fld (pv 0) (pe_tup pa_nil) rfl)
      (pss_one (ps_fld (pv 0) (pe_dnewT) rfl)))))), ?_⟩
  walk_at "g"
  intro H1 s1
  have hs1 := s1 _ _ hs
  have hd11 : H1 d = some (.dK (fdV rk fun k => .ref (r k))) := s1 _ _ hd1
  walk_at "g"
  intro d2 n_d2; generalize hG : upd H1 d2 _ = H2; have s_H2 : Same H1 H2 := nw_same n_d2 hG; have e_d2 := nw_at hG; clear hG
  walk_at "g"
  intro st n_st; generalize hG : upd H2 st _ = H3; have s_H3 : Same H2 H3 := nw_same n_st hG; have e_st := nw_at hG; clear hG
  have hs3 := s_H3 _ _ (s_H2 _ _ hs1)
  walk_at "g"
  intro t1 m1
  generalize hG : upd H3 self _ = H4 at m1 ⊢
  have s4 : SameE self H3 H4 := ow_e SameE.refl hG
  have e4 := nw_at hG
  clear hG
  generalize hG : upd H4 t1 _ = H5; have s_H5 : Same H4 H5 := nw_same m1 hG; have e_t1 := nw_at hG; clear hG
  have e5 := s_H5 _ _ e4
  walk_at "g"
  intro t2 m2
  generalize hG : upd H5 self _ = H6 at m2 ⊢
  have s6 : SameE self H5 H6 := ow_e SameE.refl hG
  have e6 := nw_at hG
  clear hG
  generalize hG : upd H6 t2 _ = H7; have s_H7 : Same H6 H7 := nw_same m2 hG; have e_t2 := nw_at hG; clear hG
  have e7 := s_H7 _ _ e6
  walk_at "g"
  intro kn m3
  generalize hG : upd H7 self _ = H8 at m3 ⊢
  have s8 : SameE self H7 H8 := ow_e SameE.refl hG
  have e8 := nw_at hG
  clear hG
  generalize hG : upd H8 kn _ = H9; have s_H9 : Same H8 H9 := nw_same m3 hG; have e_kn := nw_at hG; clear hG
  have e9 := s_H9 _ _ e8
  walk_at "g"
  have S : SameE self H3 H9 := s4.trans ((SameE.of s_H5).trans (s6.trans ((SameE.of s_H7).trans (s8.trans (.of s_H9)))))
  have S3 : Same H H3 := s1.trans (s_H2.trans s_H3)
  have hP3 := hP.same S3
  have hd3 : PrD H3 d2 rk rf := ⟨r, s_H3 _ _ e_d2, fun k hk => S3 _ _ (hd2 k hk)⟩
  have Sf : ∀ o, SameE self H3 (upd H9 self o) := fun o => S.upd
  have nks : kn ≠ self := (ne_of_none e8 m3).symm
  have S8 : SameE self H H8 := (SameE.of S3).trans (s4.trans ((SameE.of s_H5).trans (s6.trans ((SameE.of s_H7).trans s8))))
  exact q _ kn ((SameE.of S3).trans (Sf _)) ⟨⟨dx, st, t1, t2, d2, upd_same, Sf _ _ _ (ne_at e_st hs3 (fun e => by cases e)) e_st, hd3.se (Sf _) hs3⟩, at_upd nks e_kn, hP3.se (Sf _) hs3⟩ (S8.free nks m3)
def sp_Desk_answer (K : PySem.W.Frag) : Sp := fun vs H Q _ => ∃ self p pl rk rf kn, vs = [.ref self, .str "least"] ∧ DeskO K H self p pl rk rf kn ∧ PV pl ∧ RdV pl rk rf ∧
  (∀ H' f, SameE kn H H' → Poss pl f → (∀ g, Poss pl g → costN rk rf (fun _ => 1) f ≤ costN rk rf (fun _ => 1) g) → Q (.int (costN rk rf (fun _ => 1) f)) H') ∧
  (∀ H', SameE kn H H' → (∀ g, ¬ Poss pl g) → Q .non H')
theorem sc_Desk_answer : FnScope ["self", "question", "plant", "readings", "texts"] ["self", "question"] (defScope s_Desk_answer) := ⟨rfl, rfl, rfl, by decide +kernel, rfl, by decide +kernel, by decide +kernel⟩
theorem ok_Desk_answer (T : Tx K mg) : Has P w K mg base CX0 10 (A_Desk_answer K) ["self", "question"] [] (sp_Desk_answer K) := by
  obtain ⟨fd, F⟩ := T.F_Desk_answer
  refine ⟨fd, [], F.ok sc_Desk_answer (fun vs H Q E h => by
    obtain ⟨_, _, _, _, _, _, rfl, _⟩ := h
    rfl) (fun cdv A outer s H vs Q E hr h => ?_), F.bindsN (fun _ _ _ _ _ _ us hl => match us, hl with | [_, _], _ => rfl), .nil, F.kp⟩
  obtain ⟨self, p, pl, rk, rf, kn, rfl, hD, hpv, hv, q, qn⟩ := h
  obtain ⟨dx, st, t1, t2, d, hs, hst, hd⟩ := hD.ob
  have hk := hD.kn
  have hP := hD.pl
  have k1 := T.c_Desk
  have k2 := T.n_Desk_state
  have k5 := T.n_Desk_known
  refine ⟨_, (pss_cons (ps_asg (fld T.c_Desk T.n_Desk_state (pv 0)) (pg_tup (by rfl) (pgs_cons (pg_name (i := 2) sc_Desk_answer.nd rfl (Or.inl rfl)) (pgs_cons (pg_name (i := 3) sc_Desk_answer.nd rfl (Or.inl rfl)) pgs_nil))))
      (pss_cons (ps_set (i := 4) sc_Desk_answer.nd rfl (Or.inl rfl) (pe_tup (pa_cons (pv 1) (pa_cons (hc (ok_format_plant (K := K) T) (hr.mono (by decide)) T.g_format_plant pass0 (pa_cons (pv 2) pa_nil)) (pa_cons (hc (ok_format_readings (K := K) T) (hr.mono (by decide)) T.g_format_readings pass0 (pa_cons (pv 3) pa_nil)) pa_nil)))))
      (pss_cons (psCut (ps_if (pt_cmp (pc_dnotin (hu_of hr) (pv 4) (fld T.c_Desk T.n_Desk_known (pv 0))))
      (pss_one (ps_dput (hu_of hr) (fld T.c_Desk T.n_Desk_known (pv 0)) (pv 4) (hc (ok_found_answer (K := K) T) (hr.mono (by decide)) T.g_found_answer pass0 (pa_cons (pv 2) (pa_cons (pv 3) (pa_cons (pv 1) pa_nil)))) rfl))
      pss_nil))
      (pss_one (ps_ret (hc (ok_copied (K := K) T) (hr.mono (by decide)) T.g_copied pass0 (pa_cons (pe_dget (hu_of hr) (fld T.c_Desk T.n_Desk_known (pv 0)) (pv 4) (fun _ _ => rfl)) pa_nil))))))), ?_⟩
  walk_at "g"
  intro H1 z1 s1
  have hd1 := hd.same s1
  walk_at "g"
  intro H2 z2 s2
  walk_at "g"
  intro tx n_tx; generalize hG : upd H2 tx _ = H3; have s_H3 : Same H2 H3 := nw_same n_tx hG; have e_tx := nw_at hG; clear hG
  have S3 : Same H H3 := s1.trans (s2.trans s_H3)
  have hk3 := S3 _ _ hk
  have hs3 := S3 _ _ hs
  have e_tx2 : H3 tx = some (.tup (([.inr "least", .inr z1, .inr z2] : List Key).map kV)) := e_tx
  have hD3 := hd.same S3
  have hP3 := hP.same S3
  have gN : DGet H3 kn (.ref tx) none := .inr ⟨[], [.inr "least", .inr z1, .inr z2], tx, .inl hk3, rfl, e_tx2, rfl⟩
  have nkt : tx ≠ kn := ne_at e_tx hk3 (fun e => by cases e)
  have nsk : self ≠ kn := ne_at hs3 hk3 (fun e => by cases e)
  walk_at "g"
  refine Cut.of (fun σ H' => Hold (∃ v, σ = [some (.ref self), some (.str "least"), some (.ref p), some (.ref d), some (.ref tx)] ∧ SameE kn H3 H' ∧ H' kn = some (.dT [([.inr "least", .inr z1, .inr z2], v)]) ∧
    ((∃ f, v = .int (costN rk rf (fun _ => 1) f) ∧ Poss pl f ∧ ∀ g, Poss pl g → costN rk rf (fun _ => 1) f ≤ costN rk rf (fun _ => 1) g) ∨ (v = .non ∧ ∀ g, ¬ Poss pl g)))) ?_ (fun σ H' hh => ?_)
  · have fin : ∀ (v : V) H4, Same H3 H4 → DPut H4 kn (.ref tx) v (upd H4 kn (.dT [([.inr "least", .inr z1, .inr z2], v)])) := fun v H4 s => .inr ⟨[], [.inr "least", .inr z1, .inr z2], tx, s _ _ hk3, rfl, s _ _ e_tx2, (by decide : 0 < sizeLine), rfl⟩
    walk_at "g"
    · intro H4 f s4 p1 p2
      have hs4 := s4 _ _ hs3
      have hput := fin (.int (costN rk rf (fun _ => 1) f)) H4 s4
      walk_at "g"
      exact ⟨_, rfl, (SameE.of s4).upd, upd_same, .inl ⟨f, rfl, p1, p2⟩⟩
    · intro H4 s4 p1
      have hs4 := s4 _ _ hs3
      have hput := fin .non H4 s4
      walk_at "g"
      exact ⟨_, rfl, (SameE.of s4).upd, upd_same, .inr ⟨rfl, p1⟩⟩
  · obtain ⟨v, rfl, t1, t2, t3⟩ := hh.go
    have hs5 := t1 _ _ nsk hs3
    have etx5 := t1 _ _ nkt e_tx2
    have gS : DGet H' kn (.ref tx) (some v) := .inr ⟨_, [.inr "least", .inr z1, .inr z2], tx, .inl t2, rfl, etx5, by unfold valV; simp⟩
    have hvv : v = .non ∨ ∃ i, v = .int i := by
      rcases t3 with ⟨f, e, _⟩ | ⟨e, _⟩
      · exact .inr ⟨_, e⟩
      · exact .inl e
    walk_at "g"
    rcases t3 with ⟨f, rfl, p1, p2⟩ | ⟨rfl, p1⟩
    · exact q H' f ((SameE.of S3).trans t1) p1 p2
    · exact qn H' ((SameE.of S3).trans t1) p1
end
end M
end
-- part W33
section
set_option Elab.async false
set_option linter.all false
set_option maxRecDepth 100000
set_option maxHeartbeats 4000000
namespace M
open PySem PySem.Spec PyProof.Rows L2
local macro_rules | `(tactic| walk_at "e") => `(tactic| (first
  | exact rfl
  | assumption
  | exact upd_same
  | exact flat_strs
  | exact fd_keys
  | ((with_reducible apply same_at); assumption; walk_at "f")
  | ((with_reducible apply at_upd); assumption; walk_at "f")
  | omega))
local macro_rules | `(tactic| walk_at "n") => `(tactic| (first
  | assumption
  | omega
  | exact Nat.le_of_lt (small1000 (by first | assumption | omega))
  | exact (Nat.zero_le _ : 0 ≤ sizeLine)
  | exact (by decide : 1 ≤ sizeLine)
  | exact (by decide : 2 ≤ sizeLine)
  | exact (by decide : 3 ≤ sizeLine)
  | exact (by decide : 5 ≤ sizeLine)
  | exact (by decide : 6 ≤ sizeLine)
  | (show _ < 1000; exact of_decide_eq_true rfl)
  | exact len2 (by omega) (by omega)
  | exact small1000 (by first | assumption | omega)))
local macro_rules | `(tactic| walk_at "f") => `(tactic| (first
  | with_reducible assumption
  | ((with_reducible apply gEq); walk_at "e")
  | ((with_reducible apply gLe); walk_at "n")
  | ((with_reducible apply gLt); walk_at "n")
  | ((with_reducible apply gNot); (first | assumption | omega))
  | with_reducible exact Same.refl _
  | ((with_reducible apply tupOf); walk_at "f")
  | ((with_reducible apply lstOf); walk_at "f")
  | ((with_reducible apply gCls); assumption)
  | ((with_reducible apply gNoAttr); assumption)
  | ((with_reducible apply gIsPl); assumption)
  | ((with_reducible apply gStL); assumption)
  | ((with_reducible apply gIntD); assumption)
  | ((with_reducible apply gSqT); assumption)
  | ((with_reducible apply gSqL); assumption)
  | ((with_reducible apply tyV_l); walk_at "f")
  | ((with_reducible apply Rd.of); walk_at "f")
  | ((with_reducible apply dget_ne); assumption; assumption)
  | ((with_reducible apply dget_fd) <;> walk_at "f")
  | ((with_reducible apply dput_int) <;> walk_at "f")
  | ((with_reducible apply dput_fd) <;> walk_at "f")
  | ((with_reducible apply rd_upd); assumption; walk_at "f")
  | ((with_reducible apply same_put); walk_at "f"; assumption)
  | ((with_reducible apply sx_upd) <;> walk_at "f")
  | ((with_reducible refine Same.trans ?_ (by assumption)); walk_at "f")
  | ((with_reducible apply cmulLg); omega; omega)
  | ((with_reducible apply cmulRg); omega; omega)
  | ((with_reducible apply SameE.upd); walk_at "f")
  | ((with_reducible apply StL.same); assumption; walk_at "f")
  | ((with_reducible apply LT.same); assumption; walk_at "f")
  | ((with_reducible apply IsP.same); assumption; walk_at "f")
  | ((with_reducible apply IsPl.same); assumption; walk_at "f")
  | ((with_reducible apply IntD.same); assumption; walk_at "f")
  | ((with_reducible apply PrD.same); assumption; walk_at "f")
  | ((with_reducible apply Or.inl); walk_at "f")
  | ((with_reducible apply Or.inr); walk_at "f")))
local macro_rules | `(tactic| walk_at "g") => `(tactic| repeat (first
  | with_reducible apply And.intro
  | with_reducible apply Exists.intro
  | walk_at "f"
  | ((with_reducible apply iteT); assumption)
  | ((with_reducible apply iteF); assumption)
  | ((with_reducible apply iteD); (first | assumption | omega))
  | ((with_reducible apply iteN); (first | assumption | omega))
  | ((with_reducible apply iteD2); (first | assumption | omega))
  | ((with_reducible apply iteN2); (first | assumption | omega))
  | apply And.intro
  | apply Exists.intro))
section
variable {P : Program} {w : World} {K : PySem.W.Frag} {mg : Str → Option Value} {base : Heap}
theorem DeskO.se {K : PySem.W.Frag} {H H' : Hp} {self x p : Addr} {pl : Plt} {rk : List Str} {rf : Str → Int × Int} {kn C dx : Addr} (s : SameE self H H') (hs : H self = some (.ins C dx [])) (h : DeskO K H x p pl rk rf kn) : DeskO K H' x p pl rk rf kn := by
  obtain ⟨dx2, st, t1, t2, d, h1, h2, h3⟩ := h.ob
  exact ⟨⟨dx2, st, t1, t2, d, s _ _ (ne_at h1 hs (fun e => by cases e)) h1, s _ _ (ne_at h2 hs (fun e => by cases e)) h2, h3.se s hs⟩, s _ _ (ne_at h.kn hs (fun e => by cases e)) h.kn, h.pl.se s hs⟩
theorem log_small2 {n : Nat} (h : n ≤ 100000000000) : n.log2 < 1920 := by
  by_cases z : n = 0
  · subst z
    decide
  · refine (Nat.log2_lt z).mpr (Nat.lt_of_le_of_lt h ?_)
    exact Nat.lt_of_lt_of_le (by decide : 100000000000 < 2 ^ 40) (Nat.pow_le_pow_right (by decide) (by decide))
theorem sum_bound {α : Type} {f : α → Int} {c : Int} (hc : 0 ≤ c) : ∀ {l : List α}, (∀ x ∈ l, f x ≤ c) → (l.map f).sum ≤ l.length * c
  | [], _ => by
    show (0 : Int) ≤ ((0 : Nat) : Int) * c
    simp
  | x :: l, h => by
    have h1 := h x List.mem_cons_self
    have h2 := sum_bound hc (l := l) fun y hy => h y (List.mem_cons_of_mem _ hy)
    rw [List.map_cons, List.sum_cons, List.length_cons]
    have e : ((l.length + 1 : Nat) : Int) * c = l.length * c + c := by
      rw [show ((l.length + 1 : Nat) : Int) = (l.length : Int) + 1 by omega, Int.add_mul, Int.one_mul]
    omega
theorem cost_small {pl : Plt} {rk : List Str} {rf : Str → Int × Int} {f : Str → Int} (hpv : PV pl) (hv : RdV pl rk rf) (hf : Poss pl f) : (costN rk rf (fun _ => 1) f).natAbs.log2 < 1920 := by
  have h0 := cost_nn (rk := rk) (rf := rf) (f := f) (pr := fun _ => 1) fun n _ => by show (0 : Int) ≤ 1; decide
  have h1 : costN rk rf (fun _ => 1) f ≤ rk.length * 1000000 := sum_bound (by decide) fun n hn => by
    obtain ⟨s, hs, rfl⟩ := List.mem_map.mp (hv.inN n hn)
    have b1 := hf.lo s hs
    have b2 := hf.hi s hs
    obtain ⟨c1, c2, c3⟩ := hpv.bd s hs
    obtain ⟨d1, d2, d3, d4⟩ := hv.bd _ hn
    unfold cs
    rw [Int.one_mul]
    unfold ov
    omega
  have h2 := hv.ln hpv
  refine log_small2 ?_
  have h3 : (rk.length : Int) * 1000000 ≤ 30 * 1000000 := Int.mul_le_mul_of_nonneg_right (by omega) (by decide)
  omega
structure SesO (K : PySem.W.Frag) (H : Hp) (x p : Addr) (pl : Plt) (rk : List Str) (rf : Str → Int × Int) (kn : Addr) : Prop where
  ob : ∃ dx dk, H x = some (.ins (C_Session K) dx [("desk", .ref dk)]) ∧ DeskO K H dk p pl rk rf kn
def sp_Session_init (K : PySem.W.Frag) : Sp := fun vs H Q _ => ∃ self p pl d rk rf dx, vs = [.ref self, .ref p, .ref d] ∧ H self = some (.ins (C_Session K) dx []) ∧ IsPl K H p pl ∧ PV pl ∧ PrD H d rk rf ∧ RdV pl rk rf ∧
  ∀ H' kn, SameE self H H' → SesO K H' self p pl rk rf kn → H kn = none → Q .non H'
theorem sc_Session_init : FnScope ["self", "plant", "readings"] ["self", "plant", "readings"] (defScope s_Session_init) := ⟨rfl, rfl, rfl, by decide +kernel, rfl, by decide +kernel, by decide +kernel⟩
theorem ok_Session_init (T : Tx K mg) : Has P w K mg base CX0 5 (A_Session_init K) ["self", "plant", "readings"] [] (sp_Session_init K) := by
  obtain ⟨fd, F⟩ := T.F_Session_init
  refine ⟨fd, [], F.ok sc_Session_init (fun vs H Q E h => by
    obtain ⟨_, _, _, _, _, _, _, rfl, _⟩ := h
    rfl) (fun cdv A outer s H vs Q E hr h => ?_), F.bindsN (fun _ _ _ _ _ _ us hl => match us, hl with | [_, _, _], _ => rfl), .nil, F.kp⟩
  obtain ⟨self, p, pl, d, rk, rf, dx, rfl, hs, hP, hpv, hd, hv, q⟩ := h
  have k1 := T.c_Session
  have k2 := T.n_Session_desk
  refine ⟨_, (pss_one (ps_fld (pv 0) (hmk (ok_Desk_init (K := K) T) (hr.mono (by decide)) T.k_Desk T.g_Desk pass0 (pa_cons (pv 1) (pa_cons (pv 2) pa_nil))) rfl)), ?_⟩
  walk_at "g"
  intro x dx2 nx ndx nex
  have hn : Same H (upd (upd H dx2 (.own x)) x (.ins (C_Desk K) dx2 [])) := fun b o e => by
    rw [upd_ne (ne_of_none e nx), upd_ne (ne_of_none e ndx)]
    exact e
  have hP2 := hP.same hn
  have hd2 := hd.same hn
  walk_at "g"
  intro H1 kn sE hD nk
  have S1 : Same H H1 := made nx ndx sE
  have hs1 := S1 _ _ hs
  walk_at "g"
  have Sf : ∀ o, SameE self H1 (upd H1 self o) := fun o => SameE.refl.upd
  exact q _ kn ((SameE.of S1).trans (Sf _)) ⟨⟨dx, x, upd_same, hD.se (Sf _) hs1⟩⟩ (upd_none (upd_none nk))
def SesQ (pl : Plt) (rk : List Str) (rf : Str → Int × Int) (kn : Addr) (H : Hp) (Q : VK) : Prop :=
  (∀ H' f, SameE kn H H' → Poss pl f → (∀ g, Poss pl g → costN rk rf (fun _ => 1) f ≤ costN rk rf (fun _ => 1) g) → Q (.str (toString (costN rk rf (fun _ => 1) f))) H') ∧ (∀ H', SameE kn H H' → (∀ g, ¬ Poss pl g) → Q (.str "none") H')
theorem DeskO.same {K : PySem.W.Frag} {H H' : Hp} {x p : Addr} {pl : Plt} {rk : List Str} {rf : Str → Int × Int} {kn : Addr} (s : Same H H') (h : DeskO K H x p pl rk rf kn) : DeskO K H' x p pl rk rf kn := by
  obtain ⟨dx2, st, t1, t2, d, h1, h2, h3⟩ := h.ob
  exact ⟨⟨dx2, st, t1, t2, d, s _ _ h1, s _ _ h2, h3.same s⟩, s _ _ h.kn, h.pl.same s⟩
theorem SesO.same {K : PySem.W.Frag} {H H' : Hp} {x p : Addr} {pl : Plt} {rk : List Str} {rf : Str → Int × Int} {kn : Addr} (s : Same H H') (h : SesO K H x p pl rk rf kn) : SesO K H' x p pl rk rf kn := by
  obtain ⟨dx, dk, h1, h2⟩ := h.ob
  exact ⟨⟨dx, dk, s _ _ h1, h2.same s⟩⟩
theorem SesQ.same {pl : Plt} {rk : List Str} {rf : Str → Int × Int} {kn : Addr} {H H1 : Hp} {Q : VK} (s : Same H H1) (h : SesQ pl rk rf kn H Q) : SesQ pl rk rf kn H1 Q :=
  ⟨fun H' f t p1 p2 => h.1 H' f ((SameE.of s).trans t) p1 p2, fun H' t p1 => h.2 H' ((SameE.of s).trans t) p1⟩
def sp_Session_told (K : PySem.W.Frag) : Sp := fun vs H Q _ => ∃ self p pl rk rf kn, vs = [.ref self, .str "least"] ∧ SesO K H self p pl rk rf kn ∧ PV pl ∧ RdV pl rk rf ∧ SesQ pl rk rf kn H Q
theorem sc_Session_told : FnScope ["self", "word", "desk", "cost"] ["self", "word"] (defScope s_Session_told) := ⟨rfl, rfl, rfl, by decide +kernel, rfl, by decide +kernel, by decide +kernel⟩
theorem ok_Session_told (T : Tx K mg) : Has P w K mg base CX0 11 (A_Session_told K) ["self", "word"] [] (sp_Session_told K) := by
  obtain ⟨fd, F⟩ := T.F_Session_told
  refine ⟨fd, [], F.ok sc_Session_told (fun vs H Q E h => by
    obtain ⟨_, _, _, _, _, _, rfl, _⟩ := h
    rfl) (fun cdv A outer s H vs Q E hr h => ?_), F.bindsN (fun _ _ _ _ _ _ us hl => match us, hl with | [_, _], _ => rfl), .nil, F.kp⟩
  obtain ⟨self, p, pl, rk, rf, kn, rfl, hS, hpv, hv, q, qn⟩ := h
  obtain ⟨dx, dk, hs, hD⟩ := hS.ob
  have k1 := T.c_Session
  have k2 := T.n_Session_desk
  have k3 := T.c_Desk
  obtain ⟨dx2, st, t1, t2, d, hds, _, _⟩ := hD.ob
  have c1 : ¬ V.str "least" = V.str "undo" := fun e => absurd (V.str.inj e) (by decide)
  have c2 : ¬ V.str "least" = V.str "redo" := fun e => absurd (V.str.inj e) (by decide)
  have c3 : ¬ V.str "least" = V.str "agree" := fun e => absurd (V.str.inj e) (by decide)
  have c4 : ¬ V.str "least" = V.str "told" := fun e => absurd (V.str.inj e) (by decide)
  have c5 : V.str "least" = V.str "least" := rfl
  refine ⟨_, (pss_cons (ps_set (i := 2) sc_Session_told.nd rfl (Or.inl rfl) (fld T.c_Session T.n_Session_desk (pv 0)))
      (pss_cons (ps_if (pt_cmpR op_eq (pv 1) (pe_str) (nomark _))
      (pss_cons (ps_expr (pe_nw))
      (pss_one (ps_ret (pe_str))))
      pss_nil)
      (pss_cons (ps_if (pt_cmpR op_eq (pv 1) (pe_str) (nomark _))
      (pss_cons (ps_expr (pe_nw))
      (pss_one (ps_ret (pe_str))))
      pss_nil)
      (pss_cons (ps_if (pt_cmpR op_eq (pv 1) (pe_str) (nomark _))
      (pss_one (ps_ret (pe_ifExp (pt_truth (hmeth (ok_Desk_answer (K := K) T) (hr.mono (by decide)) T.c_Desk T.m_Desk_answer pass0 (pv 2) (pa_cons (pe_str) pa_nil)) (by intro _; rfl)) (pe_str) (pe_str))))
      pss_nil)
      (pss_cons (ps_if (pt_cmpR op_eq (pv 1) (pe_str) (nomark _))
      (pss_one (ps_ret (joinS pe_str (pe_or (hmeth (ok_Desk_answer (K := K) T) (hr.mono (by decide)) T.c_Desk T.m_Desk_answer pass0 (pv 2) (pa_cons (pe_str) pa_nil)) (pe_one (pe_lst (pa_cons (pe_str) pa_nil)))))))
      pss_nil)
      (pss_cons (ps_if (pt_cmpR op_eq (pv 1) (pe_str) (nomark _))
      (pss_cons (ps_set (i := 3) sc_Session_told.nd rfl (Or.inl rfl) (hmeth (ok_Desk_answer (K := K) T) (hr.mono (by decide)) T.c_Desk T.m_Desk_answer pass0 (pv 2) (pa_cons (pe_str) pa_nil)))
      (pss_one (ps_ret (pe_ifExp (pt_cmpR op_isN (pv 3) (pe_non) (nomark _)) (pe_str) (pe_callTy (call_str_int.or SkE.call_str_str) (by rfl) T.b_str (by decide +kernel) (pa_cons (pv 3) pa_nil))))))
      pss_nil)
      (pss_cons (ps_if (pt_cmpR op_eq (pv 1) (pe_str) (nomark _))
      (pss_one (ps_ret (hc (ok_format_plant (K := K) T) (hr.mono (by decide)) T.g_format_plant pass0 (pa_cons (pe_nw) pa_nil))))
      pss_nil)
      (pss_cons (ps_if (pt_cmpR op_eq (pv 1) (pe_str) (nomark _))
      (pss_one (ps_ret (hc (ok_format_readings (K := K) T) (hr.mono (by decide)) T.g_format_readings pass0 (pa_cons (pe_nw) pa_nil))))
      pss_nil)
      (pss_one (ps_ret (pe_non))))))))))), ?_⟩
  walk_at "g"
  · intro H1 f s1 p1 p2
    have c6 : ¬ V.int (costN rk rf (fun _ => 1) f) = V.non := fun e => by cases e
    walk_at "g"
    exact .inl ⟨_, rfl, cost_small hpv hv p1, q H1 f s1 p1 p2⟩
  · intro H1 s1 p1
    walk_at "g"
    refine iteD (p := V.non = V.non) rfl ?_
    exact qn H1 s1 p1
def sp_Session_obeyed (K : PySem.W.Frag) : Sp := fun vs H Q _ => ∃ self p pl rk rf kn a, vs = [.ref self, .ref a] ∧ H a = some (.lst [.str "least"]) ∧ SesO K H self p pl rk rf kn ∧ PV pl ∧ RdV pl rk rf ∧ SesQ pl rk rf kn H Q
theorem sc_Session_obeyed : FnScope ["self", "parts", "deed", "ranges"] ["self", "parts"] (defScope s_Session_obeyed) := ⟨rfl, rfl, rfl, by decide +kernel, rfl, by decide +kernel, by decide +kernel⟩
theorem ok_Session_obeyed (T : Tx K mg) : Has P w K mg base CX0 12 (A_Session_obeyed K) ["self", "parts"] [] (sp_Session_obeyed K) := by
  obtain ⟨fd, F⟩ := T.F_Session_obeyed
  refine ⟨fd, [], F.ok sc_Session_obeyed (fun vs H Q E h => by
    obtain ⟨_, _, _, _, _, _, _, rfl, _⟩ := h
    rfl) (fun cdv A outer s H vs Q E hr h => ?_), F.bindsN (fun _ _ _ _ _ _ us hl => match us, hl with | [_, _], _ => rfl), .nil, F.kp⟩
  obtain ⟨self, p, pl, rk, rf, kn, a, rfl, ha, hS, hpv, hv, q⟩ := h
  obtain ⟨dx, dk, hs, _⟩ := hS.ob
  have k1 := T.c_Session
  have k2 := T.n_Session_desk
  refine ⟨_, (pss_cons (ps_set (i := 2) sc_Session_obeyed.nd rfl (Or.inl rfl) (hc (ok_deed_of (K := K) T) (hr.mono (by decide)) T.g_deed_of pass0 (pa_cons (pv 1) pa_nil)))
      (pss_cons (ps_if (pt_cmpR op_notN (pv 2) (pe_non) (nomark _))
      (pss_cons (ps_expr (pe_nw))
      (pss_one (ps_ret (pe_str))))
      pss_nil)
      (pss_cons (ps_if (pt_cmpR op_eq (pe_callB lenL (by rfl) T.b_len (by decide +kernel) (pa_cons (pv 1) pa_nil)) (pe_int) (nomark _))
      (pss_one (ps_ret (hmeth (ok_Session_told (K := K) T) (hr.mono (by decide)) T.c_Session T.m_Session_told pass0 (pv 0) (pa_cons (pe_ix ixL (pv 1) (pe_int) (fun _ _ => rfl)) pa_nil))))
      pss_nil)
      (pss_cons (ps_if (PW.pt (pw_and (pt_cmpR op_eq (pe_callB lenL (by rfl) T.b_len (by decide +kernel) (pa_cons (pv 1) pa_nil)) (pe_int) (nomark _)) (pw_and1 (pt_cmpR op_eq (pe_ix ixL (pv 1) (pe_int) (fun _ _ => rfl)) (pe_str) (nomark _)))))
      (pss_cons (ps_expr (pe_nw))
      (pss_cons (ps_set (i := 3) sc_Session_obeyed.nd rfl (Or.inl rfl) (hmeth (ok_Desk_answer (K := K) T) (hr.mono (by decide)) T.c_Desk T.m_Desk_answer pass0 (fld T.c_Session T.n_Session_desk (pv 0)) (pa_cons (pe_str) pa_nil)))
      (pss_one (ps_ret (pe_ifExp (pt_cmpR op_isN (pv 3) (pe_non) (nomark _)) (pe_str) (pe_jd (PJ.cons (pe_fmt (pe_nw)) (PJ.cons pe_str (PJ.cons (pe_fmt (pe_nw)) PJ.nil)))))))))
      pss_nil)
      (pss_one (ps_ret (pe_non))))))), ?_⟩
  walk_at "g"
  intro H1 s1
  have ha1 := s1 _ _ ha
  have hs1 := s1 _ _ hs
  have hS1 := hS.same s1
  have q1 := q.same s1
  have n0 : ¬ ¬ V.non = V.non := fun z => z rfl
  have n1 : V.int (([V.str "least"] : List V).length : Int) = V.int 1 := rfl
  have at0 : atI [V.str "least"] (0 : Int) = some (.str "least") := atI_nat (j := 0) rfl
  walk_at "g"
def sp_Session_obey (K : PySem.W.Frag) : Sp := fun vs H Q _ => ∃ self p pl rk rf kn, vs = [.ref self, .str "least"] ∧ SesO K H self p pl rk rf kn ∧ PV pl ∧ RdV pl rk rf ∧ SesQ pl rk rf kn H Q
theorem sc_Session_obey : FnScope ["self", "line", "parts", "reply", "error"] ["self", "line"] (defScope s_Session_obey) := ⟨rfl, rfl, rfl, by decide +kernel, rfl, by decide +kernel, by decide +kernel⟩
theorem ok_Session_obey (T : Tx K mg) : Has P w K mg base CX0 13 (A_Session_obey K) ["self", "line"] [] (sp_Session_obey K) := by
  obtain ⟨fd, F⟩ := T.F_Session_obey
  refine ⟨fd, [], F.ok sc_Session_obey (fun vs H Q E h => by
    obtain ⟨_, _, _, _, _, _, rfl, _⟩ := h
    rfl) (fun cdv A outer s H vs Q E hr h => ?_), F.bindsN (fun _ _ _ _ _ _ us hl => match us, hl with | [_, _], _ => rfl), .nil, F.kp⟩
  obtain ⟨self, p, pl, rk, rf, kn, rfl, hS, hpv, hv, q⟩ := h
  have k1 := T.c_Session
  have k2 := T.n_Session_desk
  have hs7 : ("least" : Str).length + 2 ≤ sizeLine := (by decide : 5 + 2 ≤ sizeLine)
  have hsp : Txt.split ("least" : Str) (" " : Str) = [("least" : Str)] := by decide +kernel
  refine ⟨_, (pss_cons (ps_set (i := 2) sc_Session_obey.nd rfl (Or.inl rfl) (pe_split (pv 1) (pe_str)))
      (pss_cons (ps_try_as (i := 4) rfl rfl sc_Session_obey.nd rfl rfl ⟨rfl, by decide, .inl T.g_MeterError⟩ takes0 (fun W pn xe tk _ => (pss_cons (ps_set (i := 3) sc_Session_obey.nd rfl (Or.inl rfl) (pe_non))
      (pss_one (ps_if (pt_cmpR op_ninSt (pe_str) (pv 2) (by rfl))
      (pss_one (ps_set (i := 3) sc_Session_obey.nd rfl (Or.inl rfl) (hmeth (ok_Session_obeyed (K := K) T) (hr.mono (by decide)) T.c_Session T.m_Session_obeyed pass0 (pv 0) (pa_cons (pv 2) pa_nil))))
      pss_nil)))) (fun a oe cls d pn _ _ => (pss_one ps_never)))
      (pss_cons (ps_if (pt_cmpR op_isN (pv 3) (pe_non) (nomark _))
      (pss_one (ps_ret (pe_str)))
      pss_nil)
      (pss_one (ps_ret (pv 3)))))), ?_⟩
  walk_at "g"
  rw [hsp]
  intro a n_a
  generalize hG : upd H a _ = H1; have s_H1 : Same H H1 := nw_same n_a hG; have e_a := nw_at hG; clear hG
  have e_a2 : H1 a = some (.lst [V.str "least"]) := e_a
  have e_a3 : StL H1 a [("least" : Str)] := e_a
  have hni : ("" : Str) ∉ [("least" : Str)] := by decide +kernel
  have hS1 := hS.same s_H1
  have q1 := q.same s_H1
  obtain ⟨dx, dk, hs1, _⟩ := hS1.ob
  walk_at "g"
  · intro H2 f s2 p1 p2
    have c1 : ¬ V.str (toString (costN rk rf (fun _ => 1) f)) = V.non := fun e => by cases e
    walk_at "g"
    exact q1.1 H2 f s2 p1 p2
  · intro H2 s2 p1
    have c1 : ¬ V.str "none" = V.non := fun e => by cases e
    walk_at "g"
    exact q1.2 H2 s2 p1
end
end M
end
-- part X3
section
set_option Elab.async false
set_option linter.all false
set_option maxRecDepth 100000
set_option maxHeartbeats 4000000
namespace M
open PySem PySem.Spec PyProof.Rows L2
local macro_rules | `(tactic| walk_at "f") => `(tactic| (first
  | assumption
  | exact upd_same
  | exact Same.refl _
  | exact flat_strs
  | exact fd_keys
  | ((with_reducible apply same_at); assumption; walk_at "f")
  | ((with_reducible apply tupOf); walk_at "f")
  | ((with_reducible apply lstOf); walk_at "f")
  | ((with_reducible apply tyV_l); walk_at "f")
  | ((with_reducible apply Rd.of); walk_at "f")
  | ((with_reducible apply dget_ne); assumption; assumption)
  | ((with_reducible apply dget_fd) <;> walk_at "f")
  | ((with_reducible apply dput_int) <;> walk_at "f")
  | ((with_reducible apply dput_fd) <;> walk_at "f")
  | ((with_reducible apply rd_upd); assumption; walk_at "f")
  | ((with_reducible apply at_upd); assumption; walk_at "f")
  | ((with_reducible apply same_put); walk_at "f"; assumption)
  | ((with_reducible apply sx_upd) <;> walk_at "f")
  | ((with_reducible refine Same.trans ?_ (by assumption)); walk_at "f")
  | exact Nat.le_of_lt (small1000 (by first | assumption | omega))
  | exact (Nat.zero_le _ : 0 ≤ sizeLine)
  | exact (by decide : 1 ≤ sizeLine)
  | exact (by decide : 2 ≤ sizeLine)
  | exact (by decide : 3 ≤ sizeLine)
  | exact (by decide : 5 ≤ sizeLine)
  | exact (by decide : 6 ≤ sizeLine)
  | exact cmulL (by omega) (by omega)
  | exact cmulR (by omega) (by omega)
  | ((with_reducible apply SameE.upd); walk_at "f")
  | (show _ < 1000; exact of_decide_eq_true rfl)
  | exact len2 (by omega) (by omega)
  | exact small1000 (by first | assumption | omega)
  | ((with_reducible apply StL.same); assumption; walk_at "f")
  | ((with_reducible apply LT.same); assumption; walk_at "f")
  | ((with_reducible apply IsP.same); assumption; walk_at "f")
  | ((with_reducible apply IsPl.same); assumption; walk_at "f")
  | ((with_reducible apply IntD.same); assumption; walk_at "f")
  | ((with_reducible apply PrD.same); assumption; walk_at "f")
  | ((with_reducible apply Or.inl); walk_at "f")
  | ((with_reducible apply Or.inr); walk_at "f")
  | omega))
local macro_rules | `(tactic| walk_at "g") => `(tactic| repeat (first
  | assumption
  | with_reducible apply And.intro
  | with_reducible apply Exists.intro
  | exact rfl
  | walk_at "f"
  | exact iteT (by assumption)
  | exact iteF (by assumption)
  | ((with_reducible apply iteD); (first | assumption | omega))
  | ((with_reducible apply iteN); (first | assumption | omega))
  | ((with_reducible apply iteD2); (first | assumption | omega))
  | ((with_reducible apply iteN2); (first | assumption | omega))
  | apply And.intro
  | apply Exists.intro))
section
variable {P : Program} {w : World} {K : PySem.W.Frag} {mg : Str → Option Value} {base : Heap}
theorem at_ints {ns : List Int} {i : Int} (h0 : 0 ≤ i) (h : i < ns.length) : ∃ x ∈ ns, atI (ns.map V.int) i = some (.int x) := by
  obtain ⟨j, rfl⟩ : ∃ j : Nat, i = j := ⟨i.toNat, by omega⟩
  have hj : j < ns.length := by omega
  refine ⟨ns[j], List.getElem_mem hj, atI_nat ?_⟩
  rw [List.getElem?_map, List.getElem?_eq_getElem hj]
  rfl
theorem at_mod {ks : List Str} (h : 0 < ks.length) (x : Int) : ∃ k ∈ ks, atI (ks.map V.str) (x % ((ks.map V.str).length : Int)) = some (.str k) := by
  have hl : (ks.map V.str).length = ks.length := List.length_map ..
  obtain ⟨b1, b2⟩ := emod_in x (n := ((ks.map V.str).length : Int)) (by omega)
  obtain ⟨j, e⟩ : ∃ j : Nat, x % ((ks.map V.str).length : Int) = j := ⟨(x % ((ks.map V.str).length : Int)).toNat, by omega⟩
  rw [e]
  have hj : j < ks.length := by omega
  refine ⟨ks[j], List.getElem_mem hj, atI_nat ?_⟩
  rw [List.getElem?_map, List.getElem?_eq_getElem hj]
  rfl
def k4 : List Str := ["a", "b", "cc", "d4"]
def n5 : List Str := ["st", "sz", "sb", "sm", "sa"]
structure SmallP (pl : Plt) : Prop where
  v : PV pl
  k : pl.knots.length ≤ 4
  s : pl.ss.length ≤ 5
  h : ∀ s ∈ pl.ss, s.high ≤ s.low + 2 ∧ s.high ≤ 4
theorem ok4 : ∀ k ∈ k4, okName k := by
  intro k hk
  have : k = "a" ∨ k = "b" ∨ k = "cc" ∨ k = "d4" := by
    unfold k4 at hk
    simpa using hk
  rcases this with e | e | e | e <;> subst e <;> exact ⟨by decide, by decide, by decide⟩
theorem ok5 : ∀ k ∈ n5, okName k := by
  intro k hk
  have : k = "st" ∨ k = "sz" ∨ k = "sb" ∨ k = "sm" ∨ k = "sa" := by
    unfold n5 at hk
    simpa using hk
  rcases this with e | e | e | e | e <;> subst e <;> exact ⟨by decide, by decide, by decide⟩
theorem nd4 : k4.Nodup := by decide
theorem nd5 : n5.Nodup := by decide
theorem low_in (x : Int) (b : Bool) : 0 ≤ (x % 5 * (if b = true then 1 else 0)) / 2 ∧ (x % 5 * (if b = true then 1 else 0)) / 2 ≤ 2 := by
  cases b
  · simp
  · simp
    omega
theorem tz5 {x : Nat} (h : x < 5) : ∃ c, atI ("tzbma" : Str).cps.toList (0 + (x : Int)) = some c ∧ n5.take (x + 1) = n5.take x ++ [("s" : Str) ++ ⟨#[c]⟩] := by
  match x, h with
  | 0, _ => exact ⟨_, rfl, by decide⟩
  | 1, _ => exact ⟨_, rfl, by decide⟩
  | 2, _ => exact ⟨_, rfl, by decide⟩
  | 3, _ => exact ⟨_, rfl, by decide⟩
  | 4, _ => exact ⟨_, rfl, by decide⟩
def sp_L_small (K : PySem.W.Frag) : Sp := fun vs H Q _ => ∃ a, ∃ ns : List Int, vs = [.ref a, .int 0] ∧ H a = some (.lst (ns.map V.int)) ∧ ns.length = 60 ∧ (∀ x ∈ ns, 0 ≤ x ∧ x ≤ 1008) ∧
  ∀ H' t kl sl pl, Same H H' → H' t = some (.tup [.ref kl, .ref sl]) → StL H' kl pl.knots → LT sV H' sl pl.ss → SmallP pl → Q (.ref t) H'
theorem sc_L_small : FnScope ["_law_numbers_here", "_law_at", "_law_knots", "_law_streams", "_law_k", "_law_place", "_law_low", "_law_high"] ["_law_numbers_here", "_law_at"] (defScope s_L_small) := ⟨rfl, rfl, rfl, by decide +kernel, rfl, by decide +kernel, by decide +kernel⟩
theorem ok_L_small (T : Tx K mg) : Has P w K mg base CX0 1 (A_L_small K) ["_law_numbers_here", "_law_at"] [] (sp_L_small K) := by
  obtain ⟨fd, F⟩ := T.F_L_small
  refine ⟨fd, [], F.ok sc_L_small (fun vs H Q E h => by
    obtain ⟨_, _, rfl, _⟩ := h
    rfl) (fun cdv A outer s H vs Q E hr h => ?_), F.bindsN (fun _ _ _ _ _ _ us hl => match us, hl with | [_, _], _ => rfl), .nil, F.kp⟩
  obtain ⟨a, ns, rfl, ha, hl, hr1, q⟩ := h
  refine ⟨_, (pss_cons (ps_set (i := 2) sc_L_small.nd rfl (Or.inl rfl) (pe_slice slL (pe_lst (pa_cons (pe_str) (pa_cons (pe_str) (pa_cons (pe_str) (pa_cons (pe_str) pa_nil))))) po_none (po_some (pe_op op_add (pe_int) (pe_op op_mod (pe_callTy intI (by rfl) T.b_int (by decide +kernel) (pa_cons (pe_ix ixL (pv 0) (pv 1) (fun _ _ => rfl)) pa_nil)) (pe_int))))))
      (pss_cons (ps_set (i := 3) sc_L_small.nd rfl (Or.inl rfl) (pe_lst pa_nil))
      (pss_cons (psFor (passes_of rfl) rfl (pi_range1 (by rfl) T.b_range (pa_cons (pe_op op_mod (pe_callTy intI (by rfl) T.b_int (by decide +kernel) (pa_cons (pe_ix ixL (pv 0) (pe_op op_add (pv 1) (pe_int)) (fun _ _ => rfl)) pa_nil)) (pe_int)) pa_nil)) (pg_name (i := 4) sc_L_small.nd rfl (Or.inl rfl))
      (pss_cons (ps_set (i := 5) sc_L_small.nd rfl (Or.inl rfl) (pe_op op_add (pe_op op_add (pv 1) (pe_int)) (pe_op op_mul (pe_int) (pv 4))))
      (pss_cons (ps_set (i := 6) sc_L_small.nd rfl (Or.inl rfl) (pe_op op_fdiv (pe_op op_mul (pe_op op_mod (pe_callTy intI (by rfl) T.b_int (by decide +kernel) (pa_cons (pe_ix ixL (pv 0) (pe_op op_add (pv 5) (pe_int)) (fun _ _ => rfl)) pa_nil)) (pe_int)) (pe_callTy intB (by rfl) T.b_int (by decide +kernel) (pa_cons (pe_cmpR op_eq (pe_op op_mod (pe_callTy intI (by rfl) T.b_int (by decide +kernel) (pa_cons (pe_ix ixL (pv 0) (pe_op op_add (pv 5) (pe_int)) (fun _ _ => rfl)) pa_nil)) (pe_int)) (pe_int) (nomark _)) pa_nil))) (pe_int)))
      (pss_cons (ps_set (i := 7) sc_L_small.nd rfl (Or.inl rfl) (pe_op op_add (pv 6) (pe_op op_mod (pe_callTy intI (by rfl) T.b_int (by decide +kernel) (pa_cons (pe_ix ixL (pv 0) (pe_op op_add (pv 5) (pe_int)) (fun _ _ => rfl)) pa_nil)) (pe_int))))
      (pss_one (ps_expr (pe_bm PySem.F.plainAttrs_list PySem.F.slot_list_append PySem.F.type_list_append mt_append (pv 3) (pa_cons (pe_tup (pa_cons (pe_op op_add_str (pe_str) (pe_ix ix_str (pe_str) (pv 4) (fun _ _ => rfl))) (pa_cons (pe_ix ixL (pv 2) (pe_op op_mod (pe_callTy intI (by rfl) T.b_int (by decide +kernel) (pa_cons (pe_ix ixL (pv 0) (pv 5) (fun _ _ => rfl)) pa_nil)) (pe_callB lenL (by rfl) T.b_len (by decide +kernel) (pa_cons (pv 2) pa_nil))) (fun _ _ => rfl)) (pa_cons (pe_ix ixL (pv 2) (pe_op op_mod (pe_callTy intI (by rfl) T.b_int (by decide +kernel) (pa_cons (pe_ix ixL (pv 0) (pe_op op_add (pv 5) (pe_int)) (fun _ _ => rfl)) pa_nil)) (pe_callB lenL (by rfl) T.b_len (by decide +kernel) (pa_cons (pv 2) pa_nil))) (fun _ _ => rfl)) (pa_cons (pv 6) (pa_cons (pv 7) pa_nil)))))) pa_nil))))))))
      (pss_one (ps_ret (pe_tup (pa_cons (pv 2) (pa_cons (pv 3) pa_nil)))))))), ?_⟩
  obtain ⟨z0, m0, a0⟩ := at_ints (ns := ns) (i := 0) (by decide) (by omega)
  obtain ⟨z1, m1, a1⟩ := at_ints (ns := ns) (i := 0 + 1) (by decide) (by omega)
  have r0 := hr1 _ m0
  have r1 := hr1 _ m1
  have hs4 : [V.str "a", V.str "b", V.str "cc", V.str "d4"].length ≤ sizeLine := (by decide : 4 ≤ sizeLine)
  have p4 : (0 : Int) < 4 := by decide
  have p6 : (0 : Int) < 6 := by decide
  walk_at "g"
  intro b0 n_b0; generalize hG : upd H b0 _ = H1; have s_H1 : Same H H1 := nw_same n_b0 hG; have e_b0 := nw_at hG; clear hG
  have ha1 := s_H1 _ _ ha
  have e_b02 : H1 b0 = some (.lst (k4.map V.str)) := e_b0
  walk_at "g"
  intro kl n_kl
  have hcut : cutV (k4.map V.str) none (some (1 + z0 % 4)) = (k4.take (1 + z0 % 4).toNat).map V.str := by
    obtain ⟨j, hj⟩ : ∃ j : Nat, 1 + z0 % 4 = j := ⟨(1 + z0 % 4).toNat, by omega⟩
    have hj4 : j ≤ 4 := by omega
    rw [cutV_map, hj, HT.sIx_none, HT.sIx_nat, List.drop_zero, Nat.sub_zero, Int.toNat_natCast, Nat.min_eq_left (show j ≤ k4.length from hj4)]
  generalize hks : k4.take (1 + z0 % 4).toNat = ks at hcut
  have hk1 : 1 ≤ ks.length ∧ ks.length ≤ 4 := by
    rw [← hks, List.length_take]
    show 1 ≤ min _ 4 ∧ min _ 4 ≤ 4
    omega
  have hkm : ∀ k ∈ ks, k ∈ k4 := fun k hk => List.mem_of_mem_take (hks ▸ hk)
  have hkn : ks.Nodup := hks ▸ nd4.sublist (List.take_sublist _ _)
  rw [hcut]
  generalize hG : upd H1 kl _ = H2
  have s_H2 := nw_same n_kl hG
  have e_kl := nw_at hG
  clear hG
  have ha2 := s_H2 _ _ ha1
  walk_at "g"
  intro sl n_sl; generalize hG : upd H2 sl _ = H3; have s_H3 : Same H2 H3 := nw_same n_sl hG; have e_sl := nw_at hG; clear hG
  have ha3 := s_H3 _ _ ha2
  have e_kl3 := s_H3 _ _ e_kl
  walk_at "g"
  refine ⟨forG (wk_range (lo := 0) (n := (z1 % 6).toNat)) (fun i σ H' => Hold (∃ y4 y5 y6 y7, ∃ ss : List Strm, ∃ us : List V, σ = [some (.ref a), some (.int 0), some (.ref kl), some (.ref sl), y4, y5, y6, y7] ∧ Same H2 H' ∧ H' sl = some (.lst us) ∧ A2 (fun s v => TupR (sV s) v H') ss us ∧ ss.map (·.name) = n5.take i ∧ (∀ s ∈ ss, s.tail ∈ ks ∧ s.head ∈ ks ∧ 0 ≤ s.low ∧ s.low ≤ s.high ∧ s.high ≤ s.low + 2 ∧ s.high ≤ 4)))
    ⟨none, none, none, none, [], [], rfl, s_H3, e_sl, .nil, rfl, fun s h => nomatch h⟩ (fun i σ H' _ h => trivial) (fun i x v σ H' H'' ex h s5 hv2 => ?_) (fun σ H' h => ?_)⟩
  · obtain ⟨y4, y5, y6, y7, ss, us, rfl, t1, t2, t3, t4, t5⟩ := h.go
    subst hv2
    have hi := (List.getElem?_eq_some_iff.mp ex).1
    have hx : x = i := by
      have := (List.getElem?_eq_some_iff.mp ex).2
      rw [List.getElem_range] at this
      exact this.symm
    subst hx
    rw [List.length_range] at hi
    have hx5 : x < 5 := by omega
    have b1 := t1.trans s5
    have ha4 := b1 _ _ ha2
    have hk4 := b1 _ _ e_kl
    have t2' := s5 _ _ t2
    have t3' : A2 (fun s v => TupR (sV s) v H'') ss us := t3.imp fun s v r => r.same s5
    have hsl : ss.length ≤ 5 := by
      have := congrArg List.length t4
      rw [List.length_map, List.length_take] at this
      omega
    have hul : us.length ≤ 1000 := by
      rw [t3.length]
      omega
    obtain ⟨w0, n0, c0⟩ := at_ints (ns := ns) (i := 0 + 2 + 4 * (0 + (x : Int))) (by omega) (by omega)
    obtain ⟨w1, n1, c1⟩ := at_ints (ns := ns) (i := 0 + 2 + 4 * (0 + (x : Int)) + 1) (by omega) (by omega)
    obtain ⟨w2, n2, c2⟩ := at_ints (ns := ns) (i := 0 + 2 + 4 * (0 + (x : Int)) + 2) (by omega) (by omega)
    obtain ⟨w3, n3, c3⟩ := at_ints (ns := ns) (i := 0 + 2 + 4 * (0 + (x : Int)) + 3) (by omega) (by omega)
    have p5 : (0 : Int) < 5 := by decide
    have p3 : (0 : Int) < 3 := by decide
    have p2 : (0 : Int) < 2 := by decide
    have pk : (0 : Int) < ((ks.map V.str).length : Int) := by
      rw [List.length_map]
      omega
    obtain ⟨k1, h1, d1⟩ := at_mod (ks := ks) (by omega) w0
    obtain ⟨k2, h2, d2⟩ := at_mod (ks := ks) (by omega) w1
    obtain ⟨c, hc1, hc2⟩ := tz5 hx5
    have hsz : ("s" : Str).length + Str.length ⟨#[c]⟩ ≤ sizeLine := (by decide : 2 ≤ sizeLine)
    walk_at "g"
    intro t n_t; generalize hG : upd H'' t _ = H4; have s_H4 : Same H'' H4 := nw_same n_t hG; have e_t := nw_at hG; clear hG
    have e_t2 : H4 t = some (.tup (sV ⟨("s" : Str) ++ ⟨#[c]⟩, k1, k2, (w2 % 5 * (if decide (V.int (w3 % 4) = V.int 0) = true then 1 else 0)) / 2, (w2 % 5 * (if decide (V.int (w3 % 4) = V.int 0) = true then 1 else 0)) / 2 + w3 % 3⟩)) := e_t
    have t2'' := s_H4 _ _ t2'
    walk_at "g"
    have hlo := low_in w2 (decide (V.int (w3 % 4) = V.int 0))
    generalize (w2 % 5 * (if decide (V.int (w3 % 4) = V.int 0) = true then 1 else 0)) / 2 = Z at e_t2 hlo
    refine ⟨_, _, _, _, ss ++ [_], us ++ [.ref t], rfl, same_put (b1.trans s_H4) n_sl, upd_same, app_tup s_H4 t2' t3' e_t2, ?_, fun s hs => ?_⟩
    · rw [List.map_append, t4, hc2]
      rfl
    · rcases List.mem_append.mp hs with hs | hs
      · exact t5 s hs
      · rw [List.mem_singleton.mp hs]
        refine ⟨h1, h2, hlo.1, ?_, ?_, ?_⟩
        · show Z ≤ Z + w3 % 3
          omega
        · show Z + w3 % 3 ≤ Z + 2
          omega
        · show Z + w3 % 3 ≤ 4
          omega
  · obtain ⟨y4, y5, y6, y7, ss, us, rfl, t1, t2, t3, t4, t5⟩ := h.go
    walk_at "g"
    intro t n_t; generalize hG : upd H' t _ = H9; have s_H9 : Same H' H9 := nw_same n_t hG; have e_t := nw_at hG; clear hG
    rw [List.length_range] at t4
    have hsl : ss.length ≤ 5 := by
      have := congrArg List.length t4
      rw [List.length_map, List.length_take] at this
      show _ ≤ n5.length
      omega
    have hnm : ∀ n ∈ ss.map (·.name), n ∈ n5 := fun n hn => List.mem_of_mem_take (t4 ▸ hn)
    refine q H9 t kl sl ⟨ks, ss⟩ ((s_H1.trans (s_H2.trans t1)).trans s_H9) e_t (s_H9 _ _ (t1 _ _ e_kl)) ⟨us, s_H9 _ _ t2, t3.imp fun s v r => r.same s_H9⟩ ⟨⟨hkn, hk1.1, by show ks.length ≤ 24; omega, by show (ss.map (·.name)).Nodup; rw [t4]; exact nd5.sublist (List.take_sublist _ _), by show ss.length ≤ 30; omega, fun s hs => (t5 s hs).1, fun s hs => (t5 s hs).2.1, fun s hs => ?_, fun k hk => ok4 k (hkm k hk), fun n hn => ok5 n (hnm n hn)⟩, hk1.2, hsl, fun s hs => ⟨(t5 s hs).2.2.2.2.1, (t5 s hs).2.2.2.2.2⟩⟩
    obtain ⟨_, _, z1, z2, z3, z4⟩ := t5 s hs
    exact ⟨z1, z2, by omega⟩
end
end M
end
-- part X4
section
set_option Elab.async false
set_option linter.all false
set_option maxRecDepth 100000
set_option maxHeartbeats 4000000
namespace M
open PySem PySem.Spec PyProof.Rows L2
local macro_rules | `(tactic| walk_at "e") => `(tactic| (first
  | exact rfl
  | assumption
  | exact upd_same
  | exact flat_strs
  | exact fd_keys
  | ((with_reducible apply same_at); assumption; walk_at "f")
  | ((with_reducible apply at_upd); assumption; walk_at "f")
  | omega))
local macro_rules | `(tactic| walk_at "n") => `(tactic| (first
  | assumption
  | omega
  | exact Nat.le_of_lt (small1000 (by first | assumption | omega))
  | exact (Nat.zero_le _ : 0 ≤ sizeLine)
  | exact (by decide : 1 ≤ sizeLine)
  | exact (by decide : 2 ≤ sizeLine)
  | exact (by decide : 3 ≤ sizeLine)
  | exact (by decide : 5 ≤ sizeLine)
  | exact (by decide : 6 ≤ sizeLine)
  | (show _ < 1000; exact of_decide_eq_true rfl)
  | exact len2 (by omega) (by omega)
  | exact small1000 (by first | assumption | omega)))
local macro_rules | `(tactic| walk_at "f") => `(tactic| (first
  | with_reducible assumption
  | ((with_reducible apply gEq); walk_at "e")
  | ((with_reducible apply gLe); walk_at "n")
  | ((with_reducible apply gLt); walk_at "n")
  | ((with_reducible apply gNot); (first | assumption | omega))
  | with_reducible exact Same.refl _
  | ((with_reducible apply tupOf); walk_at "f")
  | ((with_reducible apply lstOf); walk_at "f")
  | ((with_reducible apply gCls); assumption)
  | ((with_reducible apply gNoAttr); assumption)
  | ((with_reducible apply gIsPl); assumption)
  | ((with_reducible apply gStL); assumption)
  | ((with_reducible apply gIntD); assumption)
  | ((with_reducible apply gSqT); assumption)
  | ((with_reducible apply gSqL); assumption)
  | ((with_reducible apply tyV_l); walk_at "f")
  | ((with_reducible apply Rd.of); walk_at "f")
  | ((with_reducible apply dget_ne); assumption; assumption)
  | ((with_reducible apply dget_fd) <;> walk_at "f")
  | ((with_reducible apply dput_int) <;> walk_at "f")
  | ((with_reducible apply dput_fd) <;> walk_at "f")
  | ((with_reducible apply rd_upd); assumption; walk_at "f")
  | ((with_reducible apply same_put); walk_at "f"; assumption)
  | ((with_reducible apply sx_upd) <;> walk_at "f")
  | ((with_reducible refine Same.trans ?_ (by assumption)); walk_at "f")
  | ((with_reducible apply cmulLg); omega; omega)
  | ((with_reducible apply cmulRg); omega; omega)
  | ((with_reducible apply SameE.upd); walk_at "f")
  | ((with_reducible apply StL.same); assumption; walk_at "f")
  | ((with_reducible apply LT.same); assumption; walk_at "f")
  | ((with_reducible apply IsP.same); assumption; walk_at "f")
  | ((with_reducible apply IsPl.same); assumption; walk_at "f")
  | ((with_reducible apply IntD.same); assumption; walk_at "f")
  | ((with_reducible apply PrD.same); assumption; walk_at "f")
  | ((with_reducible apply Or.inl); walk_at "f")
  | ((with_reducible apply Or.inr); walk_at "f")))
local macro_rules | `(tactic| walk_at "g") => `(tactic| repeat (first
  | with_reducible apply And.intro
  | with_reducible apply Exists.intro
  | walk_at "f"
  | ((with_reducible apply iteT); assumption)
  | ((with_reducible apply iteF); assumption)
  | ((with_reducible apply iteD); (first | assumption | omega))
  | ((with_reducible apply iteN); (first | assumption | omega))
  | ((with_reducible apply iteD2); (first | assumption | omega))
  | ((with_reducible apply iteN2); (first | assumption | omega))
  | apply And.intro
  | apply Exists.intro))
section
variable {P : Program} {w : World} {K : PySem.W.Frag} {mg : Str → Option Value} {base : Heap}
def sp_L_over (K : PySem.W.Frag) : Sp := fun vs H Q _ => ∃ a r f, vs = [.ref a, .int f] ∧ H a = some (.tup [.int r.1, .int r.2]) ∧ Q (.int (ov r f)) H
theorem sc_L_over : FnScope ["_law_reading", "_law_flow"] ["_law_reading", "_law_flow"] (defScope s_L_over) := ⟨rfl, rfl, rfl, by decide +kernel, rfl, by decide +kernel, by decide +kernel⟩
theorem ok_L_over (T : Tx K mg) : Has P w K mg base CX0 1 (A_L_over K) ["_law_reading", "_law_flow"] [] (sp_L_over K) := by
  obtain ⟨fd, F⟩ := T.F_L_over
  refine ⟨fd, [], F.ok sc_L_over (fun vs H Q E h => by
    obtain ⟨_, _, _, rfl, _⟩ := h
    rfl) (fun cdv A outer s H vs Q E hr h => ?_), F.bindsN (fun _ _ _ _ _ _ us hl => match us, hl with | [_, _], _ => rfl), .nil, F.kp⟩
  obtain ⟨a, r, f, rfl, ha, q⟩ := h
  have at0 : atI [V.int r.1, V.int r.2] (0 : Int) = some (.int r.1) := atI_nat (j := 0) rfl
  have at1 : atI [V.int r.1, V.int r.2] (1 : Int) = some (.int r.2) := atI_nat (j := 1) rfl
  refine ⟨_, (pss_one (ps_ret (pe_callB (call_max2 rfl) (by rfl) T.b_max (by decide +kernel) (pa_cons (pe_int) (pa_cons (pe_op op_sub (pe_callB call_abs (by rfl) T.b_abs (by decide +kernel) (pa_cons (pe_op op_sub (pv 1) (pe_ix ixT (pv 0) (pe_int) (fun _ _ => rfl))) pa_nil)) (pe_ix ixT (pv 0) (pe_int) (fun _ _ => rfl))) pa_nil))))), ?_⟩
  walk_at "g"
  have e := ov_eq r f
  exact e ▸ q
theorem PrD.put {H : Hp} {D t : Addr} {ks : List Str} {f : Str → Int × Int} {x : Str} {z : Int × Int} {r : Str → Addr} (g1 : H D = some (.dK (fdV ks fun k => .ref (r k)))) (g2 : ∀ k ∈ ks, H (r k) = some (.tup [.int (f k).1, .int (f k).2])) (ht : H t = some (.tup [.int z.1, .int z.2])) :
    PrD (upd H D (.dK (fdV (ks ++ [x]) (up (fun k => .ref (r k)) x (.ref t))))) D (ks ++ [x]) (up f x z) :=
  ⟨up r x t, by rw [upd_same, up_ref], fun k hk => by
    by_cases e : k = x
    · rw [e, up_same, up_same]
      exact at_upd (ne_at ht g1 (fun e => by cases e)) ht
    · rw [up_ne e, up_ne e]
      have hk := (List.mem_append.mp hk).resolve_right fun h => e (List.mem_singleton.mp h)
      exact at_upd (ne_at (g2 k hk) g1 (fun e => by cases e)) (g2 k hk)⟩
def sp_L_metered (K : PySem.W.Frag) : Sp := fun vs H Q _ => ∃ a b ss, ∃ ns : List Int, vs = [.ref a, .int 30, .ref b] ∧ H a = some (.lst (ns.map V.int)) ∧ ns.length = 60 ∧ (∀ x ∈ ns, 0 ≤ x ∧ x ≤ 1008) ∧ LT sV H b ss ∧ ss.length ≤ 5 ∧ (ss.map (·.name)).Nodup ∧
  ∀ H' d rk rf, Same H H' → H d = none → PrD H' d rk rf → rk.Nodup → (∀ n ∈ rk, n ∈ ss.map (·.name)) → (∀ n ∈ rk, 0 ≤ (rf n).1 ∧ (rf n).1 ≤ 5 ∧ 0 ≤ (rf n).2 ∧ (rf n).2 ≤ 1) → Q (.ref d) H'
theorem sc_L_metered : FnScope ["_law_numbers_here", "_law_at", "_law_streams", "_law_found", "_law_k"] ["_law_numbers_here", "_law_at", "_law_streams"] (defScope s_L_metered) := ⟨rfl, rfl, rfl, by decide +kernel, rfl, by decide +kernel, by decide +kernel⟩
theorem ok_L_metered (T : Tx K mg) : Has P w K mg base CX0 1 (A_L_metered K) ["_law_numbers_here", "_law_at", "_law_streams"] [] (sp_L_metered K) := by
  obtain ⟨fd, F⟩ := T.F_L_metered
  refine ⟨fd, [], F.ok sc_L_metered (fun vs H Q E h => by
    obtain ⟨_, _, _, _, rfl, _⟩ := h
    rfl) (fun cdv A outer s H vs Q E hr h => ?_), F.bindsN (fun _ _ _ _ _ _ us hl => match us, hl with | [_, _, _], _ => rfl), .nil, F.kp⟩
  obtain ⟨a, b, ss, ns, rfl, ha, hl, hr1, hb, hsl, hnn, q⟩ := h
  obtain ⟨us, hb1, hb2⟩ := hb.ex
  have hul := hb2.length
  refine ⟨_, (pss_cons (ps_set (i := 3) sc_L_metered.nd rfl (Or.inl rfl) (pe_dnewK))
      (pss_cons (psFor (passes_of rfl) rfl (pi_range1 (by rfl) T.b_range (pa_cons (pe_callB lenL (by rfl) T.b_len (by decide +kernel) (pa_cons (pv 2) pa_nil)) pa_nil)) (pg_name (i := 4) sc_L_metered.nd rfl (Or.inl rfl))
      (pss_one (ps_if (pt_cmpR op_gt (pe_op op_mod (pe_callTy intI (by rfl) T.b_int (by decide +kernel) (pa_cons (pe_ix ixL (pv 0) (pe_op op_add (pv 1) (pe_op op_mul (pe_int) (pv 4))) (fun _ _ => rfl)) pa_nil)) (pe_int)) (pe_int) (nomark _))
      (pss_one (ps_dput (hu_of hr) (pv 3) (pe_ix ixT (pe_ix ixL (pv 2) (pv 4) (fun _ _ => rfl)) (pe_int) (fun _ _ => rfl)) (pe_tup (pa_cons (pe_op op_mod (pe_callTy intI (by rfl) T.b_int (by decide +kernel) (pa_cons (pe_ix ixL (pv 0) (pe_op op_add (pe_op op_add (pv 1) (pe_op op_mul (pe_int) (pv 4))) (pe_int)) (fun _ _ => rfl)) pa_nil)) (pe_int)) (pa_cons (pe_op op_mod (pe_op op_fdiv (pe_callTy intI (by rfl) T.b_int (by decide +kernel) (pa_cons (pe_ix ixL (pv 0) (pe_op op_add (pe_op op_add (pv 1) (pe_op op_mul (pe_int) (pv 4))) (pe_int)) (fun _ _ => rfl)) pa_nil)) (pe_int)) (pe_int)) pa_nil))) rfl))
      pss_nil)))
      (pss_one (ps_ret (pv 3))))), ?_⟩
  walk_at "g"
  intro D n_D; generalize hG : upd H D _ = H1; have s_H1 : Same H H1 := nw_same n_D hG; have e_D := nw_at hG; clear hG
  have hb11 := s_H1 _ _ hb1
  walk_at "g"
  refine ⟨forG (wk_range (lo := 0) (n := (us.length : Int).toNat)) (fun i σ H' => Hold (∃ y4, ∃ rk : List Str, ∃ rf : Str → Int × Int, σ = [some (.ref a), some (.int 30), some (.ref b), some (.ref D), y4] ∧ Same H H' ∧ PrD H' D rk rf ∧ rk.Nodup ∧ (∀ n ∈ rk, n ∈ (ss.take i).map (·.name)) ∧ (∀ n ∈ rk, 0 ≤ (rf n).1 ∧ (rf n).1 ≤ 5 ∧ 0 ≤ (rf n).2 ∧ (rf n).2 ≤ 1)))
    ⟨none, [], fun _ => (0, 0), rfl, s_H1, ⟨fun _ => 0, e_D, fun k h => (nomatch h)⟩, List.nodup_nil, (fun k h => nomatch h), (fun k h => nomatch h)⟩ (fun i σ H' _ h => trivial) (fun i x v σ H' H'' ex h s5 hv2 => ?_) (fun σ H' h => ?_)⟩
  · obtain ⟨y4, rk, rf, rfl, t1, t2, t3, t4, t5⟩ := h.go
    subst hv2
    have hi := (List.getElem?_eq_some_iff.mp ex).1
    have hx : x = i := by
      have := (List.getElem?_eq_some_iff.mp ex).2
      rw [List.getElem_range] at this
      exact this.symm
    subst hx
    rw [List.length_range] at hi
    have hi : x < ss.length := by omega
    have u1 := t1.trans s5
    have ha4 := u1 _ _ ha
    have hb4 := u1 _ _ hb1
    obtain ⟨r, g1, g2⟩ := (t2.same s5).ex
    have es : ss[x]? = some ss[x] := List.getElem?_eq_getElem hi
    obtain ⟨v, ev, t, rfl, ht⟩ := hb2.get es
    have ht4 := u1 _ _ ht
    have atS : atI us (0 + (x : Int)) = some (.ref t) := by
      rw [Int.zero_add]
      exact atI_nat ev
    have atN : atI (sV ss[x]) (0 : Int) = some (.str ss[x].name) := atI_nat (j := 0) rfl
    obtain ⟨w0, n0, c0⟩ := at_ints (ns := ns) (i := 30 + 2 * (0 + (x : Int))) (by omega) (by omega)
    obtain ⟨w1, n1, c1⟩ := at_ints (ns := ns) (i := 30 + 2 * (0 + (x : Int)) + 1) (by omega) (by omega)
    have p5 : (0 : Int) < 5 := by decide
    have p6 : (0 : Int) < 6 := by decide
    have p8 : (0 : Int) < 8 := by decide
    have p2 : (0 : Int) < 2 := by decide
    have hnt : ss[x].name ∉ rk := fun z => by
      obtain ⟨s, hs, e⟩ := List.mem_map.mp (t4 _ z)
      exact take_notin hnn es s hs e
    have hkl : rk.length ≤ 1000 := by
      have := nodup_le t3 t4
      rw [List.length_map, List.length_take] at this
      omega
    have keep : ∀ n ∈ rk, n ∈ (ss.take (x + 1)).map (·.name) := fun n hn => by
      rw [take_snoc es, List.map_append]
      exact List.mem_append_left _ (t4 n hn)
    walk_at "g"
    refine ite_d (fun c => ?_) (fun c => ?_)
    · walk_at "g"
      intro t2 n_t2; generalize hG : upd H'' t2 _ = H5; have s_H5 : Same H'' H5 := nw_same n_t2 hG; have e_t2 := nw_at hG; clear hG
      have g1' : H5 D = some (.dK (fdV rk fun k => .ref (r k))) := s_H5 _ _ g1
      have g2' : ∀ k ∈ rk, H5 (r k) = some (.tup [.int (rf k).1, .int (rf k).2]) := fun k hk => s_H5 _ _ (g2 k hk)
      have ht5 := s_H5 _ _ ht4
      have hb5 := s_H5 _ _ hb4
      have hput := dput_new (v := .ref t2) g1' hnt hkl
      walk_at "g"
      have hr0 := hr1 w1 n1
      refine ⟨_, rk ++ [ss[x].name], up rf ss[x].name (w1 % 6, w1 / 8 % 2), rfl, same_put (u1.trans s_H5) n_D, PrD.put g1' g2' e_t2, nodup_snoc t3 hnt, fun n hn => ?_, fun n hn => ?_⟩
      · rcases List.mem_append.mp hn with hn | hn
        · exact keep n hn
        · rw [List.mem_singleton.mp hn, take_snoc es, List.map_append]
          exact List.mem_append_right _ (List.mem_singleton.mpr rfl)
      · by_cases e : n = ss[x].name
        · rw [e, up_same]
          show 0 ≤ w1 % 6 ∧ w1 % 6 ≤ 5 ∧ 0 ≤ w1 / 8 % 2 ∧ w1 / 8 % 2 ≤ 1
          omega
        · rw [up_ne e]
          exact t5 n ((List.mem_append.mp hn).resolve_right fun h => e (List.mem_singleton.mp h))
    · walk_at "g"
      exact ⟨_, rk, rf, rfl, u1, t2.same s5, t3, keep, t5⟩
  · obtain ⟨y4, rk, rf, rfl, t1, t2, t3, t4, t5⟩ := h.go
    walk_at "g"
    have el : (List.range (us.length : Int).toNat).length = ss.length := by
      rw [List.length_range]
      omega
    rw [el, List.take_length] at t4
    exact q H' D rk rf t1 n_D t2 t3 t4 t5
def sp_L_limits (K : PySem.W.Frag) : Sp := fun vs H Q _ => ∃ a d ss rk rf, vs = [.ref a, .ref d] ∧ LT sV H a ss ∧ ss.length ≤ 5 ∧ (ss.map (·.name)).Nodup ∧ PrD H d rk rf ∧ ∀ H' b lim, Same H H' → H b = none → (∀ s ∈ ss, lim s.name = limS rk rf s) → PrD H' b (ss.map (·.name)) lim → Q (.ref b) H'
theorem sc_L_limits : FnScope ["_law_streams", "_law_readings", "_law_found", "_law_name", "_law_tail", "_law_head", "_law_low", "_law_high"] ["_law_streams", "_law_readings"] (defScope s_L_limits) := ⟨rfl, rfl, rfl, by decide +kernel, rfl, by decide +kernel, by decide +kernel⟩
theorem ok_L_limits (T : Tx K mg) : Has P w K mg base CX0 1 (A_L_limits K) ["_law_streams", "_law_readings"] [] (sp_L_limits K) := by
  obtain ⟨fd, F⟩ := T.F_L_limits
  refine ⟨fd, [], F.ok sc_L_limits (fun vs H Q E h => by
    obtain ⟨_, _, _, _, _, rfl, _⟩ := h
    rfl) (fun cdv A outer s H vs Q E hr h => ?_), F.bindsN (fun _ _ _ _ _ _ us hl => match us, hl with | [_, _], _ => rfl), .nil, F.kp⟩
  obtain ⟨a, d, ss, rk, rf, rfl, ha, hsl, hnn, hd, q⟩ := h
  obtain ⟨us, ha1, ha2⟩ := ha.ex
  obtain ⟨r, hd1, hd2⟩ := hd.ex
  refine ⟨_, (pss_cons (ps_set (i := 2) sc_L_limits.nd rfl (Or.inl rfl) (pe_dnewK))
      (pss_cons (psFor (passes_of rfl) rfl (pi_list (pv 0)) (pg_tup (by rfl) (pgs_cons (pg_name (i := 3) sc_L_limits.nd rfl (Or.inl rfl)) (pgs_cons (pg_name (i := 4) sc_L_limits.nd rfl (Or.inl rfl)) (pgs_cons (pg_name (i := 5) sc_L_limits.nd rfl (Or.inl rfl)) (pgs_cons (pg_name (i := 6) sc_L_limits.nd rfl (Or.inl rfl)) (pgs_cons (pg_name (i := 7) sc_L_limits.nd rfl (Or.inl rfl)) pgs_nil))))))
      (pss_cons (psCut (ps_if (pt_cmp (pc_din (hu_of hr) (pv 3) (pv 1)))
      (pss_cons (ps_set (i := 6) sc_L_limits.nd rfl (Or.inl rfl) (pe_callB (call_max2 rfl) (by rfl) T.b_max (by decide +kernel) (pa_cons (pv 6) (pa_cons (pe_op op_sub (pe_ix ixT (pe_dget (hu_of hr) (pv 1) (pv 3) (fun _ _ => rfl)) (pe_int) (fun _ _ => rfl)) (pe_ix ixT (pe_dget (hu_of hr) (pv 1) (pv 3) (fun _ _ => rfl)) (pe_int) (fun _ _ => rfl))) pa_nil))))
      (pss_one (ps_set (i := 7) sc_L_limits.nd rfl (Or.inl rfl) (pe_callB (call_min2 rfl) (by rfl) T.b_min (by decide +kernel) (pa_cons (pv 7) (pa_cons (pe_op op_add (pe_ix ixT (pe_dget (hu_of hr) (pv 1) (pv 3) (fun _ _ => rfl)) (pe_int) (fun _ _ => rfl)) (pe_ix ixT (pe_dget (hu_of hr) (pv 1) (pv 3) (fun _ _ => rfl)) (pe_int) (fun _ _ => rfl))) pa_nil))))))
      pss_nil))
      (pss_one (ps_dput (hu_of hr) (pv 2) (pv 3) (pe_tup (pa_cons (pv 6) (pa_cons (pv 7) pa_nil))) rfl))))
      (pss_one (ps_ret (pv 2))))), ?_⟩
  walk_at "g"
  intro D n_D; generalize hG : upd H D _ = H2; have s_H2 : Same H H2 := nw_same n_D hG; have e_D := nw_at hG; clear hG
  have ha12 := s_H2 _ _ ha1
  have ndn : ∀ {i : Nat} {x : Strm}, ss[i]? = some x → x.name ∉ (ss.take i).map (·.name) := fun {i x} ex z => by
    obtain ⟨y, hy, e⟩ := List.mem_map.mp z
    exact take_notin hnn ex y hy e
  walk_at "g"
  refine ⟨forG (LT.wk (m := sV) (vs := us) (xs := ss)) (fun i σ H' => Hold (∃ y3 y4 y5 y6 y7, ∃ lim : Str → Int × Int, σ = [some (.ref a), some (.ref d), some (.ref D), y3, y4, y5, y6, y7] ∧ Same H H' ∧ (∀ s ∈ ss.take i, lim s.name = limS rk rf s) ∧ PrD H' D ((ss.take i).map (·.name)) lim)) ⟨none, none, none, none, none, fun _ => (0, 0), rfl, s_H2, fun s h => (nomatch h), ⟨fun _ => 0, e_D, fun k h => (nomatch h)⟩⟩ (fun i σ H' _ h => ?_) (fun i x v σ H' H'' ex h s5 hv2 => ?_) (fun σ H' h => ?_)⟩
  · obtain ⟨y3, y4, y5, y6, y7, lim, rfl, t1, t3, t4⟩ := h.go
    exact ⟨lstOf (t1 _ _ ha1), ha2.imp fun x v r => r.same t1⟩
  · obtain ⟨y3, y4, y5, y6, y7, lim, rfl, t1, t3, t4⟩ := h.go
    obtain ⟨t, rfl, ht⟩ := hv2
    obtain ⟨rr, g1, g2⟩ := t4.ex
    have u1 : Same H H'' := t1.trans s5
    have g3 := s5 _ _ g1
    have hxN := ndn ex
    have hlt : ((ss.take i).map (·.name)).length ≤ 1000 := by
      rw [List.length_map, List.length_take]
      omega
    walk_at "g"
    refine Cut.of (fun σ H4 => σ = [some (.ref a), some (.ref d), some (.ref D), some (.str x.name), some (.str x.tail), some (.str x.head), some (.int (limS rk rf x).1), some (.int (limS rk rf x).2)] ∧ H4 = H'') ?_ (fun σ H4 h2 => ?_)
    · by_cases hk : x.name ∈ rk
      · have v1 : DGet H'' d (.str x.name) (some (.ref (r x.name))) := dget_fd (g := fun k => V.ref (r k)) (.inl (u1 _ _ hd1)) hk
        have v2 : H'' (r x.name) = some (.tup [.int (rf x.name).1, .int (rf x.name).2]) := u1 _ _ (hd2 _ hk)
        have el : limS rk rf x = (mx x.low ((rf x.name).1 - (rf x.name).2), mn x.high ((rf x.name).1 + (rf x.name).2)) := if_pos hk
        have at0 : atI [V.int (rf x.name).1, V.int (rf x.name).2] (0 : Int) = some (.int (rf x.name).1) := atI_nat (j := 0) rfl
        have at1 : atI [V.int (rf x.name).1, V.int (rf x.name).2] (1 : Int) = some (.int (rf x.name).2) := atI_nat (j := 1) rfl
        rw [el]
        walk_at "g"
      · have v1 : DGet H'' d (.str x.name) none := dget_fd0 (g := fun k => V.ref (r k)) (.inl (u1 _ _ hd1)) hk
        have el : limS rk rf x = (x.low, x.high) := if_neg hk
        rw [el]
        walk_at "g"
    · obtain ⟨rfl, rfl⟩ := h2
      walk_at "g"
      intro t2 n_t2; generalize hG : upd H4 t2 _ = H5; have s_H5 : Same H4 H5 := nw_same n_t2 hG; have e_t2 := nw_at hG; clear hG
      have g4 : H5 D = some (.dK (fdV ((ss.take i).map (·.name)) fun k => .ref (rr k))) := s_H5 _ _ g3
      have g5 := dput_new (v := .ref t2) g4 hxN hlt
      walk_at "g"
      have e1 : (ss.take (i + 1)).map (·.name) = (ss.take i).map (·.name) ++ [x.name] := by
        rw [take_snoc ex, List.map_append]
        rfl
      refine ⟨_, _, _, _, _, up lim x.name (limS rk rf x), rfl, same_put (u1.trans s_H5) n_D, fun s hs => ?_, ?_⟩
      · rw [take_snoc ex] at hs
        rcases List.mem_append.mp hs with hs | hs
        · rw [up_ne fun e => hxN (List.mem_map.mpr ⟨s, hs, e⟩)]
          exact t3 s hs
        · rw [List.mem_singleton.mp hs, up_same]
      · rw [e1]
        exact PrD.put g4 (fun k hk => s_H5 _ _ (s5 _ _ (g2 k hk))) e_t2
  · obtain ⟨y3, y4, y5, y6, y7, lim, rfl, t1, t3, t4⟩ := h.go
    rw [List.take_length] at t3 t4
    walk_at "g"
    exact q H' D lim t1 n_D t3 t4
end
end M
end
-- part X5
section
set_option Elab.async false
set_option linter.all false
set_option maxRecDepth 100000
set_option maxHeartbeats 4000000
namespace M
open PySem PySem.Spec PyProof.Rows L2
local macro_rules | `(tactic| walk_at "e") => `(tactic| (first
  | exact rfl
  | assumption
  | exact upd_same
  | exact flat_strs
  | exact fd_keys
  | ((with_reducible apply same_at); assumption; walk_at "f")
  | ((with_reducible apply at_upd); assumption; walk_at "f")
  | omega))
local macro_rules | `(tactic| walk_at "n") => `(tactic| (first
  | assumption
  | omega
  | exact Nat.le_of_lt (small1000 (by first | assumption | omega))
  | exact (Nat.zero_le _ : 0 ≤ sizeLine)
  | exact (by decide : 1 ≤ sizeLine)
  | exact (by decide : 2 ≤ sizeLine)
  | exact (by decide : 3 ≤ sizeLine)
  | exact (by decide : 5 ≤ sizeLine)
  | exact (by decide : 6 ≤ sizeLine)
  | (show _ < 1000; exact of_decide_eq_true rfl)
  | exact len2 (by omega) (by omega)
  | exact small1000 (by first | assumption | omega)))
local macro_rules | `(tactic| walk_at "f") => `(tactic| (first
  | with_reducible assumption
  | ((with_reducible apply gEq); walk_at "e")
  | ((with_reducible apply gLe); walk_at "n")
  | ((with_reducible apply gLt); walk_at "n")
  | ((with_reducible apply gNot); (first | assumption | omega))
  | with_reducible exact Same.refl _
  | ((with_reducible apply tupOf); walk_at "f")
  | ((with_reducible apply lstOf); walk_at "f")
  | ((with_reducible apply gCls); assumption)
  | ((with_reducible apply gNoAttr); assumption)
  | ((with_reducible apply gIsPl); assumption)
  | ((with_reducible apply gStL); assumption)
  | ((with_reducible apply gIntD); assumption)
  | ((with_reducible apply gSqT); assumption)
  | ((with_reducible apply gSqL); assumption)
  | ((with_reducible apply tyV_l); walk_at "f")
  | ((with_reducible apply Rd.of); walk_at "f")
  | ((with_reducible apply dget_ne); assumption; assumption)
  | ((with_reducible apply dget_fd) <;> walk_at "f")
  | ((with_reducible apply dput_int) <;> walk_at "f")
  | ((with_reducible apply dput_fd) <;> walk_at "f")
  | ((with_reducible apply rd_upd); assumption; walk_at "f")
  | ((with_reducible apply same_put); walk_at "f"; assumption)
  | ((with_reducible apply sx_upd) <;> walk_at "f")
  | ((with_reducible refine Same.trans ?_ (by assumption)); walk_at "f")
  | ((with_reducible apply cmulLg); omega; omega)
  | ((with_reducible apply cmulRg); omega; omega)
  | ((with_reducible apply SameE.upd); walk_at "f")
  | ((with_reducible apply StL.same); assumption; walk_at "f")
  | ((with_reducible apply LT.same); assumption; walk_at "f")
  | ((with_reducible apply IsP.same); assumption; walk_at "f")
  | ((with_reducible apply IsPl.same); assumption; walk_at "f")
  | ((with_reducible apply IntD.same); assumption; walk_at "f")
  | ((with_reducible apply PrD.same); assumption; walk_at "f")
  | ((with_reducible apply Or.inl); walk_at "f")
  | ((with_reducible apply Or.inr); walk_at "f")))
local macro_rules | `(tactic| walk_at "g") => `(tactic| repeat (first
  | with_reducible apply And.intro
  | with_reducible apply Exists.intro
  | walk_at "f"
  | ((with_reducible apply iteT); assumption)
  | ((with_reducible apply iteF); assumption)
  | ((with_reducible apply iteD); (first | assumption | omega))
  | ((with_reducible apply iteN); (first | assumption | omega))
  | ((with_reducible apply iteD2); (first | assumption | omega))
  | ((with_reducible apply iteN2); (first | assumption | omega))
  | apply And.intro
  | apply Exists.intro))
section
variable {P : Program} {w : World} {K : PySem.W.Frag} {mg : Str → Option Value} {base : Heap}
theorem fm_sumI {α : Type} {p : α → Prop} [DecidablePred p] {g : α → Int} : ∀ {l : List α}, (l.filterMap fun s => if p s then some (g s) else none).sum = (l.map fun s => if p s then g s else 0).sum
  | [] => rfl
  | a :: l => by
    have ih := fm_sumI (p := p) (g := g) (l := l)
    rw [List.map_cons, List.sum_cons, ← ih]
    by_cases h : p a
    · rw [List.filterMap_cons_some (by rw [if_pos h]), List.sum_cons, if_pos h]
    · rw [List.filterMap_cons_none (by rw [if_neg h]), if_neg h, Int.zero_add]
theorem net_two {l : List Strm} {f : Str → Int} {v : Str} : net l f v = (l.map fun s => if V.str s.head = V.str v then f s.name else 0).sum - (l.map fun s => if V.str s.tail = V.str v then f s.name else 0).sum := by
  unfold net
  rw [← sum_sub]
  refine sum_cong fun s _ => ?_
  have e : ∀ a b : Str, (V.str a = V.str b) = (a = b) := fun a b => propext ⟨V.str.inj, congrArg V.str⟩
  simp only [e]
def sp_L_shut_right (K : PySem.W.Frag) : Sp := fun vs H Q _ => ∃ a d b l ks f, ∃ kn : List Str, vs = [.ref a, .ref d, .ref b] ∧ LT sV H a l ∧ l.length ≤ 5 ∧ IntD H d ks f ∧ (∀ s ∈ l, s.name ∈ ks) ∧ StL H b kn ∧ kn.length ≤ 5 ∧
  (∀ H', Same H H' → (∀ v ∈ kn, net l f v = 0) → Q (.bl true) H') ∧ (∀ H', Same H H' → (∃ v ∈ kn, net l f v ≠ 0) → Q (.bl false) H')
theorem sc_L_shut_right : FnScope ["_law_streams", "_law_flows", "_law_knots", "_law_knot", "_law_into", "_law_stream"] ["_law_streams", "_law_flows", "_law_knots"] (defScope s_L_shut_right) := ⟨rfl, rfl, rfl, by decide +kernel, rfl, by decide +kernel, by decide +kernel⟩
theorem ok_L_shut_right (T : Tx K mg) : Has P w K mg base CX0 1 (A_L_shut_right K) ["_law_streams", "_law_flows", "_law_knots"] [] (sp_L_shut_right K) := by
  obtain ⟨fd, F⟩ := T.F_L_shut_right
  refine ⟨fd, [], F.ok sc_L_shut_right (fun vs H Q E h => by
    obtain ⟨_, _, _, _, _, _, _, rfl, _⟩ := h
    rfl) (fun cdv A outer s H vs Q E hr h => ?_), F.bindsN (fun _ _ _ _ _ _ us hl => match us, hl with | [_, _, _], _ => rfl), .nil, F.kp⟩
  obtain ⟨a, d, b, l, ks, f, kn, rfl, ha, hll, hd, hks, hb, hkl, q, qn⟩ := h
  obtain ⟨us, ha1, ha2⟩ := ha.ex
  refine ⟨_, (pss_cons (psFor (passes_of rfl) rfl (pi_list (pv 2)) (pg_name (i := 3) sc_L_shut_right.nd rfl (Or.inr rfl))
      (pss_cons (ps_set (i := 4) sc_L_shut_right.nd rfl (Or.inl rfl) (pe_callB (sumL rfl) (by rfl) T.b_sum (by decide +kernel) (pa_cons (pe_lc (own := [("_law_stream", 5)]) (g := (gName 5)) rfl sc_L_shut_right.nd (pi_list (pv 0)) (blkOk_by (own := [("_law_stream", 5)]) (N := ["_law_streams", "_law_flows", "_law_knots", "_law_knot", "_law_into", "_law_stream"]) (sc := defScope s_L_shut_right) (by decide +kernel)) (fun _ _ _ _ _ => (pg_name (i := 5) sc_L_shut_right.nd rfl (Or.inl rfl))) (fun _ _ _ _ _ => (pts_one (pt_cmpR op_eq (pe_ix ixT (pv 5) (pe_int) (fun _ _ => rfl)) (pv 3) (nomark _)))) (fun _ _ _ _ _ => (pe_dget (hu_of hr) (pv 1) (pe_ix ixT (pv 5) (pe_int) (fun _ _ => rfl)) (fun _ _ => rfl)))) pa_nil)))
      (pss_one (ps_if (pt_cmpR op_ne (pv 4) (pe_callB (sumL rfl) (by rfl) T.b_sum (by decide +kernel) (pa_cons (pe_lc (own := [("_law_stream", 5)]) (g := (gName 5)) rfl sc_L_shut_right.nd (pi_list (pv 0)) (blkOk_by (own := [("_law_stream", 5)]) (N := ["_law_streams", "_law_flows", "_law_knots", "_law_knot", "_law_into", "_law_stream"]) (sc := defScope s_L_shut_right) (by decide +kernel)) (fun _ _ _ _ _ => (pg_name (i := 5) sc_L_shut_right.nd rfl (Or.inl rfl))) (fun _ _ _ _ _ => (pts_one (pt_cmpR op_eq (pe_ix ixT (pv 5) (pe_int) (fun _ _ => rfl)) (pv 3) (nomark _)))) (fun _ _ _ _ _ => (pe_dget (hu_of hr) (pv 1) (pe_ix ixT (pv 5) (pe_int) (fun _ _ => rfl)) (fun _ _ => rfl)))) pa_nil)) (nomark _))
      (pss_one (ps_ret (pe_bl)))
      pss_nil))))
      (pss_one (ps_ret (pe_bl)))), ?_⟩
  walk_at "g"
  refine ⟨forG (wk_listM (ys := kn) (m := V.str)) (fun i σ H' => Hold (∃ y3 y4, σ = [some (.ref a), some (.ref d), some (.ref b), y3, y4, none] ∧ Same H H' ∧ ∀ v ∈ kn.take i, net l f v = 0)) ⟨none, none, rfl, Same.refl _, fun v h => nomatch h⟩ (fun i σ H' _ h => ?_) (fun i x v σ H' H'' ex h s5 hv2 => ?_) (fun σ H' h => ?_)⟩
  · obtain ⟨y3, y4, rfl, t1, t2⟩ := h.go
    exact lstOf (t1 _ _ hb)
  · obtain ⟨y3, y4, rfl, t1, t2⟩ := h.go
    subst hv2
    have u1 := t1.trans s5
    have ha4 := u1 _ _ ha1
    walk_at "g"
    intro D hD
    refine lcV (LT.wk (m := sV) (vs := us) (xs := l)) (fun s => if V.str s.head = V.str x then some (f s.name) else none) V.int hD ⟨lstOf ha4, ha2.imp fun x v r => r.same u1⟩ (by omega) (fun j s v H6 Ky Kn es sm _ hv3 ky kn2 => ?_) (fun H6 s6 eD => ?_)
    · obtain ⟨t, rfl, ht⟩ := hv3
      have hs := List.mem_of_getElem? es
      have at2 : atI (sV s) (2 : Int) = some (.str s.head) := atI_nat (j := 2) rfl
      have at0 : atI (sV s) (0 : Int) = some (.str s.name) := atI_nat (j := 0) rfl
      have g1 : DGet H6 d (.str s.name) (some (.int (f s.name))) := dget_fd (g := fun k => V.int (f k)) (.inl (sm _ _ (u1 _ _ hd))) (hks s hs)
      walk_at "g"
      refine ite_d (fun c => ?_) (fun c => ?_)
      · walk_at "g"
        exact ky _ _ (Same.refl _) (if_pos c)
      · walk_at "g"
        exact kn2 _ (Same.refl _) (if_neg c)
    have u2 := u1.trans s6
    have ha6 := u2 _ _ ha1
    walk_at "g"
    intro D2 hD2
    refine lcV (LT.wk (m := sV) (vs := us) (xs := l)) (fun s => if V.str s.tail = V.str x then some (f s.name) else none) V.int hD2 ⟨lstOf ha6, ha2.imp fun x v r => r.same u2⟩ (by omega) (fun j s v H7 Ky Kn es sm _ hv3 ky kn2 => ?_) (fun H7 s7 eD2 => ?_)
    · obtain ⟨t, rfl, ht⟩ := hv3
      have hs := List.mem_of_getElem? es
      have at1 : atI (sV s) (1 : Int) = some (.str s.tail) := atI_nat (j := 1) rfl
      have at0 : atI (sV s) (0 : Int) = some (.str s.name) := atI_nat (j := 0) rfl
      have g1 : DGet H7 d (.str s.name) (some (.int (f s.name))) := dget_fd (g := fun k => V.int (f k)) (.inl (sm _ _ (u2 _ _ hd))) (hks s hs)
      walk_at "g"
      refine ite_d (fun c => ?_) (fun c => ?_)
      · walk_at "g"
        exact ky _ _ (Same.refl _) (if_pos c)
      · walk_at "g"
        exact kn2 _ (Same.refl _) (if_neg c)
    walk_at "g"
    have hx := List.mem_of_getElem? ex
    have en := net_two (l := l) (f := f) (v := x)
    rw [fm_sumI, fm_sumI]
    refine ite_d2 (fun c => ?_) (fun c => ?_)
    · have c' : net l f x ≠ 0 := fun e => c (congrArg V.int (by omega))
      walk_at "g"
      exact qn H7 (u2.trans s7) ⟨x, hx, c'⟩
    · have c' : net l f x = 0 := by
        have := V.int.inj c
        omega
      walk_at "g"
      refine ⟨_, _, rfl, u2.trans s7, fun v hv => ?_⟩
      rw [take_snoc ex] at hv
      rcases List.mem_append.mp hv with hv | hv
      · exact t2 v hv
      · rw [List.mem_singleton.mp hv]
        exact c'
  · obtain ⟨y3, y4, rfl, t1, t2⟩ := h.go
    walk_at "g"
    rw [List.take_length] at t2
    exact q H' t1 t2
end
end M
end
-- part X6
section
set_option Elab.async false
set_option linter.all false
set_option maxRecDepth 100000
set_option maxHeartbeats 4000000
namespace M
open PySem PySem.Spec PyProof.Rows L2
local macro_rules | `(tactic| walk_at "e") => `(tactic| (first
  | exact rfl
  | assumption
  | exact upd_same
  | exact flat_strs
  | exact fd_keys
  | ((with_reducible apply same_at); assumption; walk_at "f")
  | ((with_reducible apply at_upd); assumption; walk_at "f")
  | omega))
local macro_rules | `(tactic| walk_at "n") => `(tactic| (first
  | assumption
  | omega
  | exact Nat.le_of_lt (small1000 (by first | assumption | omega))
  | exact (Nat.zero_le _ : 0 ≤ sizeLine)
  | exact (by decide : 1 ≤ sizeLine)
  | exact (by decide : 2 ≤ sizeLine)
  | exact (by decide : 3 ≤ sizeLine)
  | exact (by decide : 5 ≤ sizeLine)
  | exact (by decide : 6 ≤ sizeLine)
  | (show _ < 1000; exact of_decide_eq_true rfl)
  | exact len2 (by omega) (by omega)
  | exact small1000 (by first | assumption | omega)))
local macro_rules | `(tactic| walk_at "f") => `(tactic| (first
  | with_reducible assumption
  | ((with_reducible apply gEq); walk_at "e")
  | ((with_reducible apply gLe); walk_at "n")
  | ((with_reducible apply gLt); walk_at "n")
  | ((with_reducible apply gNot); (first | assumption | omega))
  | with_reducible exact Same.refl _
  | ((with_reducible apply tupOf); walk_at "f")
  | ((with_reducible apply lstOf); walk_at "f")
  | ((with_reducible apply gCls); assumption)
  | ((with_reducible apply gNoAttr); assumption)
  | ((with_reducible apply gIsPl); assumption)
  | ((with_reducible apply gStL); assumption)
  | ((with_reducible apply gIntD); assumption)
  | ((with_reducible apply gSqT); assumption)
  | ((with_reducible apply gSqL); assumption)
  | ((with_reducible apply tyV_l); walk_at "f")
  | ((with_reducible apply Rd.of); walk_at "f")
  | ((with_reducible apply dget_ne); assumption; assumption)
  | ((with_reducible apply dget_fd) <;> walk_at "f")
  | ((with_reducible apply dput_int) <;> walk_at "f")
  | ((with_reducible apply dput_fd) <;> walk_at "f")
  | ((with_reducible apply rd_upd); assumption; walk_at "f")
  | ((with_reducible apply same_put); walk_at "f"; assumption)
  | ((with_reducible apply sx_upd) <;> walk_at "f")
  | ((with_reducible refine Same.trans ?_ (by assumption)); walk_at "f")
  | ((with_reducible apply cmulLg); omega; omega)
  | ((with_reducible apply cmulRg); omega; omega)
  | ((with_reducible apply SameE.upd); walk_at "f")
  | ((with_reducible apply StL.same); assumption; walk_at "f")
  | ((with_reducible apply LT.same); assumption; walk_at "f")
  | ((with_reducible apply IsP.same); assumption; walk_at "f")
  | ((with_reducible apply IsPl.same); assumption; walk_at "f")
  | ((with_reducible apply IntD.same); assumption; walk_at "f")
  | ((with_reducible apply PrD.same); assumption; walk_at "f")
  | ((with_reducible apply Or.inl); walk_at "f")
  | ((with_reducible apply Or.inr); walk_at "f")))
local macro_rules | `(tactic| walk_at "g") => `(tactic| repeat (first
  | with_reducible apply And.intro
  | with_reducible apply Exists.intro
  | walk_at "f"
  | ((with_reducible apply iteT); assumption)
  | ((with_reducible apply iteF); assumption)
  | ((with_reducible apply iteD); (first | assumption | omega))
  | ((with_reducible apply iteN); (first | assumption | omega))
  | ((with_reducible apply iteD2); (first | assumption | omega))
  | ((with_reducible apply iteN2); (first | assumption | omega))
  | apply And.intro
  | apply Exists.intro))
section
variable {P : Program} {w : World} {K : PySem.W.Frag} {mg : Str → Option Value} {base : Heap}
structure RL (H : Hp) (R : Addr) (ks : List Str) (rows : List (Str → Int)) : Prop where
  ex : ∃ ws, H R = some (.lst ws) ∧ A2 (fun g v => ∃ d, v = .ref d ∧ IntD H d ks g) rows ws
theorem RL.same {H H' : Hp} {R : Addr} {ks : List Str} {rows : List (Str → Int)} (s : Same H H') (h : RL H R ks rows) : RL H' R ks rows :=
  ⟨h.ex.imp fun ws h => ⟨s _ _ h.1, h.2.imp fun g v ⟨d, e, r⟩ => ⟨d, e, r.same s⟩⟩⟩
theorem RL.app {H : Hp} {W d : Addr} {ks : List Str} {fs : List (Str → Int)} {g : Str → Int} {ws : List V} (e : H W = some (.lst ws)) (a : A2 (fun g v => ∃ d, v = .ref d ∧ IntD H d ks g) fs ws) (hd : IntD H d ks g) : RL (upd H W (.lst (ws ++ [.ref d]))) W ks (fs ++ [g]) := by
  have k2 : ∀ {x : Addr} {g' : Str → Int}, IntD H x ks g' → IntD (upd H W (.lst (ws ++ [.ref d]))) x ks g' := fun {x g'} h => at_upd (ne_at h e (fun e => by cases e)) h
  exact ⟨_, upd_same, (a.imp fun g v ⟨d, e, r⟩ => ⟨d, e, k2 r⟩).snoc ⟨d, rfl, k2 hd⟩⟩
theorem RL.wk {K : PySem.W.Frag} {R : Addr} {ks : List Str} {rows : List (Str → Int)} {ws : List V} : Wk (Itl K R) (fun H => SqL K H R ws ∧ A2 (fun g v => ∃ d, v = .ref d ∧ IntD H d ks g) rows ws) rows (fun g v H => ∃ d, v = .ref d ∧ IntD H d ks g) :=
  wk_list fun g v H H' s ⟨d, e, r⟩ => ⟨d, e, r.same s⟩
def shutB (r : List Strm) (v : Str) : Prop := V.int ((r.filter fun s => decide (v ∈ [s.tail, s.head])).length : Int) = V.int 0
instance (r : List Strm) (v : Str) : Decidable (shutB r v) := by
  unfold shutB
  exact inferInstance
theorem shutB_iff {r : List Strm} {v : Str} : shutB r v ↔ ∀ s ∈ r, s.tail ≠ v ∧ s.head ≠ v := by
  have e : shutB r v ↔ (r.filter fun s => decide (v ∈ [s.tail, s.head])) = [] := by
    unfold shutB
    constructor
    · intro h
      have := V.int.inj h
      exact List.length_eq_zero_iff.mp (by omega)
    · intro h
      rw [h]
      rfl
  rw [e, List.filter_eq_nil_iff]
  constructor
  · intro h s hs
    have := h s hs
    simp only [List.mem_cons, List.not_mem_nil, or_false, decide_eq_true_eq, not_or] at this
    exact ⟨fun z => this.1 z.symm, fun z => this.2 z.symm⟩
  · intro h s hs z
    have := of_decide_eq_true z
    rcases List.mem_cons.mp this with z | z
    · exact (h s hs).1 z.symm
    · exact (h s hs).2 (List.mem_singleton.mp z).symm
theorem cut_drop {us : List V} {i : Nat} (h : i < us.length) : cutV us (some (0 + (i : Int) + 1)) none = us.drop (i + 1) := by
  have e : HT.sIx us.length 0 (some (0 + (i : Int) + 1)) = i + 1 := by
    have e1 : (0 + (i : Int) + 1) = ((i + 1 : Nat) : Int) := by omega
    rw [e1, HT.sIx_nat]
    omega
  unfold cutV
  rw [e, HT.sIx_none]
  exact List.take_of_length_le (by rw [List.length_drop]; exact Nat.le_refl _)
theorem cut_take {us : List V} {i : Nat} (h : i < us.length) : cutV us none (some (0 + (i : Int) + 1)) = us.take (i + 1) := by
  have e : HT.sIx us.length us.length (some (0 + (i : Int) + 1)) = i + 1 := by
    have e1 : (0 + (i : Int) + 1) = ((i + 1 : Nat) : Int) := by omega
    rw [e1, HT.sIx_nat]
    omega
  unfold cutV
  rw [e, HT.sIx_none, List.drop_zero, Nat.sub_zero]
theorem a2_drop {α β : Type} {R : α → β → Prop} : ∀ (n : Nat) {as : List α} {bs : List β}, A2 R as bs → A2 R (as.drop n) (bs.drop n)
  | 0, _, _, h => h
  | _ + 1, _, _, .nil => .nil
  | n + 1, _, _, .cons _ t => a2_drop n t
theorem a2_take {α β : Type} {R : α → β → Prop} : ∀ (n : Nat) {as : List α} {bs : List β}, A2 R as bs → A2 R (as.take n) (bs.take n)
  | 0, _, _, _ => .nil
  | _ + 1, _, _, .nil => .nil
  | n + 1, _, _, .cons r t => .cons r (a2_take n t)
def sp_L_all_flows (K : PySem.W.Frag) : Sp := fun vs H Q _ => ∃ v0 a d ss lim, vs = [v0, .ref a, .ref d] ∧ LT sV H a ss ∧ ss.length ≤ 5 ∧ (ss.map (·.name)).Nodup ∧ PrD H d (ss.map (·.name)) lim ∧ (∀ s ∈ ss, 0 ≤ (lim s.name).1 ∧ (lim s.name).1 ≤ 1000 ∧ (lim s.name).2 ≤ (lim s.name).1 + 2 ∧ -1000 ≤ (lim s.name).2) ∧
  ∀ H' R rows, Same H H' → H R = none → RL H' R (ss.map (·.name)) rows → Rows ss [] lim rows → rows.length ≤ 243 → Q (.ref R) H'
theorem sc_L_all_flows : FnScope ["_law_knots", "_law_streams", "_law_limits_here", "_law_rows", "_law_k", "_law_name", "_law_tail", "_law_head", "_law_later", "_law_shut", "_law_following", "_law_row_here", "_law_flow", "_law_grown", "_law_stream", "_law_knot"] ["_law_knots", "_law_streams", "_law_limits_here"] (defScope s_L_all_flows) := ⟨rfl, rfl, rfl, by decide +kernel, rfl, by decide +kernel, by decide +kernel⟩
theorem ok_L_all_flows (T : Tx K mg) : Has P w K mg base CX0 2 (A_L_all_flows K) ["_law_knots", "_law_streams", "_law_limits_here"] [] (sp_L_all_flows K) := by
  obtain ⟨fd, F⟩ := T.F_L_all_flows
  refine ⟨fd, [], F.ok sc_L_all_flows (fun vs H Q E h => by
    obtain ⟨_, _, _, _, _, rfl, _⟩ := h
    rfl) (fun cdv A outer s H vs Q E hr h => ?_), F.bindsN (fun _ _ _ _ _ _ us hl => match us, hl with | [_, _, _], _ => rfl), .nil, F.kp⟩
  obtain ⟨v0, a, d, ss, lim, rfl, ha, hsl, hnn, hd, hlim, q⟩ := h
  obtain ⟨us, ha1, ha2⟩ := ha.ex
  obtain ⟨r, hd1, hd2⟩ := hd.ex
  have hul := ha2.length
  refine ⟨_, (pss_cons (ps_set (i := 3) sc_L_all_flows.nd rfl (Or.inl rfl) (pe_lst (pa_cons (pe_dnewK) pa_nil)))
      (pss_cons (psFor (passes_of rfl) rfl (pi_range1 (by rfl) T.b_range (pa_cons (pe_callB lenL (by rfl) T.b_len (by decide +kernel) (pa_cons (pv 1) pa_nil)) pa_nil)) (pg_name (i := 4) sc_L_all_flows.nd rfl (Or.inl rfl))
      (pss_cons (ps_asg (pe_slice slT (pe_ix ixL (pv 1) (pv 4) (fun _ _ => rfl)) po_none (po_some (pe_int))) (pg_tup (by rfl) (pgs_cons (pg_name (i := 5) sc_L_all_flows.nd rfl (Or.inl rfl)) (pgs_cons (pg_name (i := 6) sc_L_all_flows.nd rfl (Or.inl rfl)) (pgs_cons (pg_name (i := 7) sc_L_all_flows.nd rfl (Or.inl rfl)) pgs_nil)))))
      (pss_cons (ps_set (i := 8) sc_L_all_flows.nd rfl (Or.inr rfl) (pe_lc (own := [("_law_stream", 14)]) (g := (gName 14)) rfl sc_L_all_flows.nd (pi_list (pe_slice slL (pv 1) (po_some (pe_op op_add (pv 4) (pe_int))) po_none)) (blkOk_by (own := [("_law_stream", 14)]) (N := ["_law_knots", "_law_streams", "_law_limits_here", "_law_rows", "_law_k", "_law_name", "_law_tail", "_law_head", "_law_later", "_law_shut", "_law_following", "_law_row_here", "_law_flow", "_law_grown", "_law_stream", "_law_knot"]) (sc := defScope s_L_all_flows) (by decide +kernel)) (fun _ _ _ _ _ => (pg_name (i := 14) sc_L_all_flows.nd rfl (Or.inl rfl))) (fun _ _ _ _ _ => pts_nil) (fun _ _ _ _ _ => (pv 14))))
      (pss_cons (ps_setLc (i := 9) (own := [("_law_knot", 15)]) (g := (gName 15)) rfl sc_L_all_flows.nd rfl rfl (sw_true rfl rfl rfl (by decide +kernel)) (pi_tup (pe_tup (pa_cons (pv 6) (pa_cons (pv 7) pa_nil)))) (blkOk_by (own := [("_law_knot", 15)]) (N := ["_law_knots", "_law_streams", "_law_limits_here", "_law_rows", "_law_k", "_law_name", "_law_tail", "_law_head", "_law_later", "_law_shut", "_law_following", "_law_row_here", "_law_flow", "_law_grown", "_law_stream", "_law_knot"]) (sc := defScope s_L_all_flows) (by decide +kernel)) (fun _ _ _ _ _ => (pg_name (i := 15) sc_L_all_flows.nd rfl (Or.inr rfl))) (fun _ _ _ _ _ => (pts_one (pt_cmpR op_eq (pe_callB lenL (by rfl) T.b_len (by decide +kernel) (pa_cons (pe_lc (wi := iList K (tVar 8)) (own := [("_law_stream", 14)]) (g := (gName 14)) rfl sc_L_all_flows.nd (pi_list (pv 8)) (blkOk_by (own := [("_law_stream", 14)]) (N := ["_law_knots", "_law_streams", "_law_limits_here", "_law_rows", "_law_k", "_law_name", "_law_tail", "_law_head", "_law_later", "_law_shut", "_law_following", "_law_row_here", "_law_flow", "_law_grown", "_law_stream", "_law_knot"]) (by kernel_rfl)) (fun _ _ _ _ _ => (pg_name (i := 14) sc_L_all_flows.nd rfl (Or.inl rfl))) (fun _ _ _ _ _ => (pts_one (pt_cmpR inT (pv 15) (pe_slice slT (pv 14) (po_some (pe_int)) (po_some (pe_int))) (by rfl)))) (fun _ _ _ _ _ => (pv 14))) pa_nil)) (pe_int) (nomark _)))) (fun _ _ _ _ _ => (pv 15)))
      (pss_cons (ps_set (i := 10) sc_L_all_flows.nd rfl (Or.inl rfl) (pe_lst pa_nil))
      (pss_cons (psFor (passes_of rfl) rfl (pi_list (pv 3)) (pg_name (i := 11) sc_L_all_flows.nd rfl (Or.inl rfl))
      (pss_one (psFor (passes_of rfl) rfl (pi_range2 (by rfl) T.b_range (pa_cons (pe_ix ixT (pe_dget (hu_of hr) (pv 2) (pv 5) (fun _ _ => rfl)) (pe_int) (fun _ _ => rfl)) (pa_cons (pe_op op_add (pe_ix ixT (pe_dget (hu_of hr) (pv 2) (pv 5) (fun _ _ => rfl)) (pe_int) (fun _ _ => rfl)) (pe_int)) pa_nil))) (pg_name (i := 12) sc_L_all_flows.nd rfl (Or.inl rfl))
      (pss_cons (ps_set (i := 13) sc_L_all_flows.nd rfl (Or.inl rfl) (pe_callTy call_dictD (by rfl) T.b_dict (by decide +kernel) (pa_cons (pv 11) pa_nil)))
      (pss_cons (ps_dput (hu_of hr) (pv 13) (pv 5) (pv 12) rfl)
      (pss_one (ps_if (pt_val (hc (ok_L_shut_right (K := K) T) (hr.mono (by decide)) T.g_L_shut_right pass0 (pa_cons (pe_slice slL (pv 1) po_none (po_some (pe_op op_add (pv 4) (pe_int)))) (pa_cons (pv 13) (pa_cons (pv 9) pa_nil)))))
      (pss_one (ps_expr (pe_bm PySem.F.plainAttrs_list PySem.F.slot_list_append PySem.F.type_list_append mt_append (pv 10) (pa_cons (pv 13) pa_nil))))
      pss_nil)))))))
      (pss_one (ps_set (i := 3) sc_L_all_flows.nd rfl (Or.inl rfl) (pv 10)))))))))
      (pss_one (ps_ret (pv 3))))), ?_⟩
  walk_at "g"
  intro d0 n_d0; generalize hG : upd H d0 _ = H1; have s_H1 : Same H H1 := nw_same n_d0 hG; have e_d0 := nw_at hG; clear hG
  walk_at "g"
  intro R0 n_R0; generalize hG : upd H1 R0 _ = H2; have s_H2 : Same H1 H2 := nw_same n_R0 hG; have e_R0 := nw_at hG; clear hG
  have ed0 : H2 d0 = some (.dK []) := s_H2 _ _ e_d0
  have ha2' : H2 a = some (.lst us) := s_H2 _ _ (s_H1 _ _ ha1)
  have rl0 : RL H2 R0 [] [fun _ => 0] := ⟨_, e_R0, .cons ⟨d0, rfl, ed0⟩ .nil⟩
  have nR0 : H R0 = none := s_H1.free n_R0
  walk_at "g"
  refine ⟨forG (wk_range (lo := 0) (n := (us.length : Int).toNat)) (fun i σ H' => Hold (∃ y4 y5 y6 y7 y8 y9 y10 y11 y12 y13 R, ∃ rows : List (Str → Int), σ = [some v0, some (.ref a), some (.ref d), some (.ref R), y4, y5, y6, y7, y8, y9, y10, y11, y12, y13, none, none] ∧ Same H H' ∧ H R = none ∧ RL H' R ((ss.take i).map (·.name)) rows ∧ Rows (ss.take i) (ss.drop i) lim rows ∧ rows.length ≤ 3 ^ i))
    ⟨none, none, none, none, none, none, none, none, none, none, R0, [fun _ => 0], rfl, s_H1.trans s_H2, nR0, rl0, Rows.start, Nat.le_refl _⟩ (fun i σ H' _ h => trivial) (fun i x v σ H' H'' ex h s5 hv2 => ?_) (fun σ H' h => ?_)⟩
  · obtain ⟨y4, y5, y6, y7, y8, y9, y10, y11, y12, y13, R, rows, rfl, t1, t2, t3, t4, t5⟩ := h.go
    subst hv2
    have hi := (List.getElem?_eq_some_iff.mp ex).1
    have hx : x = i := by
      have := (List.getElem?_eq_some_iff.mp ex).2
      rw [List.getElem_range] at this
      exact this.symm
    subst hx
    rw [List.length_range] at hi
    have hi : x < ss.length := by omega
    have hiu : x < us.length := by omega
    have u1 := t1.trans s5
    have ha4 := u1 _ _ ha1
    have es : ss[x]? = some ss[x] := List.getElem?_eq_getElem hi
    generalize hsx : ss[x] = s at es
    have hs : s ∈ ss := List.mem_of_getElem? es
    have hsn : s.name ∈ ss.map (·.name) := List.mem_map.mpr ⟨s, hs, rfl⟩
    obtain ⟨v, ev, t, rfl, ht⟩ := ha2.get es
    have ht4 := u1 _ _ ht
    have atS : atI us (0 + (x : Int)) = some (.ref t) := by
      rw [Int.zero_add]
      exact atI_nat ev
    have hdl : Rd H'' d (.dK (fdV (ss.map (·.name)) fun k => .ref (r k))) := .inl (u1 _ _ hd1)
    have hdt : H'' (r s.name) = some (.tup [.int (lim s.name).1, .int (lim s.name).2]) := u1 _ _ (hd2 _ hsn)
    obtain ⟨l1, l2, l3, l4⟩ := hlim s hs
    walk_at "g"
    · intro _ ez
      exfalso
      have : HT.sIx 5 5 (some 3) = 5 := ez
      revert this
      decide
    intro t3a n_t3a; generalize hG : upd H'' t3a _ = H3; have s_H3 : Same H'' H3 := nw_same n_t3a hG; have e_t3a := nw_at hG; clear hG
    have e_t3b : H3 t3a = some (.tup [.str s.name, .str s.tail, .str s.head]) := e_t3a
    have ha5 := s_H3 _ _ ha4
    walk_at "g"
    intro L1 n_L1
    rw [cut_drop hiu]
    generalize hG : upd H3 L1 _ = H4; have s_H4 : Same H3 H4 := nw_same n_L1 hG; have e_L1 := nw_at hG; clear hG
    walk_at "g"
    intro D hD
    have a2l : A2 (fun x v => TupR (sV x) v H4) (ss.drop (x + 1)) (us.drop (x + 1)) := a2_drop _ (ha2.imp fun x v r => r.same (u1.trans (s_H3.trans s_H4)))
    refine lcG (LT.wk (m := sV) (vs := us.drop (x + 1)) (xs := ss.drop (x + 1))) (fun s => some s) (fun s v H => TupR (sV s) v H) rmL_tup hD ⟨lstOf e_L1, a2l⟩ (by rw [List.length_drop]; omega) (fun j y v H6 Ky Kn ey sm _ hv3 ky kn2 => ?_) (fun H5 ws2 s6 eD aD => ?_)
    · obtain ⟨ty, rfl, hty⟩ := hv3
      walk_at "g"
      exact ky _ _ _ (Same.refl _) rfl ⟨ty, rfl, hty⟩
    rw [fm_map, List.map_id'] at aD
    walk_at "g"
    intro tp n_tp; generalize hG : upd H5 tp _ = H6; have s_H6 : Same H5 H6 := nw_same n_tp hG; have e_tp := nw_at hG; clear hG
    have e_tp2 : H6 tp = some (.tup ([s.tail, s.head].map V.str)) := e_tp
    have eD6 := s_H6 _ _ eD
    have aD6 : A2 (fun s v => TupR (sV s) v H6) (ss.drop (x + 1)) ws2 := aD.imp fun s v r => r.same s_H6
    walk_at "g"
    intro D2 hD2
    refine lcV (wk_tupM (ys := [s.tail, s.head]) (m := V.str)) (fun v => if shutB (ss.drop (x + 1)) v then some v else none) V.str hD2 (tupOf e_tp2) (by show 2 ≤ 1000; decide) (fun j z v H7 Ky Kn ez sm _ hv3 ky kn2 => ?_) (fun H7 s7 eD2 => ?_)
    · subst hv3
      have eD7 := sm _ _ eD6
      walk_at "g"
      intro D3 hD3
      refine lcG (LT.wk (m := sV) (vs := ws2) (xs := ss.drop (x + 1))) (fun s => if z ∈ [s.tail, s.head] then some s else none) (fun s v H => TupR (sV s) v H) rmL_tup hD3 ⟨lstOf eD7, aD6.imp fun s v r => r.same sm⟩ (by rw [List.length_drop]; omega) (fun j y v H8 Ky2 Kn2 ey sm2 _ hv4 ky3 kn3 => ?_) (fun H8 ws3 s8 eD3 aD3 => ?_)
      · obtain ⟨ty, rfl, hty⟩ := hv4
        walk_at "g"
        · intro ez0 _
          exfalso
          have : HT.sIx 5 0 (some 1) = 0 := ez0
          revert this
          decide
        · intro p2 n_p2; generalize hG : upd H8 p2 _ = H9; have s_H9 : Same H8 H9 := nw_same n_p2 hG; have e_p2 := nw_at hG; clear hG
          have e_p3 : H9 p2 = some (.tup ([y.tail, y.head].map V.str)) := e_p2
          walk_at "g"
          refine ite_d (fun c => ?_) (fun c => ?_)
          · walk_at "g"
            exact ky3 _ _ _ s_H9 (if_pos c) ⟨ty, rfl, s_H9 _ _ hty⟩
          · exact kn3 _ s_H9 (if_neg c)
      · have el3 : ws3.length = ((ss.drop (x + 1)).filter fun s => decide (z ∈ [s.tail, s.head])).length := by
          rw [aD3.length, fm_filter, List.map_id']
        walk_at "g"
        rw [el3]
        refine ite_d (fun c => ?_) (fun c => ?_)
        · walk_at "g"
          exact ky _ _ s8 (if_pos c)
        · exact kn2 _ s8 (if_neg c)
    rw [fm_filter, List.map_id'] at eD2
    have eK : StL H7 D2 ([s.tail, s.head].filter fun v => decide (shutB (ss.drop (x + 1)) v)) := eD2
    generalize hkn : ([s.tail, s.head].filter fun v => decide (shutB (ss.drop (x + 1)) v)) = kn at eK
    have hknl : kn.length ≤ 5 := by
      rw [← hkn]
      exact Nat.le_trans (List.length_filter_le _ _) (by show 2 ≤ 5; decide)
    have hknm : ∀ v, v ∈ kn ↔ shutV s (ss.drop (x + 1)) v := fun v => by
      rw [← hkn, List.mem_filter, decide_eq_true_iff, shutB_iff, List.mem_cons, List.mem_singleton]
      rfl
    walk_at "g"
    intro W n_W; generalize hG : upd H7 W _ = H8; have s_H8 : Same H7 H8 := nw_same n_W hG; have e_W := nw_at hG; clear hG
    have U8 : Same H'' H8 := s_H3.trans (s_H4.trans (s6.trans (s_H6.trans (s7.trans s_H8))))
    have V8 : Same H H8 := u1.trans U8
    have nW : H W = none := (u1.trans (s_H3.trans (s_H4.trans (s6.trans (s_H6.trans s7))))).free n_W
    have U7 : Same H'' H7 := s_H3.trans (s_H4.trans (s6.trans (s_H6.trans s7)))
    obtain ⟨ws0, r1', r2'⟩ := (t3.same (s5.trans U7)).ex
    have hRW : R ≠ W := ne_of_none r1' n_W
    have r1 := s_H8 _ _ r1'
    have r2 : A2 (fun g v => ∃ d, v = .ref d ∧ IntD H8 d ((ss.take x).map (·.name)) g) rows ws0 := r2'.imp fun g v ⟨d, e, r⟩ => ⟨d, e, r.same s_H8⟩
    have eK8 : StL H8 D2 kn := s_H8 _ _ eK
    have drs : ss.drop x = s :: ss.drop (x + 1) := by
      rw [List.drop_eq_getElem_cons hi, hsx]
    have tks : (ss.take (x + 1)) = ss.take x ++ [s] := take_snoc es
    have tkn : (ss.take (x + 1)).map (·.name) = (ss.take x).map (·.name) ++ [s.name] := by rw [tks, List.map_append]; rfl
    have hnt : s.name ∉ (ss.take x).map (·.name) := fun z => by
      obtain ⟨s', hs', e⟩ := List.mem_map.mp z
      exact take_notin hnn es s' hs' e
    have hrl : rows.length ≤ 243 := Nat.le_trans t5 (Nat.pow_le_pow_right (n := 3) (by decide) (by omega : x ≤ 5))
    walk_at "g"
    refine ⟨forG (RL.wk (R := R) (ws := ws0) (rows := rows) (ks := (ss.take x).map (·.name))) (fun j σ H' => Hold (∃ y11 y12 y13, ∃ fs : List (Str → Int), σ = [some v0, some (.ref a), some (.ref d), some (.ref R), some (.int (0 + (x : Int))), some (.str s.name), some (.str s.tail), some (.str s.head), some (.ref D), some (.ref D2), some (.ref W), y11, y12, y13, none, none] ∧ SameE W H8 H' ∧ RL H' W ((ss.take (x + 1)).map (·.name)) fs ∧ fs.length ≤ 3 * j ∧
        (∀ g ∈ fs, ∃ g0 ∈ rows, ∃ z, (lim s.name).1 ≤ z ∧ z ≤ (lim s.name).2 ∧ g = up g0 s.name z ∧ ∀ v, shutV s (ss.drop (x + 1)) v → net (ss.take x ++ [s]) g v = 0) ∧
        (∀ g0 ∈ rows.take j, ∀ z, (lim s.name).1 ≤ z → z ≤ (lim s.name).2 → (∀ v, shutV s (ss.drop (x + 1)) v → net (ss.take x ++ [s]) (up g0 s.name z) v = 0) → up g0 s.name z ∈ fs)))
      ⟨y11, y12, y13, [], rfl, SameE.refl, ⟨[], e_W, .nil⟩, Nat.zero_le _, (fun g h => nomatch h), fun g0 h => nomatch h⟩ (fun j σ H' _ h => ?_) (fun j g0 v σ H9 H10 eg h s11 hv3 => ?_) (fun σ H' h => ?_)⟩
    · obtain ⟨y11, y12, y13, fs, rfl, b1, b2, b3, b4, b5⟩ := h.go
      exact ⟨lstOf (b1 _ _ hRW r1), r2.imp fun g v ⟨d, e, r⟩ => ⟨d, e, b1 _ _ (ne_at r e_W (fun e => by cases e)) r⟩⟩
    · obtain ⟨y11, y12, y13, fs, rfl, b1, b2, b3, b4, b5⟩ := h.go
      obtain ⟨d1, rfl, hd1'⟩ := hv3
      have hg0 := List.mem_of_getElem? eg
      have hjr := (List.getElem?_eq_some_iff.mp eg).1
      have E10 : SameE W H8 H10 := b1.trans (.of s11)
      have hdW : d ≠ W := ne_of_none hd1 nW
      have haW : a ≠ W := ne_of_none ha1 nW
      have h8d := V8 _ _ hd1
      have h8t := V8 _ _ (hd2 _ hsn)
      have htW : r s.name ≠ W := ne_of_none (hd2 _ hsn) nW
      have gd : DGet H10 d (.str s.name) (some (.ref (r s.name))) := dget_fd (g := fun k => V.ref (r k)) (.inl (E10 _ _ hdW h8d)) hsn
      have gt := E10 _ _ htW h8t
      have at0 : atI [V.int (lim s.name).1, V.int (lim s.name).2] (0 : Int) = some (.int (lim s.name).1) := atI_nat (j := 0) rfl
      have at1 : atI [V.int (lim s.name).1, V.int (lim s.name).2] (1 : Int) = some (.int (lim s.name).2) := atI_nat (j := 1) rfl
      have hK8W : D2 ≠ W := ne_of_none eK n_W
      walk_at "g"
      refine ⟨forG (wk_range (lo := (lim s.name).1) (n := ((lim s.name).2 + 1 - (lim s.name).1).toNat)) (fun m σ H' => Hold (∃ y12 y13, ∃ fs : List (Str → Int), σ = [some v0, some (.ref a), some (.ref d), some (.ref R), some (.int (0 + (x : Int))), some (.str s.name), some (.str s.tail), some (.str s.head), some (.ref D), some (.ref D2), some (.ref W), some (.ref d1), y12, y13, none, none] ∧ SameE W H8 H' ∧ IntD H' d1 ((ss.take x).map (·.name)) g0 ∧ RL H' W ((ss.take (x + 1)).map (·.name)) fs ∧ fs.length ≤ 3 * j + m ∧
        (∀ g ∈ fs, ∃ g0 ∈ rows, ∃ z, (lim s.name).1 ≤ z ∧ z ≤ (lim s.name).2 ∧ g = up g0 s.name z ∧ ∀ v, shutV s (ss.drop (x + 1)) v → net (ss.take x ++ [s]) g v = 0) ∧
        (∀ g0 ∈ rows.take j, ∀ z, (lim s.name).1 ≤ z → z ≤ (lim s.name).2 → (∀ v, shutV s (ss.drop (x + 1)) v → net (ss.take x ++ [s]) (up g0 s.name z) v = 0) → up g0 s.name z ∈ fs) ∧
        (∀ z, (lim s.name).1 ≤ z → z < (lim s.name).1 + m → (∀ v, shutV s (ss.drop (x + 1)) v → net (ss.take x ++ [s]) (up g0 s.name z) v = 0) → up g0 s.name z ∈ fs)))
        ⟨y12, y13, fs, rfl, E10, hd1', b2.same s11, b3, b4, b5, fun z h1 h2 => by omega⟩ (fun m σ H' _ h => trivial) (fun m z v σ Ha Hb ez h s12 hv4 => ?_) (fun σ H' h => ?_)⟩
      · obtain ⟨y12, y13, fs, rfl, c1, c2, c3, c4, c5, c6, c7⟩ := h.go
        subst hv4
        have hzm : z = m := by
          have := (List.getElem?_eq_some_iff.mp ez).2
          rw [List.getElem_range] at this
          exact this.symm
        have hzl := (List.getElem?_eq_some_iff.mp ez).1
        rw [List.length_range] at hzl
        subst hzm
        generalize hw : (lim s.name).1 + (z : Int) = w
        have hw1 : (lim s.name).1 ≤ w ∧ w ≤ (lim s.name).2 := by omega
        have c2b := s12 _ _ c2
        have c1b : SameE W H8 Hb := c1.trans (.of s12)
        walk_at "g"
        intro G n_G; generalize hG : upd Hb G _ = Hc; have s_Hc : Same Hb Hc := nw_same n_G hG; have e_G := nw_at hG; clear hG
        have hlen9 : ((ss.take x).map (·.name)).length ≤ 1000 := by
          rw [List.length_map, List.length_take]
          omega
        have hput : DPut Hc G (.str s.name) (.int w) (upd Hc G (.dK (fdV ((ss.take x).map (·.name) ++ [s.name]) fun k => .int (up g0 s.name w k)))) := by
          have := dput_new (v := .int w) e_G hnt hlen9
          rw [up_int] at this
          exact this
        generalize hG2 : upd Hc G _ = Hd at hput
        have sd : Same Hb Hd := hG2 ▸ same_put s_Hc n_G
        have eGd : IntD Hd G ((ss.take (x + 1)).map (·.name)) (up g0 s.name w) := by
          rw [tkn, ← hG2]
          exact upd_same
        clear hG2
        have c1d : SameE W H8 Hd := c1b.trans (.of sd)
        have had : Hd a = some (.lst us) := c1d _ _ haW (V8 _ _ ha1)
        have hK8d : StL Hd D2 kn := c1d _ _ hK8W eK8
        obtain ⟨ws3, w1, w2⟩ := (c3.same (s12.trans sd)).ex
        walk_at "g"
        intro L9 n_L9
        rw [cut_take hiu]
        generalize hG : upd Hd L9 _ = He; have s_He : Same Hd He := nw_same n_L9 hG; have e_L9 := nw_at hG; clear hG
        have hA9 : A2 (fun x v => TupR (sV x) v He) ss us := ha2.imp fun x v ⟨t, e, r⟩ => ⟨t, e, s_He _ _ (c1d _ _ (ne_of_none r nW) (V8 _ _ r))⟩
        have hL9 : LT sV He L9 (ss.take (x + 1)) := ⟨_, e_L9, a2_take _ hA9⟩
        have hll9 : (ss.take (x + 1)).length ≤ 5 := by
          rw [List.length_take]
          omega
        have eGe : IntD He G ((ss.take (x + 1)).map (·.name)) (up g0 s.name w) := s_He _ _ eGd
        have hmem9 : ∀ s' ∈ ss.take (x + 1), s'.name ∈ (ss.take (x + 1)).map (·.name) := fun s' h => List.mem_map.mpr ⟨s', h, rfl⟩
        have hKe : StL He D2 kn := s_He _ _ hK8d
        walk_at "g"
        · intro Hf sf hall
          have wf := sf _ _ (s_He _ _ w1)
          have wl : ws3.length ≤ 1000 := by
            rw [w2.length]
            have := Nat.mul_le_mul_left 3 (Nat.le_of_lt hjr)
            omega
          walk_at "g"
          have nWf : ∀ b o, H8 b = some o → b ≠ W → Hf b = some o := fun b o e n => sf _ _ (s_He _ _ (c1d _ _ n e))
          refine ⟨_, _, fs ++ [up g0 s.name w], rfl, (c1d.trans (.of (s_He.trans sf))).upd, at_upd (ne_at (sf _ _ (s_He _ _ (sd _ _ c2b))) wf (fun e => by cases e)) (sf _ _ (s_He _ _ (sd _ _ c2b))), RL.app wf (w2.imp fun g v ⟨d, e, r⟩ => ⟨d, e, r.same (s_He.trans sf)⟩) (sf _ _ eGe), by rw [List.length_append]; show fs.length + 1 ≤ _; omega, fun g hg => ?_, fun g1 hg1 z0 h1 h2 h3 => List.mem_append_left _ (c6 g1 hg1 z0 h1 h2 h3), fun z0 h1 h2 h3 => ?_⟩
          · rcases List.mem_append.mp hg with hg | hg
            · exact c5 g hg
            · rw [List.mem_singleton.mp hg]
              exact ⟨g0, hg0, w, hw1.1, hw1.2, rfl, fun v hv => by
                rw [← tks]
                exact hall v ((hknm v).mpr hv)⟩
          · by_cases e : z0 < (lim s.name).1 + z
            · exact List.mem_append_left _ (c7 z0 h1 e h3)
            · have : z0 = w := by omega
              rw [this]
              exact List.mem_append_right _ (List.mem_singleton.mpr rfl)
        · intro Hf sf hex
          walk_at "g"
          refine ⟨_, _, fs, rfl, c1d.trans (.of (s_He.trans sf)), sf _ _ (s_He _ _ (sd _ _ c2b)), c3.same (s12.trans (sd.trans (s_He.trans sf))), by omega, c5, c6, fun z0 h1 h2 h3 => ?_⟩
          by_cases e : z0 < (lim s.name).1 + z
          · exact c7 z0 h1 e h3
          · exfalso
            have e2 : z0 = w := by omega
            obtain ⟨v, hv, hne⟩ := hex
            refine hne ?_
            rw [tks, ← e2]
            exact h3 v ((hknm v).mp hv)
      · obtain ⟨y12, y13, fs, rfl, c1, c2, c3, c4, c5, c6, c7⟩ := h.go
        rw [List.length_range] at c4 c7
        refine ⟨_, _, _, fs, rfl, c1, c3, by omega, c5, fun g1 hg1 z z1 z2 hz => ?_⟩
        rw [take_snoc eg] at hg1
        rcases List.mem_append.mp hg1 with hg1 | hg1
        · exact c6 g1 hg1 z z1 z2 hz
        · rw [List.mem_singleton.mp hg1] at hz ⊢
          exact c7 z z1 (by omega) hz
    · obtain ⟨y11, y12, y13, fs, rfl, b1, b2, b3, b4, b5⟩ := h.go
      rw [List.take_length] at b5
      walk_at "g"
      have hRow : Rows (ss.take (x + 1)) (ss.drop (x + 1)) lim fs := by
        rw [tks]
        refine Rows.step (by rw [← tks]; exact hnn.sublist ((List.take_sublist _ _).map _)) (by rw [← drs]; exact t4) b4 b5
      refine ⟨_, _, _, _, _, _, _, _, _, _, W, fs, rfl, fun b o e => b1 _ _ (ne_of_none e nW) (V8 _ _ e), nW, b2, hRow, ?_⟩
      have : 3 ^ (x + 1) = 3 ^ x * 3 := Nat.pow_succ ..
      omega
  · obtain ⟨y4, y5, y6, y7, y8, y9, y10, y11, y12, y13, R, rows, rfl, t1, t2, t3, t4, t5⟩ := h.go
    have el : (List.range (us.length : Int).toNat).length = ss.length := by
      rw [List.length_range]
      omega
    rw [el] at t3 t4 t5
    rw [List.take_length] at t3 t4
    rw [List.drop_length] at t4
    walk_at "g"
    exact q H' R rows t1 t2 t3 t4 (Nat.le_trans t5 (Nat.pow_le_pow_right (by decide) hsl))
end
end M
end
-- part X7
section
set_option Elab.async false
set_option linter.all false
set_option maxRecDepth 100000
set_option maxHeartbeats 4000000
namespace M
open PySem PySem.Spec PyProof.Rows L2
local macro_rules | `(tactic| walk_at "e") => `(tactic| (first
  | exact rfl
  | assumption
  | exact upd_same
  | exact flat_strs
  | exact fd_keys
  | ((with_reducible apply same_at); assumption; walk_at "f")
  | ((with_reducible apply at_upd); assumption; walk_at "f")
  | omega))
local macro_rules | `(tactic| walk_at "n") => `(tactic| (first
  | assumption
  | omega
  | exact Nat.le_of_lt (small1000 (by first | assumption | omega))
  | exact (Nat.zero_le _ : 0 ≤ sizeLine)
  | exact (by decide : 1 ≤ sizeLine)
  | exact (by decide : 2 ≤ sizeLine)
  | exact (by decide : 3 ≤ sizeLine)
  | exact (by decide : 5 ≤ sizeLine)
  | exact (by decide : 6 ≤ sizeLine)
  | (show _ < 1000; exact of_decide_eq_true rfl)
  | exact len2 (by omega) (by omega)
  | exact small1000 (by first | assumption | omega)))
local macro_rules | `(tactic| walk_at "f") => `(tactic| (first
  | with_reducible assumption
  | ((with_reducible apply gEq); walk_at "e")
  | ((with_reducible apply gLe); walk_at "n")
  | ((with_reducible apply gLt); walk_at "n")
  | ((with_reducible apply gNot); (first | assumption | omega))
  | with_reducible exact Same.refl _
  | ((with_reducible apply tupOf); walk_at "f")
  | ((with_reducible apply lstOf); walk_at "f")
  | ((with_reducible apply gCls); assumption)
  | ((with_reducible apply gNoAttr); assumption)
  | ((with_reducible apply gIsPl); assumption)
  | ((with_reducible apply gStL); assumption)
  | ((with_reducible apply gIntD); assumption)
  | ((with_reducible apply gSqT); assumption)
  | ((with_reducible apply gSqL); assumption)
  | ((with_reducible apply tyV_l); walk_at "f")
  | ((with_reducible apply Rd.of); walk_at "f")
  | ((with_reducible apply dget_ne); assumption; assumption)
  | ((with_reducible apply dget_fd) <;> walk_at "f")
  | ((with_reducible apply dput_int) <;> walk_at "f")
  | ((with_reducible apply dput_fd) <;> walk_at "f")
  | ((with_reducible apply rd_upd); assumption; walk_at "f")
  | ((with_reducible apply same_put); walk_at "f"; assumption)
  | ((with_reducible apply sx_upd) <;> walk_at "f")
  | ((with_reducible refine Same.trans ?_ (by assumption)); walk_at "f")
  | ((with_reducible apply cmulLg); omega; omega)
  | ((with_reducible apply cmulRg); omega; omega)
  | ((with_reducible apply SameE.upd); walk_at "f")
  | ((with_reducible apply StL.same); assumption; walk_at "f")
  | ((with_reducible apply LT.same); assumption; walk_at "f")
  | ((with_reducible apply IsP.same); assumption; walk_at "f")
  | ((with_reducible apply IsPl.same); assumption; walk_at "f")
  | ((with_reducible apply IntD.same); assumption; walk_at "f")
  | ((with_reducible apply PrD.same); assumption; walk_at "f")
  | ((with_reducible apply Or.inl); walk_at "f")
  | ((with_reducible apply Or.inr); walk_at "f")))
local macro_rules | `(tactic| walk_at "g") => `(tactic| repeat (first
  | with_reducible apply And.intro
  | with_reducible apply Exists.intro
  | walk_at "f"
  | ((with_reducible apply iteT); assumption)
  | ((with_reducible apply iteF); assumption)
  | ((with_reducible apply iteD); (first | assumption | omega))
  | ((with_reducible apply iteN); (first | assumption | omega))
  | ((with_reducible apply iteD2); (first | assumption | omega))
  | ((with_reducible apply iteN2); (first | assumption | omega))
  | apply And.intro
  | apply Exists.intro))
section
variable {P : Program} {w : World} {K : PySem.W.Frag} {mg : Str → Option Value} {base : Heap}
def sp_L_refused (K : PySem.W.Frag) : Sp := fun vs H Q _ => ∃ p pl d rk rf dp pk pr, vs = [.ref p, .ref d, .ref dp] ∧ IsPl K H p pl ∧ PV pl ∧ PrD H d rk rf ∧ RdV pl rk rf ∧ IntD H dp pk pr ∧ (∀ n ∈ rk, n ∈ pk ∧ 1 ≤ pr n ∧ pr n ≤ 1000000) ∧ (∀ n ∈ pk, n ∈ rk) ∧ (∀ g, ¬ Poss pl g) ∧ ∀ H', Same H H' → Q (.bl true) H'
theorem sc_L_refused : FnScope ["_law_plant", "_law_readings", "_law_prices", "_law_many"] ["_law_plant", "_law_readings", "_law_prices"] (defScope s_L_refused) := ⟨rfl, rfl, rfl, by decide +kernel, rfl, by decide +kernel, by decide +kernel⟩
theorem ok_L_refused (T : Tx K mg) : Has P w K mg base CX0 10 (A_L_refused K) ["_law_plant", "_law_readings", "_law_prices"] [] (sp_L_refused K) := by
  obtain ⟨fd, F⟩ := T.F_L_refused
  refine ⟨fd, [], F.ok sc_L_refused (fun vs H Q E h => by
    obtain ⟨_, _, _, _, _, _, _, _, rfl, _⟩ := h
    rfl) (fun cdv A outer s H vs Q E hr h => ?_), F.bindsN (fun _ _ _ _ _ _ us hl => match us, hl with | [_, _, _], _ => rfl), .nil, F.kp⟩
  obtain ⟨p, pl, d, rk, rf, dp, pk, pr, rfl, hP, hpv, hd, hv, hp, hk, hk2, hno, q⟩ := h
  refine ⟨_, (pss_cons (ps_set (i := 3) sc_L_refused.nd rfl (Or.inl rfl) (pe_int))
      (pss_cons (ps_try_only rfl rfl ⟨rfl, by decide, .inl T.g_NoFlows⟩ takes0 (fun W pn xe tk _ => (pss_one (ps_expr (hcS (ok_least_flows (K := K) T) (hr.mono (by decide)) T.g_least_flows (fun σ => passAt tk σ) (pa_cons (pv 0) (pa_cons (pv 1) (pa_cons (pv 2) pa_nil))))))) (fun a oe cls d pn _ _ => (pss_one (ps_set (i := 3) sc_L_refused.nd rfl (Or.inl rfl) (pe_op op_add (pv 3) (pe_int))))))
      (pss_cons (ps_try_only rfl rfl ⟨rfl, by decide, .inl T.g_NoFlows⟩ takes0 (fun W pn xe tk _ => (pss_one (ps_expr (hcS (ok_least_worst (K := K) T) (hr.mono (by decide)) T.g_least_worst (fun σ => passAt tk σ) (pa_cons (pv 0) (pa_cons (pv 1) (pa_cons (pv 2) pa_nil))))))) (fun a oe cls d pn _ _ => (pss_one (ps_set (i := 3) sc_L_refused.nd rfl (Or.inl rfl) (pe_op op_add (pv 3) (pe_int))))))
      (pss_one (ps_ret (pe_cmpR op_eq (pv 3) (pe_int) (nomark _))))))), ?_⟩
  walk_at "g"
  · intro H1 x f g df dh s1 _ ps _ _
    exact absurd ps (hno f)
  · intro H1 s1 _
    refine ⟨true, T.e_NoFlows, fun _ a ha => ?_, fun z => nomatch z⟩
    have hP1 := hP.same s1
    have hd1 := hd.same s1
    have hp1 := hp.same s1
    walk_at "g"
    · intro H2 x num f df v s2 _ wr _ _
      exact absurd wr.ps (hno f)
    · intro H2 s2 _
      refine ⟨true, T.e_NoFlows, fun _ a ha => ?_, fun z => nomatch z⟩
      walk_at "g"
      exact q H2 (s1.trans s2)
def sp_L_told (K : PySem.W.Frag) : Sp := fun vs H Q _ => ∃ kl a d ks ss rk rf, vs = [.ref kl, .ref a, .ref d] ∧ StL H kl ks ∧ ks.length ≤ 4 ∧ LT sV H a ss ∧ ss.length ≤ 5 ∧ PrD H d rk rf ∧ ∀ H' b, Same H H' → Q (.ref b) H'
theorem sc_L_told : FnScope ["_law_knots", "_law_streams", "_law_readings", "_law_found", "_law_stream", "_law_others", "_law_reached", "_law_turn", "_law_other"] ["_law_knots", "_law_streams", "_law_readings"] (defScope s_L_told) := ⟨rfl, rfl, rfl, by decide +kernel, rfl, by decide +kernel, by decide +kernel⟩
theorem ok_L_told (T : Tx K mg) : Has P w K mg base CX0 1 (A_L_told K) ["_law_knots", "_law_streams", "_law_readings"] [] (sp_L_told K) := by
  obtain ⟨fd, F⟩ := T.F_L_told
  refine ⟨fd, [], F.ok sc_L_told (fun vs H Q E h => by
    obtain ⟨_, _, _, _, _, _, _, rfl, _⟩ := h
    rfl) (fun cdv A outer s H vs Q E hr h => ?_), F.bindsN (fun _ _ _ _ _ _ us hl => match us, hl with | [_, _, _], _ => rfl), .nil, F.kp⟩
  obtain ⟨kl, a, d, ks, ss, rk, rf, rfl, hk, hkl, ha, hsl, hd, q⟩ := h
  obtain ⟨us, ha1, ha2⟩ := ha.ex
  obtain ⟨r, hd1, hd2⟩ := hd.ex
  refine ⟨_, (pss_cons (ps_set (i := 3) sc_L_told.nd rfl (Or.inl rfl) (pe_lst pa_nil))
      (pss_cons (psFor (passes_of rfl) rfl (pi_list (pv 1)) (pg_name (i := 4) sc_L_told.nd rfl (Or.inr rfl))
      (pss_cons (ps_setLc (i := 5) (own := [("_law_other", 8)]) (g := (gName 8)) rfl sc_L_told.nd rfl rfl (sw_true rfl rfl rfl (by decide +kernel)) (pi_list (pv 1)) (blkOk_by (own := [("_law_other", 8)]) (N := ["_law_knots", "_law_streams", "_law_readings", "_law_found", "_law_stream", "_law_others", "_law_reached", "_law_turn", "_law_other"]) (sc := defScope s_L_told) (by decide +kernel)) (fun _ _ _ _ _ => (pg_name (i := 8) sc_L_told.nd rfl (Or.inl rfl))) (fun _ _ _ _ _ => (pts_one (PW.pt (pw_and (pt_cmp (pc_dnotin (hu_of hr) (pe_ix ixT (pv 8) (pe_int) (fun _ _ => rfl)) (pv 2))) (pw_and1 (pt_cmpR op_ne (pe_ix ixT (pv 8) (pe_int) (fun _ _ => rfl)) (pe_ix ixT (pv 4) (pe_int) (fun _ _ => rfl)) (nomark _))))))) (fun _ _ _ _ _ => (pv 8)))
      (pss_cons (ps_set (i := 6) sc_L_told.nd rfl (Or.inl rfl) (pe_lst (pa_cons (pe_ix ixT (pv 4) (pe_int) (fun _ _ => rfl)) pa_nil)))
      (pss_cons (psFor (passes_of rfl) rfl (pi_range1 (by rfl) T.b_range (pa_cons (pe_callB lenL (by rfl) T.b_len (by decide +kernel) (pa_cons (pv 0) pa_nil)) pa_nil)) (pg_name (i := 7) sc_L_told.nd rfl (Or.inl rfl))
      (pss_one (psFor (passes_of rfl) rfl (pi_list (pv 5)) (pg_name (i := 8) sc_L_told.nd rfl (Or.inl rfl))
      (pss_cons (psCut (ps_if (PW.pt (pw_and (pt_cmpR op_inSt (pe_ix ixT (pv 8) (pe_int) (fun _ _ => rfl)) (pv 6) (by rfl)) (pw_and1 (pt_cmpR op_ninSt (pe_ix ixT (pv 8) (pe_int) (fun _ _ => rfl)) (pv 6) (by rfl)))))
      (pss_one (ps_expr (pe_bm PySem.F.plainAttrs_list PySem.F.slot_list_append PySem.F.type_list_append mt_append (pv 6) (pa_cons (pe_ix ixT (pv 8) (pe_int) (fun _ _ => rfl)) pa_nil))))
      pss_nil))
      (pss_one (ps_if (PW.pt (pw_and (pt_cmpR op_inSt (pe_ix ixT (pv 8) (pe_int) (fun _ _ => rfl)) (pv 6) (by rfl)) (pw_and1 (pt_cmpR op_ninSt (pe_ix ixT (pv 8) (pe_int) (fun _ _ => rfl)) (pv 6) (by rfl)))))
      (pss_one (ps_expr (pe_bm PySem.F.plainAttrs_list PySem.F.slot_list_append PySem.F.type_list_append mt_append (pv 6) (pa_cons (pe_ix ixT (pv 8) (pe_int) (fun _ _ => rfl)) pa_nil))))
      pss_nil))))))
      (pss_one (ps_if (PW.pt (pw_or (pt_cmp (pc_din (hu_of hr) (pe_ix ixT (pv 4) (pe_int) (fun _ _ => rfl)) (pv 2))) (pw_or1 (pt_cmpR op_ninSt (pe_ix ixT (pv 4) (pe_int) (fun _ _ => rfl)) (pv 6) (by rfl)))))
      (pss_one (ps_expr (pe_bm PySem.F.plainAttrs_list PySem.F.slot_list_append PySem.F.type_list_append mt_append (pv 3) (pa_cons (pe_ix ixT (pv 4) (pe_int) (fun _ _ => rfl)) pa_nil))))
      pss_nil))))))
      (pss_one (ps_ret (pe_callB cr_sortSt (by rfl) T.b_sorted (by decide +kernel) (pa_cons (pv 3) pa_nil)))))), ?_⟩
  walk_at "g"
  intro D n_D; generalize hG : upd H D _ = H1; have s_H1 : Same H H1 := nw_same n_D hG; have e_D := nw_at hG; clear hG
  walk_at "g"
  refine ⟨forG (LT.wk (m := sV) (vs := us) (xs := ss)) (fun i σ H' => Hold (∃ y4 y5 y6 y7 y8, ∃ fo : List Str, σ = [some (.ref kl), some (.ref a), some (.ref d), some (.ref D), y4, y5, y6, y7, y8] ∧ Same H H' ∧ StL H' D fo ∧ fo.length ≤ i))
    ⟨none, none, none, none, none, [], rfl, s_H1, e_D, Nat.le_refl _⟩ (fun i σ H' _ h => ?_) (fun i x v σ H' H'' ex h s5 hv2 => ?_) (fun σ H' h => ?_)⟩
  · obtain ⟨y4, y5, y6, y7, y8, fo, rfl, t1, t2, t3⟩ := h.go
    exact ⟨lstOf (t1 _ _ ha1), ha2.imp fun x v r => r.same t1⟩
  · obtain ⟨y4, y5, y6, y7, y8, fo, rfl, t1, t2, t3⟩ := h.go
    obtain ⟨t, rfl, ht⟩ := hv2
    have hi := (List.getElem?_eq_some_iff.mp ex).1
    have u1 := t1.trans s5
    have ha4 := u1 _ _ ha1
    have t2' : StL H'' D fo := s5 _ _ t2
    walk_at "g"
    intro D5 hD5
    refine lcG (LT.wk (m := sV) (vs := us) (xs := ss)) (fun s => if s.name ∉ rk ∧ s.name ≠ x.name then some s else none) (fun s v H => TupR (sV s) v H) rmL_tup hD5 ⟨lstOf ha4, ha2.imp fun x v r => r.same u1⟩ (by omega) (fun j y v H6 Ky Kn ey sm _ hv3 ky kn2 => ?_) (fun H5 ws s6 eD5 aD5 => ?_)
    · obtain ⟨ty, rfl, hty⟩ := hv3
      have ht6 := sm _ _ ht
      have at0 : atI (sV y) (0 : Int) = some (.str y.name) := atI_nat (j := 0) rfl
      have at1 : atI (sV x) (0 : Int) = some (.str x.name) := atI_nat (j := 0) rfl
      have u2 : Rd H6 d (.dK (fdV rk fun k => .ref (r k))) := .inl (sm _ _ (u1 _ _ hd1))
      by_cases c : y.name ∈ rk
      · have g1 : DGet H6 d (.str y.name) (some (.ref (r y.name))) := dget_fd (g := fun k => V.ref (r k)) u2 c
        walk_at "g"
        exact kn2 _ (Same.refl _) (if_neg fun z => z.1 c)
      · have g1 : DGet H6 d (.str y.name) none := dget_fd0 (g := fun k => V.ref (r k)) u2 c
        walk_at "g"
        refine ite_d2 (fun c2 => ?_) (fun c2 => ?_)
        · walk_at "g"
          exact ky _ _ _ (Same.refl _) (if_pos ⟨c, fun z => c2 (congrArg V.str z)⟩) ⟨ty, rfl, hty⟩
        · exact kn2 _ (Same.refl _) (if_neg fun z => z.2 (V.str.inj c2))
    generalize hoth : (ss.filterMap fun s => if s.name ∉ rk ∧ s.name ≠ x.name then some s else none) = oth at aD5
    have hol : oth.length ≤ 5 := by
      rw [← hoth]
      exact Nat.le_trans (List.length_filterMap_le ..) hsl
    have ht5 := s6 _ _ ht
    have at1 : atI (sV x) (1 : Int) = some (.str x.tail) := atI_nat (j := 1) rfl
    walk_at "g"
    intro Rc n_Rc; generalize hG : upd H5 Rc _ = H6; have s_H6 : Same H5 H6 := nw_same n_Rc hG; have e_Rc := nw_at hG; clear hG
    have b1 : Same H'' H6 := s6.trans s_H6
    have V6 : Same H H6 := u1.trans b1
    have hk6 : StL H6 kl ks := V6 _ _ hk
    have nRc : H'' Rc = none := s6.free n_Rc
    have eD56 := s_H6 _ _ eD5
    have hD5R : D5 ≠ Rc := ne_of_none eD5 n_Rc
    have eRc : StL H6 Rc [x.tail] := e_Rc
    have hkm : (ks.map V.str).length ≤ 4 := by
      rw [List.length_map]
      exact hkl
    walk_at "g"
    refine ⟨forG (wk_range (lo := 0) (n := ((ks.map V.str).length : Int).toNat)) (fun m σ H' => Hold (∃ y7 y8, ∃ rs : List Str, σ = [some (.ref kl), some (.ref a), some (.ref d), some (.ref D), some (.ref t), some (.ref D5), some (.ref Rc), y7, y8] ∧ SameE Rc H6 H' ∧ StL H' Rc rs ∧ rs.length ≤ 1 + m * 10))
      ⟨_, _, [x.tail], rfl, SameE.refl, eRc, Nat.le_refl _⟩ (fun m σ H' _ h => trivial) (fun m z v σ Ha Hb ez h s12 hv4 => ?_) (fun σ H' h => ?_)⟩
    · obtain ⟨y7, y8, rs, rfl, c1, c2, c3⟩ := h.go
      have hml := (List.getElem?_eq_some_iff.mp ez).1
      rw [List.length_range, List.length_map] at hml
      have hm4 : m < 4 := by omega
      have c1b : SameE Rc H6 Hb := c1.trans (.of s12)
      have c2b : StL Hb Rc rs := s12 _ _ c2
      have e5b := c1b _ _ hD5R eD56
      walk_at "g"
      refine ⟨forG (LT.wk (m := sV) (vs := ws) (xs := oth)) (fun j σ H' => Hold (∃ y8, ∃ rs : List Str, σ = [some (.ref kl), some (.ref a), some (.ref d), some (.ref D), some (.ref t), some (.ref D5), some (.ref Rc), some v, y8] ∧ SameE Rc H6 H' ∧ StL H' Rc rs ∧ rs.length ≤ 1 + m * 10 + 2 * j))
        ⟨_, rs, rfl, c1b, c2b, by omega⟩ (fun j σ H' _ h => ?_) (fun j y w σ Hc Hd ey h s13 hv5 => ?_) (fun σ H' h => ?_)⟩
      · obtain ⟨y8, rs, rfl, d1, d2, d3⟩ := h.go
        exact ⟨lstOf (d1 _ _ hD5R eD56), aD5.imp fun s v ⟨t, e, r⟩ => ⟨t, e, d1 _ _ (ne_at (s_H6 _ _ r) e_Rc (fun e => by cases e)) (s_H6 _ _ r)⟩⟩
      · obtain ⟨y8, rs, rfl, d1, d2, d3⟩ := h.go
        obtain ⟨ty, rfl, hty⟩ := hv5
        have hj := (List.getElem?_eq_some_iff.mp ey).1
        have d1b : SameE Rc H6 Hd := d1.trans (.of s13)
        have d2b : StL Hd Rc rs := s13 _ _ d2
        have d2c : Hd Rc = some (.lst (rs.map V.str)) := d2b
        have at1 : atI (sV y) (1 : Int) = some (.str y.tail) := atI_nat (j := 1) rfl
        have at2 : atI (sV y) (2 : Int) = some (.str y.head) := atI_nat (j := 2) rfl
        have rl9 : (rs.map V.str).length ≤ 1000 := by
          rw [List.length_map]
          omega
        have htyR : ty ≠ Rc := ne_at hty d2c (fun e => by cases e)
        walk_at "g"
        refine Cut.of (fun σ He => Hold (∃ rs : List Str, σ = [some (.ref kl), some (.ref a), some (.ref d), some (.ref D), some (.ref t), some (.ref D5), some (.ref Rc), some v, some (.ref ty)] ∧ SameE Rc H6 He ∧ StL He Rc rs ∧ rs.length ≤ 1 + m * 10 + 2 * j + 1 ∧ He ty = some (.tup (sV y)))) ?_ (fun σ He hh => ?_)
        · have same : Hold (∃ rs : List Str, [some (V.ref kl), some (.ref a), some (.ref d), some (.ref D), some (.ref t), some (.ref D5), some (.ref Rc), some v, some (.ref ty)] = [some (V.ref kl), some (.ref a), some (.ref d), some (.ref D), some (.ref t), some (.ref D5), some (.ref Rc), some v, some (.ref ty)] ∧ SameE Rc H6 Hd ∧ StL Hd Rc rs ∧ rs.length ≤ 1 + m * 10 + 2 * j + 1 ∧ Hd ty = some (.tup (sV y))) := ⟨rs, rfl, d1b, d2b, by omega, hty⟩
          walk_at "g"
          refine ite_d (fun c => ?_) (fun c => ?_)
          · walk_at "g"
            refine ite_d (fun c2 => ?_) (fun c2 => ?_)
            · walk_at "g"
              exact ⟨rs ++ [y.head], rfl, d1b.upd, by show upd _ _ _ _ = _; rw [upd_same, List.map_append]; rfl, by rw [List.length_append]; show rs.length + 1 ≤ _; omega, at_upd htyR hty⟩
            · exact same
          · exact same
        · obtain ⟨rs, rfl, d1, d2, d3, d4⟩ := hh.go
          have d2e : He Rc = some (.lst (rs.map V.str)) := d2
          walk_at "g"
          have d2e : He Rc = some (.lst (rs.map V.str)) := d2
          have rl9 : (rs.map V.str).length ≤ 1000 := by
            rw [List.length_map]
            omega
          have same : Hold (∃ y8, ∃ rs' : List Str, [some (V.ref kl), some (.ref a), some (.ref d), some (.ref D), some (.ref t), some (.ref D5), some (.ref Rc), some v, some (.ref ty)] = [some (V.ref kl), some (.ref a), some (.ref d), some (.ref D), some (.ref t), some (.ref D5), some (.ref Rc), some v, y8] ∧ SameE Rc H6 He ∧ StL He Rc rs' ∧ rs'.length ≤ 1 + m * 10 + 2 * (j + 1)) := ⟨_, rs, rfl, d1, d2, by omega⟩
          refine ite_d (fun c => ?_) (fun c => ?_)
          · walk_at "g"
            refine ite_d (fun c2 => ?_) (fun c2 => ?_)
            · walk_at "g"
              exact ⟨_, rs ++ [y.tail], rfl, d1.upd, by show upd _ _ _ _ = _; rw [upd_same, List.map_append]; rfl, by rw [List.length_append]; show rs.length + 1 ≤ _; omega⟩
            · exact same
          · exact same
      · obtain ⟨y8, rs, rfl, d1, d2, d3⟩ := h.go
        exact ⟨_, _, rs, rfl, d1, d2, by omega⟩
    · obtain ⟨y7, y8, rs, rfl, c1, c2, c3⟩ := h.go
      have nRcH : H Rc = none := u1.free nRc
      have hX : Same H H' := fun b o e => c1 _ _ (ne_of_none e nRcH) (V6 _ _ e)
      have htR : t ≠ Rc := ne_at (s_H6 _ _ ht5) e_Rc (fun e => by cases e)
      have htX := c1 _ _ htR (s_H6 _ _ ht5)
      have hDR : D ≠ Rc := ne_of_none t2' nRc
      have t2X : StL H' D fo := c1 _ _ hDR (b1 _ _ t2')
      have t2Y : H' D = some (.lst (fo.map V.str)) := t2X
      have hdX : Rd H' d (.dK (fdV rk fun k => .ref (r k))) := .inl (hX _ _ hd1)
      have a0 : atI (sV x) (0 : Int) = some (.str x.name) := atI_nat (j := 0) rfl
      have a2 : atI (sV x) (2 : Int) = some (.str x.head) := atI_nat (j := 2) rfl
      have fl9 : (fo.map V.str).length ≤ 1000 := by
        rw [List.length_map]
        omega
      by_cases c : x.name ∈ rk
      · have g1 : DGet H' d (.str x.name) (some (.ref (r x.name))) := dget_fd (g := fun k => V.ref (r k)) hdX c
        walk_at "g"
        exact ⟨_, _, _, _, _, fo ++ [x.name], rfl, same_put hX n_D, by show upd _ _ _ _ = _; rw [upd_same, List.map_append]; rfl, by rw [List.length_append]; exact Nat.succ_le_succ t3⟩
      · have g1 : DGet H' d (.str x.name) none := dget_fd0 (g := fun k => V.ref (r k)) hdX c
        walk_at "g"
        refine ite_d (fun c2 => ?_) (fun c2 => ?_)
        · walk_at "g"
          exact ⟨_, _, _, _, _, fo ++ [x.name], rfl, same_put hX n_D, by show upd _ _ _ _ = _; rw [upd_same, List.map_append]; rfl, by rw [List.length_append]; exact Nat.succ_le_succ t3⟩
        · exact ⟨_, _, _, _, _, fo, rfl, hX, t2X, by omega⟩
  · obtain ⟨y4, y5, y6, y7, y8, fo, rfl, t1, t2, t3⟩ := h.go
    have h64 : fo.length < 64 := by omega
    walk_at "g"
    intro ys b pm so n_b
    generalize hG : upd H' b _ = H9; have s_H9 : Same H' H9 := nw_same n_b hG; have e_b := nw_at hG; clear hG
    exact q H9 b (t1.trans s_H9)
end
end M
end
-- part X8
section
set_option Elab.async false
set_option linter.all false
set_option maxRecDepth 100000
set_option maxHeartbeats 4000000
namespace M
open PySem PySem.Spec PyProof.Rows L2
local macro_rules | `(tactic| walk_at "e") => `(tactic| (first
  | exact rfl
  | assumption
  | exact upd_same
  | exact flat_strs
  | exact fd_keys
  | ((with_reducible apply same_at); assumption; walk_at "f")
  | ((with_reducible apply at_upd); assumption; walk_at "f")
  | omega))
local macro_rules | `(tactic| walk_at "n") => `(tactic| (first
  | assumption
  | omega
  | exact Nat.le_of_lt (small1000 (by first | assumption | omega))
  | exact (Nat.zero_le _ : 0 ≤ sizeLine)
  | exact (by decide : 1 ≤ sizeLine)
  | exact (by decide : 2 ≤ sizeLine)
  | exact (by decide : 3 ≤ sizeLine)
  | exact (by decide : 5 ≤ sizeLine)
  | exact (by decide : 6 ≤ sizeLine)
  | (show _ < 1000; exact of_decide_eq_true rfl)
  | exact len2 (by omega) (by omega)
  | exact small1000 (by first | assumption | omega)))
local macro_rules | `(tactic| walk_at "f") => `(tactic| (first
  | with_reducible assumption
  | ((with_reducible apply gEq); walk_at "e")
  | ((with_reducible apply gLe); walk_at "n")
  | ((with_reducible apply gLt); walk_at "n")
  | ((with_reducible apply gNot); (first | assumption | omega))
  | with_reducible exact Same.refl _
  | ((with_reducible apply tupOf); walk_at "f")
  | ((with_reducible apply lstOf); walk_at "f")
  | ((with_reducible apply gCls); assumption)
  | ((with_reducible apply gNoAttr); assumption)
  | ((with_reducible apply gIsPl); assumption)
  | ((with_reducible apply gStL); assumption)
  | ((with_reducible apply gIntD); assumption)
  | ((with_reducible apply gSqT); assumption)
  | ((with_reducible apply gSqL); assumption)
  | ((with_reducible apply tyV_l); walk_at "f")
  | ((with_reducible apply Rd.of); walk_at "f")
  | ((with_reducible apply dget_ne); assumption; assumption)
  | ((with_reducible apply dget_fd) <;> walk_at "f")
  | ((with_reducible apply dput_int) <;> walk_at "f")
  | ((with_reducible apply dput_fd) <;> walk_at "f")
  | ((with_reducible apply rd_upd); assumption; walk_at "f")
  | ((with_reducible apply same_put); walk_at "f"; assumption)
  | ((with_reducible apply sx_upd) <;> walk_at "f")
  | ((with_reducible refine Same.trans ?_ (by assumption)); walk_at "f")
  | ((with_reducible apply cmulLg); omega; omega)
  | ((with_reducible apply cmulRg); omega; omega)
  | ((with_reducible apply SameE.upd); walk_at "f")
  | ((with_reducible apply StL.same); assumption; walk_at "f")
  | ((with_reducible apply LT.same); assumption; walk_at "f")
  | ((with_reducible apply IsP.same); assumption; walk_at "f")
  | ((with_reducible apply IsPl.same); assumption; walk_at "f")
  | ((with_reducible apply IntD.same); assumption; walk_at "f")
  | ((with_reducible apply PrD.same); assumption; walk_at "f")
  | ((with_reducible apply Or.inl); walk_at "f")
  | ((with_reducible apply Or.inr); walk_at "f")))
local macro_rules | `(tactic| walk_at "g") => `(tactic| repeat (first
  | with_reducible apply And.intro
  | with_reducible apply Exists.intro
  | walk_at "f"
  | ((with_reducible apply iteT); assumption)
  | ((with_reducible apply iteF); assumption)
  | ((with_reducible apply iteD); (first | assumption | omega))
  | ((with_reducible apply iteN); (first | assumption | omega))
  | ((with_reducible apply iteD2); (first | assumption | omega))
  | ((with_reducible apply iteN2); (first | assumption | omega))
  | apply And.intro
  | apply Exists.intro))
section
variable {P : Program} {w : World} {K : PySem.W.Frag} {mg : Str → Option Value} {base : Heap}
theorem putK_len {kvs : List (Key × V)} {k : Key} {v : V} : (putK kvs k v).length ≤ kvs.length + 1 := by
  unfold putK
  split
  · rw [List.length_map]
    omega
  · rw [List.length_append]
    exact Nat.le_refl _
def sp_L_answers (K : PySem.W.Frag) : Sp := fun vs H Q _ => ∃ kl a d pl rk rf, vs = [.ref kl, .ref a, .ref d] ∧ StL H kl pl.knots ∧ LT sV H a pl.ss ∧ SmallP pl ∧ PrD H d rk rf ∧ RdV pl rk rf ∧ (∀ n ∈ rk, (rf n).1 ≤ 5 ∧ (rf n).2 ≤ 1) ∧
  ∀ H' b kvs lv, Same H H' → H' b = some (.dK kvs) → valV kvs (kS "least") = some lv → ((∃ f, lv = .int (costN rk rf (fun _ => 1) f) ∧ Poss pl f ∧ ∀ g, Poss pl g → costN rk rf (fun _ => 1) f ≤ costN rk rf (fun _ => 1) g) ∨ (lv = .non ∧ ∀ g, ¬ Poss pl g)) → Q (.ref b) H'
theorem sc_L_answers : FnScope ["_law_knots", "_law_streams", "_law_readings", "_law_rows", "_law_ranges", "_law_stream", "_law_some", "_law_least", "_law_costs", "_law_row_here", "_law_name"] ["_law_knots", "_law_streams", "_law_readings"] (defScope s_L_answers) := ⟨rfl, rfl, rfl, by decide +kernel, rfl, by decide +kernel, by decide +kernel⟩
theorem ok_L_answers (T : Tx K mg) : Has P w K mg base CX0 3 (A_L_answers K) ["_law_knots", "_law_streams", "_law_readings"] [] (sp_L_answers K) := by
  obtain ⟨fd, F⟩ := T.F_L_answers
  refine ⟨fd, [], F.ok sc_L_answers (fun vs H Q E h => by
    obtain ⟨_, _, _, _, _, _, rfl, _⟩ := h
    rfl) (fun cdv A outer s H vs Q E hr h => ?_), F.bindsN (fun _ _ _ _ _ _ us hl => match us, hl with | [_, _, _], _ => rfl), .nil, F.kp⟩
  obtain ⟨kl, a, d, pl, rk, rf, rfl, hkk, ha, hsm, hd, hv, hsb, q⟩ := h
  obtain ⟨us, ha1, ha2⟩ := ha.ex
  obtain ⟨r, hd1, hd2⟩ := hd.ex
  have hpv := hsm.v
  have hs5 := hsm.s
  have hk4 := hsm.k
  have hnn : (pl.ss.map (·.name)).Nodup := hpv.nn
  have hrl := hv.ln hpv
  refine ⟨_, (pss_cons (ps_set (i := 3) sc_L_answers.nd rfl (Or.inl rfl) (hc (ok_L_all_flows (K := K) T) (hr.mono (by decide)) T.g_L_all_flows pass0 (pa_cons (pv 0) (pa_cons (pv 1) (pa_cons (hc (ok_L_limits (K := K) T) (hr.mono (by decide)) T.g_L_limits pass0 (pa_cons (pv 1) (pa_cons (pv 2) pa_nil))) pa_nil)))))
      (pss_cons (ps_set (i := 4) sc_L_answers.nd rfl (Or.inl rfl) (pe_non))
      (pss_cons (psCut (ps_if (pt_cmpR op_gt (pe_callB lenL (by rfl) T.b_len (by decide +kernel) (pa_cons (pv 3) pa_nil)) (pe_int) (nomark _))
      (pss_cons (ps_set (i := 4) sc_L_answers.nd rfl (Or.inl rfl) (pe_dnewK))
      (pss_one (psFor (passes_of rfl) rfl (pi_list (pv 1)) (pg_name (i := 5) sc_L_answers.nd rfl (Or.inr rfl))
      (pss_cons (ps_setLc (i := 6) (own := [("_law_row_here", 9)]) (g := (gName 9)) rfl sc_L_answers.nd rfl rfl (sw_true rfl rfl rfl (by decide +kernel)) (pi_list (pv 3)) (blkOk_by (own := [("_law_row_here", 9)]) (N := ["_law_knots", "_law_streams", "_law_readings", "_law_rows", "_law_ranges", "_law_stream", "_law_some", "_law_least", "_law_costs", "_law_row_here", "_law_name"]) (sc := defScope s_L_answers) (by decide +kernel)) (fun _ _ _ _ _ => (pg_name (i := 9) sc_L_answers.nd rfl (Or.inl rfl))) (fun _ _ _ _ _ => pts_nil) (fun _ _ _ _ _ => (pe_dget (hu_of hr) (pv 9) (pe_ix ixT (pv 5) (pe_int) (fun _ _ => rfl)) (fun _ _ => rfl))))
      (pss_one (ps_dput (hu_of hr) (pv 4) (pe_ix ixT (pv 5) (pe_int) (fun _ _ => rfl)) (pe_tup (pa_cons (pe_callB (minL rfl) (by rfl) T.b_min (by decide +kernel) (pa_cons (pv 6) pa_nil)) (pa_cons (pe_callB (maxL rfl) (by rfl) T.b_max (by decide +kernel) (pa_cons (pv 6) pa_nil)) pa_nil))) rfl))))))
      pss_nil))
      (pss_cons (ps_set (i := 7) sc_L_answers.nd rfl (Or.inl rfl) (pe_non))
      (pss_cons (ps_set (i := 8) sc_L_answers.nd rfl (Or.inl rfl) (pe_lst pa_nil))
      (pss_cons (psFor (passes_of rfl) rfl (pi_list (hc (ok_L_all_flows (K := K) T) (hr.mono (by decide)) T.g_L_all_flows pass0 (pa_cons (pv 0) (pa_cons (pv 1) (pa_cons (hc (ok_L_limits (K := K) T) (hr.mono (by decide)) T.g_L_limits pass0 (pa_cons (pv 1) (pa_cons (pe_dnewK) pa_nil))) pa_nil))))) (pg_name (i := 9) sc_L_answers.nd rfl (Or.inr rfl))
      (pss_one (ps_expr (pe_bm PySem.F.plainAttrs_list PySem.F.slot_list_append PySem.F.type_list_append mt_append (pv 8) (pa_cons (pe_callB (sumL rfl) (by rfl) T.b_sum (by decide +kernel) (pa_cons (peLockN 2 (pe_lc (own := [("_law_name", 10)]) (g := (gName 10)) rfl sc_L_answers.nd (piKeys (pv 2)) (blkOk_by (own := [("_law_name", 10)]) (N := ["_law_knots", "_law_streams", "_law_readings", "_law_rows", "_law_ranges", "_law_stream", "_law_some", "_law_least", "_law_costs", "_law_row_here", "_law_name"]) (sc := defScope s_L_answers) (by decide +kernel)) (fun _ _ _ _ _ => (pg_name (i := 10) sc_L_answers.nd rfl (Or.inl rfl))) (fun _ _ _ _ _ => pts_nil) (fun _ _ _ _ _ => (pe_callB (call_max2 rfl) (by rfl) T.b_max (by decide +kernel) (pa_cons (pe_int) (pa_cons (pe_op op_sub (pe_callB call_abs (by rfl) T.b_abs (by decide +kernel) (pa_cons (pe_op op_sub (pe_dget (hu_of hr) (pv 9) (pv 10) (fun _ _ => rfl)) (pe_ix ixT (pe_dget (hu_of hr) (pv 2) (pv 10) (fun _ _ => rfl)) (pe_int) (fun _ _ => rfl))) pa_nil)) (pe_ix ixT (pe_dget (hu_of hr) (pv 2) (pv 10) (fun _ _ => rfl)) (pe_int) (fun _ _ => rfl))) pa_nil)))))) pa_nil)) pa_nil)))))
      (pss_cons (psCut (ps_if (pt_cmpR op_gt (pe_callB lenL (by rfl) T.b_len (by decide +kernel) (pa_cons (pv 8) pa_nil)) (pe_int) (nomark _))
      (pss_one (ps_set (i := 7) sc_L_answers.nd rfl (Or.inl rfl) (pe_callB (minL rfl) (by rfl) T.b_min (by decide +kernel) (pa_cons (pv 8) pa_nil))))
      pss_nil))
      (pss_one (ps_ret (pe_disp (pps_cons (pe_str) (pe_cmpR op_gt (pe_callB lenL (by rfl) T.b_len (by decide +kernel) (pa_cons (pv 3) pa_nil)) (pe_int) (nomark _)) (pps_cons (pe_str) (pv 4) (pps_cons (pe_str) (hc (ok_L_told (K := K) T) (hr.mono (by decide)) T.g_L_told pass0 (pa_cons (pv 0) (pa_cons (pv 1) (pa_cons (pv 2) pa_nil)))) (pps_cons (pe_str) (pv 7) pps_nil)))) (by rfl) (by rfl) (fun z => by cases z) (by decide))))))))))), ?_⟩
  walk_at "g"
  intro H1 b lim s1 nb hl hL
  have hlim : ∀ s ∈ pl.ss, 0 ≤ (lim s.name).1 ∧ (lim s.name).1 ≤ 1000 ∧ (lim s.name).2 ≤ (lim s.name).1 + 2 ∧ -1000 ≤ (lim s.name).2 := fun s hs => by
    rw [hl s hs]
    obtain ⟨b1, b2, b3⟩ := hpv.bd s hs
    obtain ⟨c1, c2⟩ := hsm.h s hs
    unfold limS
    by_cases z : s.name ∈ rk
    · rw [if_pos z]
      obtain ⟨d1, d2⟩ := hsb _ z
      obtain ⟨e1, e2, e3, e4⟩ := hv.bd _ z
      unfold mx mn
      simp only
      split <;> split <;> omega
    · rw [if_neg z]
      simp only
      omega
  have ha11 := ha.same s1
  walk_at "g"
  intro H2 R rows s2 nR rl hrows hrn
  obtain ⟨ws, rl1, rl2⟩ := rl.ex
  have S2 : Same H H2 := s1.trans s2
  refine Cut.of (fun σ H' => Hold (∃ v4 y5 y6, σ = [some (.ref kl), some (.ref a), some (.ref d), some (.ref R), some v4, y5, y6, none, none, none, none] ∧ Same H2 H')) ?_ (fun σ H' hh => ?_)
  · walk_at "g"
    refine ite_d (fun c => ?_) (fun c => ?_)
    · walk_at "g"
      intro Rg n_Rg; generalize hG : upd H2 Rg _ = H3; have s_H3 : Same H2 H3 := nw_same n_Rg hG; have e_Rg := nw_at hG; clear hG
      have ha3 := s_H3 _ _ (S2 _ _ ha1)
      walk_at "g"
      refine ⟨forG (LT.wk (m := sV) (vs := us) (xs := pl.ss)) (fun i σ H' => Hold (∃ y5 y6, ∃ kvs : List (Key × V), σ = [some (.ref kl), some (.ref a), some (.ref d), some (.ref R), some (.ref Rg), y5, y6, none, none, none, none] ∧ Same H2 H' ∧ H' Rg = some (.dK kvs) ∧ kvs.length ≤ i))
        ⟨none, none, [], rfl, s_H3, e_Rg, Nat.le_refl _⟩ (fun i σ H' _ h => ?_) (fun i x v σ Ha Hb ex h s5 hv2 => ?_) (fun σ H' h => ?_)⟩
      · obtain ⟨y5, y6, kvs, rfl, t1, t2, t3⟩ := h.go
        exact ⟨lstOf (t1 _ _ (S2 _ _ ha1)), ha2.imp fun x v r => r.same (S2.trans t1)⟩
      · obtain ⟨y5, y6, kvs, rfl, t1, t2, t3⟩ := h.go
        obtain ⟨t, rfl, ht⟩ := hv2
        have hx := List.mem_of_getElem? ex
        have hxn : x.name ∈ pl.ss.map (·.name) := List.mem_map.mpr ⟨x, hx, rfl⟩
        have hil := (List.getElem?_eq_some_iff.mp ex).1
        have u1 := t1.trans s5
        have hR := u1 _ _ rl1
        have a0 : atI (sV x) (0 : Int) = some (.str x.name) := atI_nat (j := 0) rfl
        walk_at "g"
        intro D hD
        refine lcV (RL.wk (R := R) (ws := ws) (rows := rows) (ks := pl.ss.map (·.name))) (fun g => some (g x.name)) V.int hD ⟨lstOf hR, rl2.imp fun g v ⟨d, e, r⟩ => ⟨d, e, r.same u1⟩⟩ (by omega) (fun j g v H6 Ky Kn eg sm _ hv3 ky kn2 => ?_) (fun H6 s6 eD => ?_)
        · obtain ⟨d1, rfl, hd1'⟩ := hv3
          have ht6 := sm _ _ ht
          have g1 : DGet H6 d1 (.str x.name) (some (.int (g x.name))) := dget_fd (g := fun k => V.int (g k)) (.inl hd1') hxn
          walk_at "g"
          exact ky _ _ (Same.refl _) rfl
        rw [fm_map] at eD
        have hrp : 0 < (rows.map fun g => g x.name).length := by
          rw [List.length_map, ← rl2.length]
          omega
        have ht6 := s6 _ _ ht
        have hRg6 := s6 _ _ (s5 _ _ t2)
        walk_at "g"
        intro mi _ _
        walk_at "g"
        intro ma _ _
        walk_at "g"
        intro T2 n_T2; generalize hG : upd H6 T2 _ = H7; have s_H7 : Same H6 H7 := nw_same n_T2 hG; have e_T2 := nw_at hG; clear hG
        have ht7 := s_H7 _ _ ht6
        have hRg7 := s_H7 _ _ hRg6
        have hput : DPut H7 Rg (.str x.name) (.ref T2) (upd H7 Rg (.dK (putK kvs (kS x.name) (.ref T2)))) := .inl ⟨kvs, kS x.name, hRg7, rfl, small1000 (by omega), rfl⟩
        walk_at "g"
        exact ⟨_, _, _, rfl, same_put (u1.trans (s6.trans s_H7)) n_Rg, upd_same, Nat.le_trans putK_len (by omega)⟩
      · obtain ⟨y5, y6, kvs, rfl, t1, t2, t3⟩ := h.go
        exact ⟨_, _, _, rfl, t1⟩
    · walk_at "g"
      exact ⟨_, _, _, rfl, Same.refl _⟩
  · obtain ⟨v4, y5, y6, rfl, t1⟩ := hh.go
    walk_at "g"
    intro C n_C; generalize hG : upd H' C _ = H5; have s_H5 : Same H' H5 := nw_same n_C hG; have e_C := nw_at hG; clear hG
    walk_at "g"
    intro e0 n_e0; generalize hG : upd H5 e0 _ = H6; have s_H6 : Same H5 H6 := nw_same n_e0 hG; have e_e0 := nw_at hG; clear hG
    have S6 : Same H H6 := S2.trans (t1.trans (s_H5.trans s_H6))
    have ha6 := ha.same S6
    have he : PrD H6 e0 [] rf := ⟨fun _ => 0, e_e0, fun k h => (nomatch h)⟩
    walk_at "g"
    intro H7 b2 lim2 s7 nb2 hl2 hL2
    have hl2 : ∀ s ∈ pl.ss, lim2 s.name = (s.low, s.high) := fun s hs => hl2 s hs
    have hlim2 : ∀ s ∈ pl.ss, 0 ≤ (lim2 s.name).1 ∧ (lim2 s.name).1 ≤ 1000 ∧ (lim2 s.name).2 ≤ (lim2 s.name).1 + 2 ∧ -1000 ≤ (lim2 s.name).2 := fun s hs => by
      rw [hl2 s hs]
      obtain ⟨b1, b2, b3⟩ := hpv.bd s hs
      obtain ⟨c1, c2⟩ := hsm.h s hs
      simp only
      omega
    have ha7 := ha6.same s7
    walk_at "g"
    intro H8 R2 rows2 s8 nR2 rlb hrows2 hrn2
    obtain ⟨ws2, q1, q2⟩ := rlb.ex
    have S8 : Same H H8 := S6.trans (s7.trans s8)
    have eC8 : H8 C = some (.lst []) := s8 _ _ (s7 _ _ (s_H6 _ _ e_C))
    have hRC : R2 ≠ C := (ne_of_none (s7 _ _ (s_H6 _ _ e_C)) nR2).symm
    have rR8 := s8 _ _ (s7 _ _ (s_H6 _ _ (s_H5 _ _ (t1 _ _ rl1))))
    have hRC1 : R ≠ C := ne_of_none (t1 _ _ rl1) n_C
    have nCH : H C = none := (S2.trans t1).free n_C
    have hdC : d ≠ C := ne_of_none hd1 nCH
    have hG : ∀ f, Good pl.ss [] lim2 f ↔ Poss pl f := fun f => (good_end hpv.tk hpv.hk).trans (feas_base hl2)
    walk_at "g"
    refine ⟨forG (RL.wk (R := R2) (ws := ws2) (rows := rows2) (ks := pl.ss.map (·.name))) (fun i σ H' => Hold (∃ y9, σ = [some (.ref kl), some (.ref a), some (.ref d), some (.ref R), some v4, y5, y6, some .non, some (.ref C), y9, none] ∧ SameE C H8 H' ∧ H' C = some (.lst ((rows2.take i).map fun g => V.int (costN rk rf (fun _ => 1) g)))))
      ⟨none, rfl, SameE.refl, eC8⟩ (fun i σ H' _ h => ?_) (fun i g v σ Ha Hb ex h s5 hv2 => ?_) (fun σ H' h => ?_)⟩
    · obtain ⟨y9, rfl, c1, c2⟩ := h.go
      exact ⟨lstOf (c1 _ _ hRC q1), q2.imp fun g v ⟨d, e, r⟩ => ⟨d, e, c1 _ _ (ne_at r eC8 (fun e => by cases e)) r⟩⟩
    · obtain ⟨y9, rfl, c1, c2⟩ := h.go
      obtain ⟨d1, rfl, hd1'⟩ := hv2
      have hil := (List.getElem?_eq_some_iff.mp ex).1
      have c1b : SameE C H8 Hb := c1.trans (.of s5)
      have c2b := s5 _ _ c2
      have hdb : Hb d = some (.dK (fdV rk fun k => .ref (r k))) := c1b _ _ hdC (S8 _ _ hd1)
      have hdt : ∀ n ∈ rk, Hb (r n) = some (.tup [.int (rf n).1, .int (rf n).2]) := fun n hn => c1b _ _ (ne_of_none (hd2 n hn) nCH) (S8 _ _ (hd2 n hn))
      walk_at "g"
      intro od
      generalize hG : upd Hb d _ = H0
      have e0 := nw_at hG
      have g1 : Rd H0 d1 (.dK (fdV (pl.ss.map (·.name)) fun k => .int (g k))) := hG ▸ rd_lock hdb trivial (.inl hd1')
      have g3 : ∀ n ∈ rk, H0 (r n) = some (.tup [.int (rf n).1, .int (rf n).2]) := fun n hn => hG ▸ lock_ne hdb (hdt n hn) (fun e => by cases e)
      have s0 : ∀ {H'}, Same H0 H' → Same Hb (upd H' d (.dK (fdV rk fun k => .ref (r k)))) := fun s => same_unlock hdb (hG ▸ s)
      clear hG
      walk_at "g"
      intro D hD
      refine lcK (fun n => some (ov (rf n) (g n))) V.int hD e0 (by omega) (fun n v H1 Ky Kn hn s hfz hvv ky kn => ?_) (fun H1 s1 eD => ?_)
      · subst hvv
        have hnn2 : n ∈ pl.ss.map (·.name) := hv.inN n hn
        have u1 : Rd H1 d (.dK (fdV rk fun k => .ref (r k))) := .inr ⟨_, hfz⟩
        have u2 := same_rd s g1
        have u4 := s _ _ (g3 n hn)
        have at0 : atI [V.int (rf n).1, V.int (rf n).2] (0 : Int) = some (.int (rf n).1) := atI_nat (j := 0) rfl
        have at1 : atI [V.int (rf n).1, V.int (rf n).2] (1 : Int) = some (.int (rf n).2) := atI_nat (j := 1) rfl
        walk_at "g"
        rw [ov_eq]
        exact ky _ _ (Same.refl _) rfl
      · have f1 := s1 _ _ e0
        have hDd : D ≠ d := (ne_of_none e0 hD).symm
        have sm := s0 s1
        rw [fm_map] at eD
        have eD' := at_upd (o := .dK (fdV rk fun k => .ref (r k))) hDd eD
        refine ⟨f1, ?_⟩
        generalize upd H1 d _ = H2 at sm eD' ⊢
        have eCx := sm _ _ c2b
        have hcl : ((rows2.take i).map fun g => V.int (costN rk rf (fun _ => 1) g)).length ≤ 1000 := by
          rw [List.length_map, List.length_take]
          omega
        walk_at "g"
        refine ⟨_, rfl, (c1b.trans (.of sm)).upd, ?_⟩
        rw [upd_same, take_snoc ex, List.map_append, ← cost_one]
        rfl
    · obtain ⟨y9, rfl, c1, c2⟩ := h.go
      rw [List.take_length] at c2
      have c3 : H' C = some (.lst ((rows2.map fun g => costN rk rf (fun _ => 1) g).map V.int)) := by
        rw [c2, List.map_map]
        rfl
      have SX : Same H H' := fun b o e => c1 _ _ (ne_of_none e nCH) (S8 _ _ e)
      refine Cut.of (fun σ H2 => Hold (∃ lv, σ = [some (.ref kl), some (.ref a), some (.ref d), some (.ref R), some v4, y5, y6, some lv, some (.ref C), y9, none] ∧ Same H' H2 ∧
        ((∃ f, lv = .int (costN rk rf (fun _ => 1) f) ∧ Poss pl f ∧ ∀ g, Poss pl g → costN rk rf (fun _ => 1) f ≤ costN rk rf (fun _ => 1) g) ∨ (lv = .non ∧ ∀ g, ¬ Poss pl g)))) ?_ (fun σ H2 hh => ?_)
      · walk_at "g"
        refine ite_d (fun c => ?_) (fun c => ?_)
        · have hp9 : 0 < (rows2.map fun g => costN rk rf (fun _ => 1) g).length := by
            rw [List.length_map] at c
            omega
          walk_at "g"
          intro m hm hle
          obtain ⟨g, hg, eg⟩ := List.mem_map.mp hm
          refine ⟨_, rfl, Same.refl _, .inl ⟨g, by rw [eg], (hG g).mp (hrows2.ok g hg), fun f hf => ?_⟩⟩
          obtain ⟨g', hg', e'⟩ := hrows2.all f ((hG f).mpr hf)
          have h1 := hle _ (List.mem_map.mpr ⟨g', hg', rfl⟩)
          have h2 : costN rk rf (fun _ => 1) g' = costN rk rf (fun _ => 1) f := cost_cong fun n hn => by
            obtain ⟨s, hs, rfl⟩ := List.mem_map.mp (hv.inN n hn)
            exact ⟨rfl, rfl, e' s hs⟩
          rw [eg]
          omega
        · walk_at "g"
          refine ⟨_, rfl, Same.refl _, .inr ⟨rfl, fun f hf => ?_⟩⟩
          obtain ⟨g', hg', e'⟩ := hrows2.all f ((hG f).mpr hf)
          have : 0 < rows2.length := List.length_pos_of_mem hg'
          rw [List.length_map, List.length_map] at c
          omega
      · obtain ⟨lv, rfl, x1, x2⟩ := hh.go
        walk_at "g"
        intro b nb
        have SY : Same H (upd H2 b (.dK [])) := (SX.trans x1).trans (same_new nb)
        have rRb : upd H2 b (.dK []) R = some (.lst ws) := same_new nb _ _ (x1 _ _ (c1 _ _ hRC1 rR8))
        have ebb : upd H2 b (.dK []) b = some (.dK []) := upd_same
        have nbH : H b = none := (SX.trans x1).free nb
        generalize upd H2 b (.dK []) = H3 at SY rRb ebb ⊢
        have hk3 : StL H3 kl pl.knots := SY _ _ hkk
        have ha3 := ha.same SY
        have hd3 := hd.same SY
        walk_at "g"
        intro H4 tb s4
        have ebb4 := s4 _ _ ebb
        have hkv : [(V.str "agree", V.bl (decide ((0 : Int) < (ws.length : Int)))), (V.str "ranges", v4), (V.str "told", V.ref tb), (V.str "least", lv)] = ([(kS "agree", V.bl (decide ((0 : Int) < (ws.length : Int)))), (kS "ranges", v4), (kS "told", .ref tb), (kS "least", lv)] : List (Key × V)).map fun kv => (kV kv.1, kv.2) := rfl
        have h15 : ([(kS "agree", V.bl (decide ((0 : Int) < (ws.length : Int)))), (kS "ranges", v4), (kS "told", .ref tb), (kS "least", lv)] : List (Key × V)).length ≤ 15 := (by decide : 4 ≤ 15)
        walk_at "g"
        exact q _ b _ lv (same_put (SY.trans s4) nbH) upd_same rfl x2
end
end M
end
-- part X10
section
set_option Elab.async false
set_option linter.all false
set_option maxRecDepth 100000
set_option maxHeartbeats 4000000
namespace M
open PySem PySem.Spec PyProof.Rows L2
local macro_rules | `(tactic| walk_at "e") => `(tactic| (first
  | exact rfl
  | assumption
  | exact upd_same
  | exact flat_strs
  | exact fd_keys
  | ((with_reducible apply same_at); assumption; walk_at "f")
  | ((with_reducible apply at_upd); assumption; walk_at "f")
  | omega))
local macro_rules | `(tactic| walk_at "n") => `(tactic| (first
  | assumption
  | omega
  | exact Nat.le_of_lt (small1000 (by first | assumption | omega))
  | exact (Nat.zero_le _ : 0 ≤ sizeLine)
  | exact (by decide : 1 ≤ sizeLine)
  | exact (by decide : 2 ≤ sizeLine)
  | exact (by decide : 3 ≤ sizeLine)
  | exact (by decide : 5 ≤ sizeLine)
  | exact (by decide : 6 ≤ sizeLine)
  | (show _ < 1000; exact of_decide_eq_true rfl)
  | exact len2 (by omega) (by omega)
  | exact small1000 (by first | assumption | omega)))
local macro_rules | `(tactic| walk_at "f") => `(tactic| (first
  | with_reducible assumption
  | ((with_reducible apply gEq); walk_at "e")
  | ((with_reducible apply gLe); walk_at "n")
  | ((with_reducible apply gLt); walk_at "n")
  | ((with_reducible apply gNot); (first | assumption | omega))
  | with_reducible exact Same.refl _
  | ((with_reducible apply tupOf); walk_at "f")
  | ((with_reducible apply lstOf); walk_at "f")
  | ((with_reducible apply gCls); assumption)
  | ((with_reducible apply gNoAttr); assumption)
  | ((with_reducible apply gIsPl); assumption)
  | ((with_reducible apply gStL); assumption)
  | ((with_reducible apply gIntD); assumption)
  | ((with_reducible apply gSqT); assumption)
  | ((with_reducible apply gSqL); assumption)
  | ((with_reducible apply tyV_l); walk_at "f")
  | ((with_reducible apply Rd.of); walk_at "f")
  | ((with_reducible apply dget_ne); assumption; assumption)
  | ((with_reducible apply dget_fd) <;> walk_at "f")
  | ((with_reducible apply dput_int) <;> walk_at "f")
  | ((with_reducible apply dput_fd) <;> walk_at "f")
  | ((with_reducible apply rd_upd); assumption; walk_at "f")
  | ((with_reducible apply same_put); walk_at "f"; assumption)
  | ((with_reducible apply sx_upd) <;> walk_at "f")
  | ((with_reducible refine Same.trans ?_ (by assumption)); walk_at "f")
  | ((with_reducible apply cmulLg); omega; omega)
  | ((with_reducible apply cmulRg); omega; omega)
  | ((with_reducible apply SameE.upd); walk_at "f")
  | ((with_reducible apply StL.same); assumption; walk_at "f")
  | ((with_reducible apply LT.same); assumption; walk_at "f")
  | ((with_reducible apply IsP.same); assumption; walk_at "f")
  | ((with_reducible apply IsPl.same); assumption; walk_at "f")
  | ((with_reducible apply IntD.same); assumption; walk_at "f")
  | ((with_reducible apply PrD.same); assumption; walk_at "f")
  | ((with_reducible apply Or.inl); walk_at "f")
  | ((with_reducible apply Or.inr); walk_at "f")))
local macro_rules | `(tactic| walk_at "g") => `(tactic| repeat (first
  | with_reducible apply And.intro
  | with_reducible apply Exists.intro
  | walk_at "f"
  | ((with_reducible apply iteT); assumption)
  | ((with_reducible apply iteF); assumption)
  | ((with_reducible apply iteD); (first | assumption | omega))
  | ((with_reducible apply iteN); (first | assumption | omega))
  | ((with_reducible apply iteD2); (first | assumption | omega))
  | ((with_reducible apply iteN2); (first | assumption | omega))
  | apply And.intro
  | apply Exists.intro))
section
variable {P : Program} {w : World} {K : PySem.W.Frag} {mg : Str → Option Value} {base : Heap}
structure A1 (H : Hp) (kl a d dp : Addr) (pl : Plt) (rk : List Str) (rf : Str → Int × Int) (pk : List Str) (pr : Str → Int) : Prop where
  kk : StL H kl pl.knots
  ss : LT sV H a pl.ss
  sm : SmallP pl
  d : PrD H d rk rf
  v : RdV pl rk rf
  sb : ∀ n ∈ rk, (rf n).1 ≤ 5 ∧ (rf n).2 ≤ 1
  p : IntD H dp pk pr
  n : pk.Nodup
  p1 : ∀ n ∈ rk, n ∈ pk ∧ 1 ≤ pr n ∧ pr n ≤ 1000000
  p2 : ∀ n ∈ pk, n ∈ rk
theorem A1.same {H H' : Hp} {kl a d dp : Addr} {pl : Plt} {rk : List Str} {rf : Str → Int × Int} {pk : List Str} {pr : Str → Int} (s : Same H H') (h : A1 H kl a d dp pl rk rf pk pr) : A1 H' kl a d dp pl rk rf pk pr :=
  { h with kk := h.kk.same s, ss := h.ss.same s, d := h.d.same s, p := h.p.same s }
theorem RdV.perm {p q : Plt} {rk : List Str} {rf : Str → Int × Int} (b : q.ss.Perm p.ss) (h : RdV p rk rf) : RdV q rk rf := ⟨h.nd, fun n hn => (b.map _).mem_iff.mpr (h.inN n hn), h.bd⟩
def wst (rk : List Str) (rf : Str → Int × Int) (pr g : Str → Int) : Int := (rk.map (cs rf pr g)).foldr max 0
theorem fmax_mem : ∀ l : List Int, l.foldr max 0 ∈ 0 :: l
  | [] => List.mem_cons_self
  | x :: l => by
    show max x (l.foldr max 0) ∈ _
    rw [Int.max_def]
    split
    · rcases List.mem_cons.mp (fmax_mem l) with e | h
      · rw [e]
        exact List.mem_cons_self
      · exact List.mem_cons_of_mem _ (List.mem_cons_of_mem _ h)
    · exact List.mem_cons_of_mem _ List.mem_cons_self
theorem fmax_le : ∀ (l : List Int) (y : Int), y ∈ 0 :: l → y ≤ l.foldr max 0
  | [], y, h => by
    rw [List.mem_singleton.mp h]
    exact Int.le_refl _
  | x :: l, y, h => by
    show y ≤ max x (l.foldr max 0)
    rcases List.mem_cons.mp h with e | h
    · exact Int.le_trans (fmax_le l y (e ▸ List.mem_cons_self)) (Int.le_max_right ..)
    · rcases List.mem_cons.mp h with e | h
      · rw [e]
        exact Int.le_max_left ..
      · exact Int.le_trans (fmax_le l y (List.mem_cons_of_mem _ h)) (Int.le_max_right ..)
theorem wst_uniq {rk : List Str} {rf : Str → Int × Int} {pr g : Str → Int} {m : Int} (h : m ∈ 0 :: rk.map (cs rf pr g)) (l : ∀ y ∈ 0 :: rk.map (cs rf pr g), y ≤ m) : m = wst rk rf pr g :=
  Int.le_antisymm (fmax_le _ _ h) (l _ (fmax_mem _))
theorem wst_nn {rk : List Str} {rf : Str → Int × Int} {pr g : Str → Int} : 0 ≤ wst rk rf pr g := fmax_le _ _ List.mem_cons_self
theorem atm_wst {rk : List Str} {rf : Str → Int × Int} {pr g : Str → Int} : AtM rk rf pr g (wst rk rf pr g) := fun n hn => fmax_le _ _ (List.mem_cons_of_mem _ (List.mem_map.mpr ⟨n, hn, rfl⟩))
theorem wst_le {rk : List Str} {rf : Str → Int × Int} {pr g : Str → Int} {w : Int} (h0 : 0 ≤ w) (h : AtM rk rf pr g w) : wst rk rf pr g ≤ w := by
  rcases List.mem_cons.mp (fmax_mem (rk.map (cs rf pr g))) with e | e
  · show List.foldr max 0 _ ≤ w
    rw [e]
    exact h0
  · obtain ⟨n, hn, e⟩ := List.mem_map.mp e
    show List.foldr max 0 _ ≤ w
    rw [← e]
    exact h n hn
theorem lack_cong {l : List Strm} {lim lim' : Str → Int × Int} {L : List Str} (e : ∀ s ∈ l, lim s.name = lim' s.name) : lackL l lim L = lackL l lim' L := by
  unfold lackL
  rw [sum_cong fun s hs => by rw [e s (List.mem_filter.mp hs).1], sum_cong (l := l.filter fun s => decide (s.head ∈ L ∧ s.tail ∉ L)) fun s hs => by rw [e s (List.mem_filter.mp hs).1]]
theorem papB_true {H : Hp} {t : Addr} {pl : Plt} {pa : Pap} {lim lim' : Str → Int × Int} (hp : PapH H t pl pa) (e : ∀ s ∈ pl.ss, lim s.name = lim' s.name) (h : papTrue pl lim' pa) : papB pl lim pa = true := by
  cases pa with
  | str n =>
    obtain ⟨s, hs, rfl⟩ := List.mem_map.mp (hp.s n rfl).2
    exact decide_eq_true (by rw [e s hs]; exact h)
  | lot L => exact decide_eq_true (by rw [lack_cong e]; exact h)
theorem papB_false {H : Hp} {t : Addr} {pl : Plt} {pa : Pap} {lim : Str → Int × Int} {f : Str → Int} (hpv : PV pl) (hp : PapH H t pl pa) (hf : Feas pl.knots pl.ss lim f) : papB pl lim pa = false := by
  cases pa with
  | str n =>
    obtain ⟨s, hs, rfl⟩ := List.mem_map.mp (hp.s n rfl).2
    refine decide_eq_false ?_
    have h1 := hf.lo s hs
    have h2 := hf.hi s hs
    omega
  | lot L =>
    obtain ⟨a, _, _, h3, _, h5⟩ := hp.l L rfl
    refine decide_eq_false ?_
    have := lack_infeasible (h5 ▸ hpv.kn.filter _) h3 hf
    omega
theorem drop_fd {ks : List Str} {g : Str → V} {n : Str} : dropK (fdV ks g) (kS n) = fdV (ks.filter fun k => decide (k ≠ n)) g := by
  unfold dropK fdV
  rw [List.filter_map]
  refine congrArg _ (List.filter_congr fun k _ => ?_)
  exact decide_eq_decide.mpr ⟨fun h e => h (congrArg kS e), fun h e => h (Sum.inr.inj e)⟩
def sp_L_law (K : PySem.W.Frag) : Sp := fun vs H Q _ => ∃ a, ∃ cs : List Int, vs = [.ref a] ∧ SqL K H a (cs.map V.int) ∧ cs.length ≤ 63 ∧ ∀ H', Q (.bl true) H'
theorem sc_L_law : FnScope ["_law_script", "_law_numbers_here", "_law_knots", "_law_streams", "_law_readings", "_law_prices", "_law_k", "_law_plant", "_law_rows", "_law_costs", "_law_worsts", "_law_told_here", "_law_worst", "_law_flows", "_law_plain", "_law_name", "_law_fewer", "_law_rest", "_law_row_here"] ["_law_script"] (defScope s_L_law) := ⟨rfl, rfl, rfl, by decide +kernel, rfl, by decide +kernel, by decide +kernel⟩
theorem okF_L_law (T : Tx K mg) {fd : FuncData} (F : FunD K "law" "law" (defArgs s_L_law) (defBody s_L_law) (defScope s_L_law) [] [] (A_L_law K) fd) : FnOk P w K mg base CX0 14 (A_L_law K) fd ["_law_script"] (sp_L_law K) := by
  refine F.ok sc_L_law (fun vs H Q E h => by
    obtain ⟨_, _, rfl, _⟩ := h
    rfl) (fun cdv A outer s H vs Q E hr h => ?_)
  obtain ⟨a0, zs, rfl, ha0, hcl, q⟩ := h
  refine ⟨_, (pss_cons (ps_set (i := 1) sc_L_law.nd rfl (Or.inl rfl) (hc (ok_L_numbers (K := K) T) (hr.mono (by decide)) T.g_L_numbers pass0 (pa_cons (pv 0) (pa_cons (pe_int) pa_nil))))
      (pss_cons (ps_asg (hc (ok_L_small (K := K) T) (hr.mono (by decide)) T.g_L_small pass0 (pa_cons (pv 1) (pa_cons (pe_int) pa_nil))) (pg_tup (by rfl) (pgs_cons (pg_name (i := 2) sc_L_law.nd rfl (Or.inl rfl)) (pgs_cons (pg_name (i := 3) sc_L_law.nd rfl (Or.inl rfl)) pgs_nil))))
      (pss_cons (ps_set (i := 4) sc_L_law.nd rfl (Or.inr rfl) (hc (ok_L_metered (K := K) T) (hr.mono (by decide)) T.g_L_metered pass0 (pa_cons (pv 1) (pa_cons (pe_int) (pa_cons (pv 3) pa_nil)))))
      (pss_cons (ps_set (i := 5) sc_L_law.nd rfl (Or.inr rfl) (pe_dnewK))
      (pss_cons (psCut (psFor (passes_of rfl) rfl (pi_range1 (by rfl) T.b_range (pa_cons (pe_callB lenL (by rfl) T.b_len (by decide +kernel) (pa_cons (pv 3) pa_nil)) pa_nil)) (pg_name (i := 6) sc_L_law.nd rfl (Or.inl rfl))
      (pss_one (ps_if (pt_cmp (pc_din (hu_of hr) (pe_ix ixT (pe_ix ixL (pv 3) (pv 6) (fun _ _ => rfl)) (pe_int) (fun _ _ => rfl)) (pv 4)))
      (pss_one (ps_dput (hu_of hr) (pv 5) (pe_ix ixT (pe_ix ixL (pv 3) (pv 6) (fun _ _ => rfl)) (pe_int) (fun _ _ => rfl)) (pe_op op_add (pe_int) (pe_op op_mod (pe_callTy intI (by rfl) T.b_int (by decide +kernel) (pa_cons (pe_ix ixL (pv 1) (pe_op op_add (pe_int) (pv 6)) (fun _ _ => rfl)) pa_nil)) (pe_ix ixL (pe_lst (pa_cons (pe_int) (pa_cons (pe_int) (pa_cons (pe_int) pa_nil)))) (pe_op op_mod (pe_callTy intI (by rfl) T.b_int (by decide +kernel) (pa_cons (pe_ix ixL (pv 1) (pe_int) (fun _ _ => rfl)) pa_nil)) (pe_int)) (fun _ _ => rfl)))) rfl))
      pss_nil))))
      (pss_cons (ps_set (i := 7) sc_L_law.nd rfl (Or.inl rfl) (hmk (ok_Plant_init (K := K) T) (hr.mono (by decide)) T.k_Plant T.g_Plant pass0 (pa_cons (pv 2) (pa_cons (pv 3) pa_nil))))
      (pss_cons (psCut (ps_set (i := 8) sc_L_law.nd rfl (Or.inl rfl) (hc (ok_L_all_flows (K := K) T) (hr.mono (by decide)) T.g_L_all_flows pass0 (pa_cons (pv 2) (pa_cons (pv 3) (pa_cons (hc (ok_L_limits (K := K) T) (hr.mono (by decide)) T.g_L_limits pass0 (pa_cons (pv 3) (pa_cons (pe_dnewK) pa_nil))) pa_nil))))))
      (pss_cons (ps_if (pt_cmpR op_eq (pe_callB lenL (by rfl) T.b_len (by decide +kernel) (pa_cons (pv 8) pa_nil)) (pe_int) (nomark _))
      (pss_one (ps_ret (pe_and (hc (ok_L_refused (K := K) T) (hr.mono (by decide)) T.g_L_refused pass0 (pa_cons (pv 7) (pa_cons (pv 4) (pa_cons (pv 5) pa_nil)))) (pe_and (pe_cmpR op_isN (hmeth (ok_Desk_answer (K := K) T) (hr.mono (by decide)) T.c_Desk T.m_Desk_answer pass0 (hmk (ok_Desk_init (K := K) T) (hr.mono (by decide)) T.k_Desk T.g_Desk pass0 (pa_cons (pv 7) (pa_cons (pv 4) pa_nil))) (pa_cons (pe_str) pa_nil)) (pe_non) (nomark _)) (pe_one (pe_cmpR op_eq (hmeth (ok_Session_obey (K := K) T) (hr.mono (by decide)) T.c_Session T.m_Session_obey pass0 (hmk (ok_Session_init (K := K) T) (hr.mono (by decide)) T.k_Session T.g_Session pass0 (pa_cons (pv 7) (pa_cons (pv 4) pa_nil))) (pa_cons (pe_str) pa_nil)) (pe_str) (nomark _)))))))
      pss_nil)
      (pss_cons (ps_setLc (i := 9) (own := [("_law_row_here", 18)]) (g := (gName 18)) rfl sc_L_law.nd rfl rfl (sw_true rfl rfl rfl (by decide +kernel)) (pi_list (pv 8)) (blkOk_by (own := [("_law_row_here", 18)]) (N := ["_law_script", "_law_numbers_here", "_law_knots", "_law_streams", "_law_readings", "_law_prices", "_law_k", "_law_plant", "_law_rows", "_law_costs", "_law_worsts", "_law_told_here", "_law_worst", "_law_flows", "_law_plain", "_law_name", "_law_fewer", "_law_rest", "_law_row_here"]) (sc := defScope s_L_law) (by decide +kernel)) (fun _ _ _ _ _ => (pg_name (i := 18) sc_L_law.nd rfl (Or.inr rfl))) (fun _ _ _ _ _ => pts_nil) (fun _ _ _ _ _ => (pe_callB (sumL rfl) (by rfl) T.b_sum (by decide +kernel) (pa_cons (peLockN 4 (pe_lc (wi := iKeysM (tVar 4)) (own := [("_law_name", 15)]) (g := (gName 15)) rfl sc_L_law.nd (piKeys (pv 4)) (blkOk_by (own := [("_law_name", 15)]) (N := ["_law_script", "_law_numbers_here", "_law_knots", "_law_streams", "_law_readings", "_law_prices", "_law_k", "_law_plant", "_law_rows", "_law_costs", "_law_worsts", "_law_told_here", "_law_worst", "_law_flows", "_law_plain", "_law_name", "_law_fewer", "_law_rest", "_law_row_here"]) (by kernel_rfl)) (fun _ _ _ _ _ => (pg_name (i := 15) sc_L_law.nd rfl (Or.inl rfl))) (fun _ _ _ _ _ => pts_nil) (fun _ _ _ _ _ => (pe_op op_mul (pe_dget (hu_of hr) (pv 5) (pv 15) (fun _ _ => rfl)) (hc (ok_L_over (K := K) T) (hr.mono (by decide)) T.g_L_over pass0 (pa_cons (pe_dget (hu_of hr) (pv 4) (pv 15) (fun _ _ => rfl)) (pa_cons (pe_dget (hu_of hr) (pv 18) (pv 15) (fun _ _ => rfl)) pa_nil))))))) pa_nil))))
      (pss_cons (psCut (ps_setLc (i := 10) (own := [("_law_row_here", 18)]) (g := (gName 18)) rfl sc_L_law.nd rfl rfl (sw_true rfl rfl rfl (by decide +kernel)) (pi_list (pv 8)) (blkOk_by (own := [("_law_row_here", 18)]) (N := ["_law_script", "_law_numbers_here", "_law_knots", "_law_streams", "_law_readings", "_law_prices", "_law_k", "_law_plant", "_law_rows", "_law_costs", "_law_worsts", "_law_told_here", "_law_worst", "_law_flows", "_law_plain", "_law_name", "_law_fewer", "_law_rest", "_law_row_here"]) (sc := defScope s_L_law) (by decide +kernel)) (fun _ _ _ _ _ => (pg_name (i := 18) sc_L_law.nd rfl (Or.inr rfl))) (fun _ _ _ _ _ => pts_nil) (fun _ _ _ _ _ => (pe_callB (maxL rfl) (by rfl) T.b_max (by decide +kernel) (pa_cons (pe_op op_cat (pe_lst (pa_cons (pe_int) pa_nil)) (peLockN 4 (pe_lc (wi := iKeysM (tVar 4)) (own := [("_law_name", 15)]) (g := (gName 15)) rfl sc_L_law.nd (piKeys (pv 4)) (blkOk_by (own := [("_law_name", 15)]) (N := ["_law_script", "_law_numbers_here", "_law_knots", "_law_streams", "_law_readings", "_law_prices", "_law_k", "_law_plant", "_law_rows", "_law_costs", "_law_worsts", "_law_told_here", "_law_worst", "_law_flows", "_law_plain", "_law_name", "_law_fewer", "_law_rest", "_law_row_here"]) (by kernel_rfl)) (fun _ _ _ _ _ => (pg_name (i := 15) sc_L_law.nd rfl (Or.inl rfl))) (fun _ _ _ _ _ => pts_nil) (fun _ _ _ _ _ => (pe_op op_mul (pe_dget (hu_of hr) (pv 5) (pv 15) (fun _ _ => rfl)) (hc (ok_L_over (K := K) T) (hr.mono (by decide)) T.g_L_over pass0 (pa_cons (pe_dget (hu_of hr) (pv 4) (pv 15) (fun _ _ => rfl)) (pa_cons (pe_dget (hu_of hr) (pv 18) (pv 15) (fun _ _ => rfl)) pa_nil)))))))) pa_nil)))))
      (pss_cons (ps_set (i := 11) sc_L_law.nd rfl (Or.inl rfl) (hc (ok_least_flows (K := K) T) (hr.mono (by decide)) T.g_least_flows passL (pa_cons (pv 7) (pa_cons (pv 4) (pa_cons (pv 5) pa_nil)))))
      (pss_cons (psCut (ps_set (i := 12) sc_L_law.nd rfl (Or.inl rfl) (hc (ok_least_worst (K := K) T) (hr.mono (by decide)) T.g_least_worst passL (pa_cons (pv 7) (pa_cons (pv 4) (pa_cons (pv 5) pa_nil))))))
      (pss_cons (ps_if (PW.pt (pw_or (pt_cmpR op_ne (fld T.c_Least T.n_Least_cost (pv 11)) (pe_callB (minL rfl) (by rfl) T.b_min (by decide +kernel) (pa_cons (pv 9) pa_nil)) (nomark _)) (pw_or (pt_cmpR op_ne (fld T.c_Worst T.n_Worst_number (pv 12)) (pe_callB (minL rfl) (by rfl) T.b_min (by decide +kernel) (pa_cons (pv 10) pa_nil)) (nomark _)) (pw_or1 (pt_cmpR op_ne (hc (ok_cost_of (K := K) T) (hr.mono (by decide)) T.g_cost_of pass0 (pa_cons (pv 4) (pa_cons (pv 5) (pa_cons (fld T.c_Least T.n_Least_flows (pv 11)) pa_nil)))) (fld T.c_Least T.n_Least_cost (pv 11)) (nomark _))))))
      (pss_one (ps_ret (pe_bl)))
      pss_nil)
      (pss_cons (psCut (ps_if (pt_cmpR op_ne (hc (ok_worst_of (K := K) T) (hr.mono (by decide)) T.g_worst_of pass0 (pa_cons (pv 4) (pa_cons (pv 5) (pa_cons (fld T.c_Worst T.n_Worst_flows (pv 12)) pa_nil)))) (fld T.c_Worst T.n_Worst_number (pv 12)) (nomark _))
      (pss_one (ps_ret (pe_bl)))
      pss_nil))
      (pss_cons (psFor (passes_of rfl) rfl (pi_list (pe_lst (pa_cons (fld T.c_Least T.n_Least_flows (pv 11)) (pa_cons (fld T.c_Worst T.n_Worst_flows (pv 12)) pa_nil)))) (pg_name (i := 13) sc_L_law.nd rfl (Or.inl rfl))
      (pss_one (ps_if (PW.pt (pw_or (pt_cmpR op_notBl (hc (ok_is_balanced (K := K) T) (hr.mono (by decide)) T.g_is_balanced pass0 (pa_cons (pv 7) (pa_cons (pv 13) pa_nil))) (pe_bl) (nomark _)) (pw_or1 (pt_cmpR op_notBl (hc (ok_is_within (K := K) T) (hr.mono (by decide)) T.g_is_within pass0 (pa_cons (pv 7) (pa_cons (pv 13) pa_nil))) (pe_bl) (nomark _)))))
      (pss_one (ps_ret (pe_bl)))
      pss_nil)))
      (pss_cons (ps_if (PW.pt (pw_or (pt_cmpR op_notBl (hc (ok_shows_cost (K := K) T) (hr.mono (by decide)) T.g_shows_cost pass0 (pa_cons (pv 7) (pa_cons (pv 4) (pa_cons (pv 5) (pa_cons (fld T.c_Least T.n_Least_heights (pv 11)) (pa_cons (fld T.c_Least T.n_Least_cost (pv 11)) pa_nil)))))) (pe_bl) (nomark _)) (pw_or1 (pt_cmpR op_notBl (hc (ok_shows_cost (K := K) T) (hr.mono (by decide)) T.g_shows_cost pass0 (pa_cons (pv 7) (pa_cons (pv 4) (pa_cons (pv 5) (pa_cons (fld T.c_Least T.n_Least_heights (pv 11)) (pa_cons (pe_op op_add (fld T.c_Least T.n_Least_cost (pv 11)) (pe_int)) pa_nil)))))) (pe_bl) (nomark _)))))
      (pss_one (ps_ret (pe_bl)))
      pss_nil)
      (pss_cons (psCut (ps_if (PW.pt (pw_or (pt_cmpR op_notBl (hc (ok_shows_worst (K := K) T) (hr.mono (by decide)) T.g_shows_worst pass0 (pa_cons (pv 7) (pa_cons (pv 4) (pa_cons (pv 5) (pa_cons (fld T.c_Worst T.n_Worst_number (pv 12)) (pa_cons (fld T.c_Worst T.n_Worst_paper (pv 12)) pa_nil)))))) (pe_bl) (nomark _)) (pw_or1 (pt_cmpR op_notBl (hc (ok_shows_worst (K := K) T) (hr.mono (by decide)) T.g_shows_worst pass0 (pa_cons (pv 7) (pa_cons (pv 4) (pa_cons (pv 5) (pa_cons (pe_op op_add (fld T.c_Worst T.n_Worst_number (pv 12)) (pe_int)) (pa_cons (fld T.c_Worst T.n_Worst_paper (pv 12)) pa_nil)))))) (pe_bl) (nomark _)))))
      (pss_one (ps_ret (pe_bl)))
      pss_nil))
      (pss_cons (psCut (ps_if (PW.pt (pw_or (pt_cmpR op_ne (pe_cmpR op_eq (fld T.c_Least T.n_Least_cost (pv 11)) (pe_int) (nomark _)) (pe_cmpR op_notN (hc (ok_flows_of (K := K) T) (hr.mono (by decide)) T.g_flows_of pass0 (pa_cons (pv 7) (pa_cons (pv 4) pa_nil))) (pe_non) (nomark _)) (nomark _)) (pw_or1 (pt_cmpR op_ne (pe_cmpR op_eq (fld T.c_Worst T.n_Worst_number (pv 12)) (pe_int) (nomark _)) (pe_cmpR op_eq (fld T.c_Least T.n_Least_cost (pv 11)) (pe_int) (nomark _)) (nomark _)))))
      (pss_one (ps_ret (pe_bl)))
      pss_nil))
      (pss_cons (ps_set (i := 14) sc_L_law.nd rfl (Or.inl rfl) (pe_dget (hu_of hr) (hc (ok_L_answers (K := K) T) (hr.mono (by decide)) T.g_L_answers pass0 (pa_cons (pv 2) (pa_cons (pv 3) (pa_cons (pv 4) pa_nil)))) (pe_str) (fun _ _ => rfl)))
      (pss_cons (psCut (ps_if (PW.pt (pw_or (pt_cmpR op_ne (hmeth (ok_Desk_answer (K := K) T) (hr.mono (by decide)) T.c_Desk T.m_Desk_answer pass0 (hmk (ok_Desk_init (K := K) T) (hr.mono (by decide)) T.k_Desk T.g_Desk pass0 (pa_cons (pv 7) (pa_cons (pv 4) pa_nil))) (pa_cons (pe_str) pa_nil)) (pv 14) (nomark _)) (pw_or1 (pt_cmpR op_ne (hmeth (ok_Session_obey (K := K) T) (hr.mono (by decide)) T.c_Session T.m_Session_obey pass0 (hmk (ok_Session_init (K := K) T) (hr.mono (by decide)) T.k_Session T.g_Session pass0 (pa_cons (pv 7) (pa_cons (pv 4) pa_nil))) (pa_cons (pe_str) pa_nil)) (pe_callTy (call_str_int.or SkE.call_str_str) (by rfl) T.b_str (by decide +kernel) (pa_cons (pv 14) pa_nil)) (nomark _)))))
      (pss_one (ps_ret (pe_bl)))
      pss_nil))
      (pss_cons (psFor (passes_of rfl) rfl (pi_list (pe_slice slL (pe_callB (call_sortedD rfl) (by rfl) T.b_sorted (by decide +kernel) (pa_cons (pv 4) pa_nil)) po_none (po_some (pe_int)))) (pg_name (i := 15) sc_L_law.nd rfl (Or.inl rfl))
      (pss_cons (ps_set (i := 16) sc_L_law.nd rfl (Or.inl rfl) (pe_callTy call_dictD (by rfl) T.b_dict (by decide +kernel) (pa_cons (pv 4) pa_nil)))
      (pss_cons (ps_expr (pe_dpop1 (pv 16) (pv 15) ⟨rfl, rfl, rfl, rfl⟩))
      (pss_cons (ps_set (i := 17) sc_L_law.nd rfl (Or.inl rfl) (pe_callTy call_dictD (by rfl) T.b_dict (by decide +kernel) (pa_cons (pv 5) pa_nil)))
      (pss_cons (ps_expr (pe_dpop1 (pv 17) (pv 15) ⟨rfl, rfl, rfl, rfl⟩))
      (pss_one (ps_if (PW.pt (pw_or (pt_cmpR op_gt (fld T.c_Least T.n_Least_cost (hc (ok_least_flows (K := K) T) (hr.mono (by decide)) T.g_least_flows passL (pa_cons (pv 7) (pa_cons (pv 16) (pa_cons (pv 17) pa_nil))))) (fld T.c_Least T.n_Least_cost (pv 11)) (nomark _)) (pw_or1 (pt_cmpR op_gt (fld T.c_Worst T.n_Worst_number (hc (ok_least_worst (K := K) T) (hr.mono (by decide)) T.g_least_worst passL (pa_cons (pv 7) (pa_cons (pv 16) (pa_cons (pv 17) pa_nil))))) (fld T.c_Worst T.n_Worst_number (pv 12)) (nomark _)))))
      (pss_one (ps_ret (pe_bl)))
      pss_nil)))))))
      (pss_one (ps_ret (pe_bl)))))))))))))))))))))))), ?_⟩
  walk_at "g"
  intro H1 nb ns s1 hnl hnr enb
  walk_at "g"
  intro H2 t kl a pl s2 et hkk ha hsm
  obtain ⟨us, ha1, ha2⟩ := ha.ex
  have hpv := hsm.v
  have hs5 := hsm.s
  have hnn : (pl.ss.map (·.name)).Nodup := hpv.nn
  have hul := ha2.length
  have enb2 := s2 _ _ enb
  walk_at "g"
  intro H3 d rk rf s3 nd hd hrn hrm hrb
  walk_at "g"
  intro dp n_dp; generalize hG : upd H3 dp _ = H4; have s_H4 : Same H3 H4 := nw_same n_dp hG; have e_dp := nw_at hG; clear hG
  have ha4 : H4 a = some (.lst us) := s_H4 _ _ (s3 _ _ ha1)
  have hvR : RdV pl rk rf := ⟨hrn, hrm, fun n hn => by
    obtain ⟨b1, b2, b3, b4⟩ := hrb n hn
    exact ⟨b1, by omega, b3, by omega⟩⟩
  have S24 : Same H2 H4 := s3.trans s_H4
  walk_at "g"
  refine Cut.of (fun σ H' => Hold (∃ y1 y6 pk pr, σ = [some (.ref a0), y1, some (.ref kl), some (.ref a), some (.ref d), some (.ref dp), y6, none, none, none, none, none, none, none, none, none, none, none, none] ∧ A1 H' kl a d dp pl rk rf pk pr)) ?_ (fun σ H5 hh => ?_)
  · walk_at "g"
    refine ⟨forG (wk_range (lo := 0) (n := (us.length : Int).toNat)) (fun i σ H' => Hold (∃ y6, ∃ pk : List Str, ∃ pr : Str → Int, σ = [some (.ref a0), some (.ref nb), some (.ref kl), some (.ref a), some (.ref d), some (.ref dp), y6, none, none, none, none, none, none, none, none, none, none, none, none] ∧ SameE dp H4 H' ∧ IntD H' dp pk pr ∧ pk.Nodup ∧ (∀ n ∈ pk, n ∈ (pl.ss.take i).map (·.name) ∧ n ∈ rk ∧ 1 ≤ pr n ∧ pr n ≤ 1000) ∧ (∀ n ∈ (pl.ss.take i).map (·.name), n ∈ rk → n ∈ pk)))
      ⟨none, [], fun _ => 0, rfl, SameE.refl, e_dp, List.nodup_nil, (fun n h => nomatch h), (fun n h => nomatch h)⟩ (fun i σ H' _ h => trivial) (fun i x v σ Ha Hb ex h s5 hv2 => ?_) (fun σ H' h => ?_)⟩
    · obtain ⟨y6, pk, pr, rfl, t1, t2, t3, t4, t5⟩ := h.go
      subst hv2
      have hi := (List.getElem?_eq_some_iff.mp ex).1
      have hx : x = i := by
        have := (List.getElem?_eq_some_iff.mp ex).2
        rw [List.getElem_range] at this
        exact this.symm
      subst hx
      rw [List.length_range] at hi
      have hi : x < pl.ss.length := by omega
      have es : pl.ss[x]? = some pl.ss[x] := List.getElem?_eq_getElem hi
      generalize pl.ss[x] = s at es
      have hs : s ∈ pl.ss := List.mem_of_getElem? es
      obtain ⟨v, ev, t, rfl, ht⟩ := ha2.get es
      have u1 : SameE dp H4 Hb := t1.trans (.of s5)
      have hne : ∀ {b o}, H2 b = some o → b ≠ dp := fun e => ne_of_none (s3 _ _ e) n_dp
      have k2 : ∀ {b o}, H2 b = some o → Hb b = some o := fun e => u1 _ _ (hne e) (S24 _ _ e)
      have haB := k2 ha1
      have htB := k2 ht
      have hnB := k2 enb2
      obtain ⟨r, hd1, hd2⟩ := hd.ex
      have hdd : d ≠ dp := ne_of_none hd1 n_dp
      have hdB : Rd Hb d (.dK (fdV rk fun k => .ref (r k))) := .inl (u1 _ _ hdd (s_H4 _ _ hd1))
      have t2B : Hb dp = some (.dK (fdV pk fun k => .int (pr k))) := s5 _ _ t2
      have atS : atI us (0 + (x : Int)) = some (.ref t) := by
        rw [Int.zero_add]
        exact atI_nat ev
      have atN : atI (sV s) (0 : Int) = some (.str s.name) := atI_nat (j := 0) rfl
      have hnt : s.name ∉ pk := fun z => by
        obtain ⟨s', hs', e⟩ := List.mem_map.mp (t4 _ z).1
        exact take_notin hnn es s' hs' e
      have tkn : (pl.ss.take (x + 1)).map (·.name) = (pl.ss.take x).map (·.name) ++ [s.name] := by rw [take_snoc es, List.map_append]; rfl
      have hpl : pk.length ≤ 1000 := by
        have := nodup_le t3 fun n hn => (t4 n hn).1
        rw [List.length_map, List.length_take] at this
        omega
      by_cases c : s.name ∈ rk
      · have g1 : DGet Hb d (.str s.name) (some (.ref (r s.name))) := dget_fd (g := fun k => V.ref (r k)) hdB c
        obtain ⟨w0, n0, c0⟩ := at_ints (ns := ns) (i := 44 + (0 + (x : Int))) (by omega) (by omega)
        obtain ⟨w1, n1, c1⟩ := at_ints (ns := ns) (i := 50) (by omega) (by omega)
        have p3 : (0 : Int) < 3 := by decide
        obtain ⟨m, m1, c2⟩ := at_ints (ns := [1, 5, 1000]) (i := w1 % 3) (emod_in w1 p3).1 (emod_in w1 p3).2
        have hm : m = 1 ∨ m = 5 ∨ m = 1000 := by simpa using m1
        have pm : 0 < m := by omega
        have hz3 : [V.int 1, V.int 5, V.int 1000].length ≤ sizeLine := (by decide : 3 ≤ sizeLine)
        walk_at "g"
        intro L0 n_L0; generalize hG : upd Hb L0 _ = Hc; have s_Hc : Same Hb Hc := nw_same n_L0 hG; have e_L0 := nw_at hG; clear hG
        have e_L1 : Hc L0 = some (.lst (([1, 5, 1000] : List Int).map V.int)) := e_L0
        have hnC := s_Hc _ _ hnB
        have haC := s_Hc _ _ haB
        have htC := s_Hc _ _ htB
        have t2C := s_Hc _ _ t2B
        have hput : DPut Hc dp (.str s.name) (.int (1 + w0 % m)) (upd Hc dp (.dK (fdV (pk ++ [s.name]) fun k => .int (up pr s.name (1 + w0 % m) k)))) := by
          have := dput_new (v := .int (1 + w0 % m)) t2C hnt hpl
          rw [up_int] at this
          exact this
        walk_at "g"
        refine ⟨_, pk ++ [s.name], up pr s.name (1 + w0 % m), rfl, (u1.trans (.of s_Hc)).upd, upd_same, nodup_snoc t3 hnt, fun n hn => ?_, fun n hn hr => ?_⟩
        · by_cases e : n = s.name
          · subst e
            rw [up_same, tkn]
            have e9 := emod_in w0 pm
            exact ⟨List.mem_append_right _ (List.mem_singleton.mpr rfl), c, by omega, by omega⟩
          · rw [up_ne e, tkn]
            obtain ⟨a1, a2⟩ := t4 n ((List.mem_append.mp hn).resolve_right fun h => e (List.mem_singleton.mp h))
            exact ⟨List.mem_append_left _ a1, a2⟩
        · rw [tkn] at hn
          rcases List.mem_append.mp hn with hn | hn
          · exact List.mem_append_left _ (t5 n hn hr)
          · exact List.mem_append_right _ hn
      · have g1 : DGet Hb d (.str s.name) none := dget_fd0 (g := fun k => V.ref (r k)) hdB c
        walk_at "g"
        refine ⟨_, pk, pr, rfl, u1, t2B, t3, fun n hn => ?_, fun n hn hr => ?_⟩
        · obtain ⟨a1, a2⟩ := t4 n hn
          rw [tkn]
          exact ⟨List.mem_append_left _ a1, a2⟩
        · rw [tkn] at hn
          rcases List.mem_append.mp hn with hn | hn
          · exact t5 n hn hr
          · exact absurd (List.mem_singleton.mp hn ▸ hr) c
    · obtain ⟨y6, pk, pr, rfl, t1, t2, t3, t4, t5⟩ := h.go
      have el : (List.range (us.length : Int).toNat).length = pl.ss.length := by
        rw [List.length_range]
        omega
      rw [el, List.take_length] at t4 t5
      have hne : ∀ {b o}, H2 b = some o → b ≠ dp := fun e => ne_of_none (s3 _ _ e) n_dp
      have k2 : ∀ {b o}, H2 b = some o → H' b = some o := fun e => t1 _ _ (hne e) (S24 _ _ e)
      obtain ⟨r, hd1, hd2⟩ := hd.ex
      have k3 : ∀ {b o}, H3 b = some o → H' b = some o := fun e => t1 _ _ (ne_of_none e n_dp) (s_H4 _ _ e)
      exact ⟨_, _, pk, pr, rfl, k2 hkk, ⟨us, k2 ha1, ha2.imp fun x v ⟨t, e, r⟩ => ⟨t, e, k2 r⟩⟩, hsm, ⟨r, k3 hd1, fun n hn => k3 (hd2 n hn)⟩, hvR, fun n hn => ⟨(hrb n hn).2.1, (hrb n hn).2.2.2⟩, t2, t3, fun n hn => by
        have h1 := t5 n (hrm n hn) hn
        obtain ⟨_, _, a3, a4⟩ := t4 n h1
        exact ⟨h1, a3, by omega⟩, fun n hn => (t4 n hn).2.1⟩
  · obtain ⟨y1, y6, pk, pr, rfl, h1⟩ := hh.go
    clear hh S24 ha4 s_H4 e_dp n_dp hrb hvR hrm hrn hd nd s3 enb2 hul ha1 ha2 hkk ha et s2 enb hnr hnl s1 ha0 hcl
    have hs5 := h1.sm.s
    have hk4 := h1.sm.k
    have hpv := h1.sm.v
    have hss := h1.ss
    have hkk := h1.kk
    have hnn : (pl.ss.map (·.name)).Nodup := hpv.nn
    walk_at "g"
    intro p dxp np ndp nep
    have hn5 : Same H5 (upd (upd H5 dxp (.own p)) p (.ins (C_Plant K) dxp [])) := fun b o e => by
      rw [upd_ne (ne_of_none e np), upd_ne (ne_of_none e ndp)]
      exact e
    have hss5 := hss.same hn5
    have hkk5 : StL (upd (upd H5 dxp (.own p)) p (.ins (C_Plant K) dxp [])) kl pl.knots := hn5 _ _ hkk
    walk_at "g"
    intro H6 pn kp sp2 sE hpk hps hpso hO
    have S6 : Same H5 H6 := made np ndp sE
    have h6 := h1.same S6
    have hPl : IsPl K H6 p pn := ⟨_, _, _, hO⟩
    have hss6 := h6.ss
    refine ⟨rfl, ?_⟩
    refine Cut.of (fun σ H' => Hold (∃ y1 y6 R, ∃ rows : List (Str → Int), σ = [some (.ref a0), y1, some (.ref kl), some (.ref a), some (.ref d), some (.ref dp), y6, some (.ref p), some (.ref R), none, none, none, none, none, none, none, none, none, none] ∧ A1 H' kl a d dp pl rk rf pk pr ∧ IsPl K H' p pn ∧ RL H' R (pl.ss.map (·.name)) rows ∧ rows.length ≤ 243 ∧ (∀ g ∈ rows, Poss pl g) ∧ (∀ f, Poss pl f → ∃ g ∈ rows, ∀ s ∈ pl.ss, g s.name = f s.name))) ?_ (fun σ H7 hh => ?_)
    · walk_at "g"
      intro e0 n_e0; generalize hG : upd H6 e0 _ = H7; have s_H7 : Same H6 H7 := nw_same n_e0 hG; have e_e0 := nw_at hG; clear hG
      have hss7 := hss6.same s_H7
      have he : PrD H7 e0 [] rf := ⟨fun _ => 0, e_e0, fun k h => (nomatch h)⟩
      walk_at "g"
      intro H8 b2 lim2 s8 nb2 hl2 hL2
      have hl2 : ∀ s ∈ pl.ss, lim2 s.name = (s.low, s.high) := fun s hs => hl2 s hs
      have hlim2 : ∀ s ∈ pl.ss, 0 ≤ (lim2 s.name).1 ∧ (lim2 s.name).1 ≤ 1000 ∧ (lim2 s.name).2 ≤ (lim2 s.name).1 + 2 ∧ -1000 ≤ (lim2 s.name).2 := fun s hs => by
        rw [hl2 s hs]
        obtain ⟨b1, b2, b3⟩ := hpv.bd s hs
        obtain ⟨c1, c2⟩ := h1.sm.h s hs
        simp only
        omega
      have hss8 := hss7.same s8
      walk_at "g"
      intro H9 R rows s9 nR hRL hrows hrn
      have S9 : Same H6 H9 := s_H7.trans (s8.trans s9)
      have hG : ∀ f, Good pl.ss [] lim2 f ↔ Poss pl f := fun f => (good_end hpv.tk hpv.hk).trans (feas_base hl2)
      exact ⟨_, _, R, rows, rfl, h6.same S9, hPl.same S9, hRL, hrn, fun g hg => (hG g).mp (hrows.ok g hg), fun f hf => hrows.all f ((hG f).mpr hf)⟩
    · obtain ⟨y1, y6, R, rows, rfl, h2, hPl2, hRL, hrl, hr1, hr2⟩ := hh.go
      clear hh hPl hss6 h6 S6 hO sE hkk5 hss5 hn5 nep ndp np hss hkk h1
      have hPos : ∀ f, Poss pn f ↔ Poss pl f := fun f => ⟨Poss.perm hpk.symm hps.symm, Poss.perm hpk hps⟩
      have hpv2 : PV pn := hpv.perm hpk hps
      have hv2 : RdV pn rk rf := h2.v.perm hps
      obtain ⟨ws, r1, r2⟩ := hRL.ex
      have hd2 := h2.d
      have hp2 := h2.p
      have hk1 := h2.p1
      have hk2 := h2.p2
      have kD := T.c_Desk
      have kS1 := T.c_Session
      walk_at "g"
      refine ite_d (fun c => ?_) (fun c => ?_)
      · have hno : ∀ g, ¬ Poss pn g := fun g hg => by
          obtain ⟨g', hg', _⟩ := hr2 g ((hPos g).mp hg)
          have : 0 < rows.length := List.length_pos_of_mem hg'
          have := V.int.inj c
          rw [r2.length] at this
          omega
        walk_at "g"
        intro H8 s8
        have hP8 := hPl2.same s8
        have hd8 := hd2.same s8
        walk_at "g"
        intro x dx nx ndx nex
        have hn : Same H8 (upd (upd H8 dx (.own x)) x (.ins (C_Desk K) dx [])) := fun b o e => by
          rw [upd_ne (ne_of_none e nx), upd_ne (ne_of_none e ndx)]
          exact e
        have hP9 := hP8.same hn
        have hd9 := hd8.same hn
        walk_at "g"
        intro H9 kn sE hD nk
        have S9 : Same H8 H9 := made nx ndx sE
        have nk8 := upd_none (upd_none nk)
        obtain ⟨dx', st, t1, t2, d', hob, _⟩ := hD.ob
        refine ⟨rfl, ?_⟩
        walk_at "g"
        · intro H10 f _ ps _
          exact absurd ps (hno f)
        · intro H10 s10 _
          have S10 : Same H8 H10 := fun b o e => s10 _ _ (ne_of_none e nk8) (S9 _ _ e)
          have hP10 := hP8.same S10
          have hd10 := hd8.same S10
          walk_at "g"
          intro x2 dx2 nx2 ndx2 nex2
          have hn2 : Same H10 (upd (upd H10 dx2 (.own x2)) x2 (.ins (C_Session K) dx2 [])) := fun b o e => by
            rw [upd_ne (ne_of_none e nx2), upd_ne (ne_of_none e ndx2)]
            exact e
          have hP11 := hP10.same hn2
          have hd11 := hd10.same hn2
          walk_at "g"
          intro H11 kn2 sE2 hS nk2
          have S11 : Same H10 H11 := made nx2 ndx2 sE2
          have nk11 := upd_none (upd_none nk2)
          obtain ⟨dxs, dk, hos, _⟩ := hS.ob
          refine ⟨rfl, ?_⟩
          walk_at "g"
          · intro H12 f _ ps _
            exact absurd ps (hno f)
          · intro H12 s12 _
            walk_at "g"
            exact q _
      · have hne : rows ≠ [] := fun e => by
          subst e
          cases r2
          exact c rfl
        have hR7 : H7 R = some (.lst ws) := r1
        obtain ⟨r, hd21, hd22⟩ := hd2.ex
        have hrk5 := h2.v.ln hpv
        have hno : ¬ (∀ g, ¬ Poss pn g) := fun hx => by
          obtain ⟨g, hg⟩ := List.exists_mem_of_ne_nil rows hne
          exact hx g ((hPos g).mpr (hr1 g hg))
        walk_at "g"
        intro D9 hD9
        refine lcV (RL.wk (R := R) (ws := ws) (rows := rows) (ks := pl.ss.map (·.name))) (fun g => some (costN rk rf pr g)) V.int hD9 ⟨lstOf hR7, r2⟩ (by omega) (fun j g v H8 Ky Kn eg sm _ hv3 ky kn => ?_) (fun H8 s8 eD9 => ?_)
        · obtain ⟨d1, rfl, hd1'⟩ := hv3
          have hdb := sm _ _ hd21
          have hpb : H8 dp = some (.dK (fdV pk fun k => .int (pr k))) := sm _ _ hp2
          walk_at "g"
          intro od
          generalize hG : upd H8 d _ = H0
          have e0 := nw_at hG
          have g1 : Rd H0 d1 (.dK (fdV (pl.ss.map (·.name)) fun k => .int (g k))) := hG ▸ rd_lock hdb trivial (.inl hd1')
          have g2 : Rd H0 dp (.dK (fdV pk fun k => .int (pr k))) := hG ▸ rd_lock hdb trivial (.inl hpb)
          have g3 : ∀ n ∈ rk, H0 (r n) = some (.tup [.int (rf n).1, .int (rf n).2]) := fun n hn => hG ▸ lock_ne hdb (sm _ _ (hd22 n hn)) (fun e => by cases e)
          have s0 : ∀ {H'}, Same H0 H' → Same H8 (upd H' d (.dK (fdV rk fun k => .ref (r k)))) := fun s => same_unlock hdb (hG ▸ s)
          clear hG
          walk_at "g"
          intro D hD
          refine lcK (fun n => some (cs rf pr g n)) V.int hD e0 (by omega) (fun n v Ha Ky Kn hn s hfz hvv ky kn => ?_) (fun Ha s1 eD => ?_)
          · subst hvv
            have hnn2 : n ∈ pl.ss.map (·.name) := h2.v.inN n hn
            obtain ⟨hnp, hnp1, hnp2⟩ := hk1 n hn
            have u1 : Rd Ha d (.dK (fdV rk fun k => .ref (r k))) := .inr ⟨_, hfz⟩
            have u2 := same_rd s g1
            have u3 := same_rd s g2
            have u4 := s _ _ (g3 n hn)
            walk_at "g"
            exact ky _ _ (Same.refl _) rfl
          · have f1 := s1 _ _ e0
            have hDd : D ≠ d := (ne_of_none e0 hD).symm
            have sm2 := s0 s1
            rw [fm_map] at eD
            have eD' := at_upd (o := .dK (fdV rk fun k => .ref (r k))) hDd eD
            refine ⟨f1, ?_⟩
            generalize upd Ha d _ = Hb at sm2 eD' ⊢
            walk_at "g"
            exact ky _ _ sm2 rfl
        rw [fm_map] at eD9
        walk_at "g"
        refine Cut.of (fun σ H' => Hold (∃ DW, σ = [some (.ref a0), y1, some (.ref kl), some (.ref a), some (.ref d), some (.ref dp), y6, some (.ref p), some (.ref R), some (.ref D9), some (.ref DW), none, none, none, none, none, none, none, none] ∧ Same H8 H' ∧ H' DW = some (.lst ((rows.map fun g => wst rk rf pr g).map V.int)))) ?_ (fun σ H9 hh => ?_)
        · have hR8 := s8 _ _ r1
          have hd81 := s8 _ _ hd21
          have hp8 := s8 _ _ hp2
          walk_at "g"
          intro DW hDW
          refine lcV (RL.wk (R := R) (ws := ws) (rows := rows) (ks := pl.ss.map (·.name))) (fun g => some (wst rk rf pr g)) V.int hDW ⟨lstOf hR8, r2.imp fun g v ⟨d, e, r⟩ => ⟨d, e, r.same s8⟩⟩ (by omega) (fun j g v H9 Ky Kn eg sm _ hv3 ky kn => ?_) (fun H9 s9 eDW => ?_)
          · obtain ⟨d1, rfl, hd1'⟩ := hv3
            walk_at "g"
            intro z n_z; generalize hG : upd H9 z _ = H10; have s_H10 : Same H9 H10 := nw_same n_z hG; have e_z := nw_at hG; clear hG
            have S10 := sm.trans s_H10
            have hdb := S10 _ _ hd81
            have hpb : H10 dp = some (.dK (fdV pk fun k => .int (pr k))) := S10 _ _ hp8
            have hd1n := s_H10 _ _ hd1'
            walk_at "g"
            intro od
            generalize hG : upd H10 d _ = H0
            have e0 := nw_at hG
            have g1 : Rd H0 d1 (.dK (fdV (pl.ss.map (·.name)) fun k => .int (g k))) := hG ▸ rd_lock hdb trivial (.inl hd1n)
            have g2 : Rd H0 dp (.dK (fdV pk fun k => .int (pr k))) := hG ▸ rd_lock hdb trivial (.inl hpb)
            have g3 : ∀ n ∈ rk, H0 (r n) = some (.tup [.int (rf n).1, .int (rf n).2]) := fun n hn => hG ▸ lock_ne hdb (S10 _ _ (s8 _ _ (hd22 n hn))) (fun e => by cases e)
            have g4 : H0 z = some (.lst [.int 0]) := hG ▸ lock_ne hdb e_z (fun e => by cases e)
            have s0 : ∀ {H'}, Same H0 H' → Same H10 (upd H' d (.dK (fdV rk fun k => .ref (r k)))) := fun s => same_unlock hdb (hG ▸ s)
            clear hG
            walk_at "g"
            intro D hD
            refine lcK (fun n => some (cs rf pr g n)) V.int hD e0 (by omega) (fun n v Ha Ky Kn hn s hfz hvv ky kn => ?_) (fun Ha s1 eD => ?_)
            · subst hvv
              have hnn2 : n ∈ pl.ss.map (·.name) := h2.v.inN n hn
              obtain ⟨hnp, hnp1, hnp2⟩ := hk1 n hn
              have u1 : Rd Ha d (.dK (fdV rk fun k => .ref (r k))) := .inr ⟨_, hfz⟩
              have u2 := same_rd s g1
              have u3 := same_rd s g2
              have u4 := s _ _ (g3 n hn)
              walk_at "g"
              exact ky _ _ (Same.refl _) rfl
            · have f1 := s1 _ _ e0
              have hDd : D ≠ d := (ne_of_none e0 hD).symm
              have hzd : z ≠ d := ne_at (s1 _ _ g4) f1 (fun e => by cases e)
              have sm2 := s0 s1
              rw [fm_map] at eD
              have eD' := at_upd (o := .dK (fdV rk fun k => .ref (r k))) hDd eD
              have eZ' := at_upd (o := .dK (fdV rk fun k => .ref (r k))) hzd (s1 _ _ g4)
              have hl2 : (rk.map (cs rf pr g)).length ≤ 400 := by
                rw [List.length_map]
                omega
              refine ⟨f1, ?_⟩
              generalize upd Ha d _ = Hb at sm2 eD' eZ' ⊢
              walk_at "g"
              · rw [List.length_map]
                exact Nat.le_of_lt (small1000 (by show 1 + _ ≤ _; omega))
              intro c n_c; generalize hG : upd Hb c _ = Hc; have s_Hc : Same Hb Hc := nw_same n_c hG; have e_c := nw_at hG; clear hG
              have e_c2 : Hc c = some (.lst ((0 :: rk.map (cs rf pr g)).map V.int)) := e_c
              walk_at "g"
              · exact Nat.succ_pos _
              intro m hm hle
              rw [wst_uniq hm hle]
              exact ky _ _ (s_H10.trans (sm2.trans s_Hc)) rfl
          rw [fm_map] at eDW
          walk_at "g"
          exact ⟨_, rfl, s9, eDW⟩
        · obtain ⟨DW, rfl, s9, eDW⟩ := hh.go
          clear hh
          have S79 : Same H7 H9 := s8.trans s9
          have h3 := h2.same S79
          have hP9 := hPl2.same S79
          have hd9 := h3.d
          have hp9 := h3.p
          have eD99 := s9 _ _ eD9
          walk_at "g"
          · intro H10 x f hts df dh s10 hLo hPf hmin hfl
            have hP10 := hP9.same s10
            have hd10 := hd9.same s10
            have hp10 : IntD H10 dp pk pr := s10 _ _ hp9
            walk_at "g"
            refine Cut.of (fun σ H' => Hold (∃ x2 num fw dfw v, σ = [some (.ref a0), y1, some (.ref kl), some (.ref a), some (.ref d), some (.ref dp), y6, some (.ref p), some (.ref R), some (.ref D9), some (.ref DW), some (.ref x), some (.ref x2), none, none, none, none, none, none] ∧ Same H10 H' ∧ WorstO K H' x2 pn num fw v dfw ∧ WorstR pn rk rf pr num fw ∧ (num = 0 → v = .non) ∧ (0 < num → ∃ t pa lim, v = .ref t ∧ PapH H' t pn pa ∧ (∀ s ∈ pn.ss, lim s.name = limW rk rf pr (num - 1) s) ∧ papTrue pn lim pa))) ?_ (fun σ H11 hh => ?_)
            · walk_at "g"
              · intro H11 x2 num fw dfw v s11 u1 u2 u3 u4
                exact ⟨_, _, _, _, _, rfl, s11, u1, u2, u3, u4⟩
              · intro H' _ hx
                exact absurd hx hno
            · obtain ⟨x2, num, fw, dfw, v, rfl, s11, hWo, hWr, hw0, hw1⟩ := hh.go
              clear hh
              have S711 : Same H7 H11 := S79.trans (s10.trans s11)
              have hcm : ∀ m, m ∈ (rows.map fun g => costN rk rf pr g) → (∀ y ∈ (rows.map fun g => costN rk rf pr g), m ≤ y) → m = costN rk rf pr f := fun m h1 h2' => by
                obtain ⟨g, hg, e⟩ := List.mem_map.mp h1
                obtain ⟨g', hg', e'⟩ := hr2 f ((hPos f).mp hPf)
                have a1 := hmin g ((hPos g).mpr (hr1 g hg))
                have a2 := h2' _ (List.mem_map.mpr ⟨g', hg', rfl⟩)
                have a3 : costN rk rf pr g' = costN rk rf pr f := cost_cong fun n hn => by
                  obtain ⟨s, hs, rfl⟩ := List.mem_map.mp (h2.v.inN n hn)
                  exact ⟨rfl, rfl, e' s hs⟩
                omega
              have hwm : ∀ m, m ∈ (rows.map fun g => wst rk rf pr g) → (∀ y ∈ (rows.map fun g => wst rk rf pr g), m ≤ y) → m = num := fun m h1 h2' => by
                obtain ⟨g, hg, e⟩ := List.mem_map.mp h1
                obtain ⟨g', hg', e'⟩ := hr2 fw ((hPos fw).mp hWr.ps)
                have a2 := h2' _ (List.mem_map.mpr ⟨g', hg', rfl⟩)
                have a3 : wst rk rf pr g' ≤ num := wst_le hWr.nn fun n hn => by
                  obtain ⟨s, hs, rfl⟩ := List.mem_map.mp (h2.v.inN n hn)
                  rw [cs_cong (rf' := rf) (pr' := pr) (f' := fw) rfl rfl (e' s hs)]
                  exact hWr.top _ hn
                have a4 : num ≤ wst rk rf pr g := by
                  rcases hWr.lo with z | z
                  · rw [z]
                    exact wst_nn
                  · refine Int.not_lt.mp fun l => z g ((hPos g).mpr (hr1 g hg)) fun n hn => ?_
                    have := atm_wst (rk := rk) (rf := rf) (pr := pr) (g := g) n hn
                    omega
                omega
              have hP11 := hP10.same s11
              have hd11 := hd10.same s11
              have hp11 : IntD H11 dp pk pr := s11 _ _ hp10
              obtain ⟨dxl, hLob⟩ := hLo.ob
              obtain ⟨dxw, hWob⟩ := hWo.ob
              have hLob11 := s11 _ _ hLob
              have hfl11 : IntD H11 df pn.names f := s11 _ _ hLo.fl
              have hhe11 : IntD H11 dh pn.knots hts := s11 _ _ hLo.he
              have hwf11 := hWo.fl
              have eD911 := s11 _ _ (s10 _ _ eD99)
              have eDW11 := s11 _ _ (s10 _ _ eDW)
              have n1 : 0 < (rows.map fun g => costN rk rf pr g).length := by
                rw [List.length_map]
                exact List.length_pos_iff.mpr hne
              have n2 : 0 < (rows.map fun g => wst rk rf pr g).length := by
                rw [List.length_map]
                exact List.length_pos_iff.mpr hne
              have hk4 : ∀ n ∈ rk, n ∈ pk ∧ n ∈ pn.names ∧ 0 ≤ pr n ∧ pr n ≤ 1000000 := fun n hn => by
                obtain ⟨a1, a2, a3⟩ := hk1 n hn
                exact ⟨a1, hv2.inN n hn, by omega, a3⟩
              have hrl1 : rk.length ≤ 100 := by omega
              have c1 : V.int (costN rk rf pr f) = V.int (costN rk rf pr f) := rfl
              have c2 : V.int num = V.int num := rfl
              walk_at "g"
              intro m hm hle
              rw [hcm m hm hle]
              walk_at "g"
              intro m2 hm2 hle2
              rw [hwm m2 hm2 hle2]
              walk_at "g"
              intro H12 s12
              have S712 := S711.trans s12
              have hP12 := hP11.same s12
              have hd12 := hd11.same s12
              have hp12 : IntD H12 dp pk pr := s12 _ _ hp11
              have hLob12 := s12 _ _ hLob11
              have hfl12 : IntD H12 df pn.names f := s12 _ _ hfl11
              have hhe12 : IntD H12 dh pn.knots hts := s12 _ _ hhe11
              have hWob12 := s12 _ _ hWob
              have hwf12 : IntD H12 dfw pn.names fw := s12 _ _ hwf11
              walk_at "g"
              refine Cut.of (fun σ H' => Hold (σ = [some (.ref a0), y1, some (.ref kl), some (.ref a), some (.ref d), some (.ref dp), y6, some (.ref p), some (.ref R), some (.ref D9), some (.ref DW), some (.ref x), some (.ref x2), none, none, none, none, none, none] ∧ Same H12 H')) ?_ (fun σ H13 hh => ?_)
              · walk_at "g"
                intro H13 m3 s13 hm3 hle3
                have hWob13 := s13 _ _ hWob12
                have e3 : m3 = num := by
                  have a1 := hle3 _ hWr.mem
                  have a2 : m3 ≤ num := by
                    rcases List.mem_cons.mp hm3 with z | z
                    · rw [z]
                      exact hWr.nn
                    · obtain ⟨n, hn, e⟩ := List.mem_map.mp z
                      rw [← e]
                      exact hWr.top n hn
                  omega
                subst e3
                walk_at "g"
                exact ⟨rfl, s13⟩
              · obtain ⟨rfl, s13⟩ := hh.go
                clear hh
                have hP13 := hP12.same s13
                have hd13 := hd12.same s13
                have hp13 : IntD H13 dp pk pr := s13 _ _ hp12
                have hLob13 := s13 _ _ hLob12
                have hfl13 : IntD H13 df pn.names f := s13 _ _ hfl12
                have hhe13 : IntD H13 dh pn.knots hts := s13 _ _ hhe12
                have hWob13 := s13 _ _ hWob12
                have hwf13 : IntD H13 dfw pn.names fw := s13 _ _ hwf12
                walk_at "g"
                intro LL n_LL; generalize hG : upd H13 LL _ = H14; have s_H14 : Same H13 H14 := nw_same n_LL hG; have e_LL := nw_at hG; clear hG
                have S714 : Same H7 H14 := S712.trans (s13.trans s_H14)
                have hP14 := hP13.same s_H14
                have hfl14 : IntD H14 df pn.names f := s_H14 _ _ hfl13
                have hwf14 : IntD H14 dfw pn.names fw := s_H14 _ _ hwf13
                walk_at "g"
                refine ⟨forG (wk_listV (vs := [V.ref df, V.ref dfw])) (fun i σ H' => Hold (∃ y13, σ = [some (.ref a0), y1, some (.ref kl), some (.ref a), some (.ref d), some (.ref dp), y6, some (.ref p), some (.ref R), some (.ref D9), some (.ref DW), some (.ref x), some (.ref x2), y13, none, none, none, none, none] ∧ Same H14 H'))
                  ⟨none, rfl, Same.refl _⟩ (fun i σ H' _ h => ?_) (fun i u v' σ Ha Hb ex h s5 hv2' => ?_) (fun σ H' h => ?_)⟩
                · obtain ⟨y13, rfl, t1⟩ := h.go
                  exact lstOf (t1 _ _ e_LL)
                · obtain ⟨y13, rfl, t1⟩ := h.go
                  subst hv2'
                  have u1 := t1.trans s5
                  obtain ⟨fa, g, rfl, hfa, hg⟩ : ∃ fa g, v' = V.ref fa ∧ IntD Hb fa pn.names g ∧ Poss pn g := by
                    rcases List.mem_cons.mp (List.mem_of_getElem? ex) with z | z
                    · exact ⟨df, f, z, u1 _ _ hfl14, hPf⟩
                    · exact ⟨dfw, fw, List.mem_singleton.mp z, u1 _ _ hwf14, hWr.ps⟩
                  have hPb := hP14.same u1
                  have b1 : (pn.knots.all fun k => decide (net pn.ss g k = 0)) = true := List.all_eq_true.mpr fun k hk => decide_eq_true (hg.bal k hk)
                  have b2 : (pn.ss.all fun s => decide (s.low ≤ g s.name ∧ g s.name ≤ s.high)) = true := List.all_eq_true.mpr fun s hs => decide_eq_true ⟨hg.lo s hs, hg.hi s hs⟩
                  walk_at "g"
                  intro Hc sc
                  rw [b1]
                  have hPc := hPb.same sc
                  have hfc : IntD Hc fa pn.names g := sc _ _ hfa
                  walk_at "g"
                  intro Hd sd
                  rw [b2]
                  walk_at "g"
                  exact ⟨_, rfl, u1.trans (sc.trans sd)⟩
                · obtain ⟨y13, rfl, t1⟩ := h.go
                  have S7e := S714.trans t1
                  have hPe := hP14.same t1
                  have hde := hd13.same (s_H14.trans t1)
                  have hpe : IntD H' dp pk pr := t1 _ _ (s_H14 _ _ hp13)
                  have hLobe := t1 _ _ (s_H14 _ _ hLob13)
                  have hhee : IntD H' dh pn.knots hts := t1 _ _ (s_H14 _ _ hhe13)
                  have hWobe := t1 _ _ (s_H14 _ _ hWob13)
                  walk_at "g"
                  intro H15 fl s15 hfl'
                  rw [show decide (costN rk rf pr f ≤ (pn.ss.map fl).sum) = true from decide_eq_true (by rw [hfl fl hfl']; exact Int.le_refl _)]
                  have hP15 := hPe.same s15
                  have hd15 := hde.same s15
                  have hp15 : IntD H15 dp pk pr := s15 _ _ hpe
                  have hLob15 := s15 _ _ hLobe
                  have hhe15 : IntD H15 dh pn.knots hts := s15 _ _ hhee
                  have hWob15 := s15 _ _ hWobe
                  walk_at "g"
                  intro H16 fl2 s16 hfl2'
                  rw [show decide (costN rk rf pr f + 1 ≤ (pn.ss.map fl2).sum) = false from decide_eq_false (by rw [hfl fl2 hfl2']; omega)]
                  have S716 := S7e.trans (s15.trans s16)
                  have hP16 := hP15.same s16
                  have hd16 := hd15.same s16
                  have hp16 : IntD H16 dp pk pr := s16 _ _ hp15
                  have hLob16 := s16 _ _ hLob15
                  have hWob16 := s16 _ _ hWob15
                  have nnn := hWr.nn
                  have S1116 : Same H11 H16 := s12.trans (s13.trans (s_H14.trans (t1.trans (s15.trans s16))))
                  obtain ⟨po, rfl, hpap, hpo⟩ : ∃ po : Option (Addr × Pap), v = poV po ∧ (∀ t pa, po = some (t, pa) → PapH H16 t pn pa) ∧ ((num = 0 ∧ po = none) ∨ (0 < num ∧ ∃ t pa lim, po = some (t, pa) ∧ (∀ s ∈ pn.ss, lim s.name = limW rk rf pr (num - 1) s) ∧ papTrue pn lim pa)) := by
                    by_cases z : num = 0
                    · exact ⟨none, hw0 z, fun t pa e => (nomatch e), .inl ⟨z, rfl⟩⟩
                    · obtain ⟨t, pa, lim, e1, e2, e3, e4⟩ := hw1 (by omega)
                      refine ⟨some (t, pa), e1, fun t' pa' e => ?_, .inr ⟨by omega, t, pa, lim, rfl, e3, e4⟩⟩
                      cases e
                      exact e2.same S1116
                  walk_at "g"
                  refine Cut.of (fun σ H' => Hold (σ = [some (.ref a0), y1, some (.ref kl), some (.ref a), some (.ref d), some (.ref dp), y6, some (.ref p), some (.ref R), some (.ref D9), some (.ref DW), some (.ref x), some (.ref x2), y13, none, none, none, none, none] ∧ Same H16 H')) ?_ (fun σ H17 hh => ?_)
                  · walk_at "g"
                    intro H17 s17
                    have hP17 := hP16.same s17
                    have hd17 := hd16.same s17
                    have hp17 : IntD H17 dp pk pr := s17 _ _ hp16
                    have hWob17 := s17 _ _ hWob16
                    have hpap17 : ∀ t pa, po = some (t, pa) → PapH H17 t pn pa := fun t pa e => (hpap t pa e).same s17
                    rcases hpo with ⟨en, epo⟩ | ⟨hn, t, pa, lim, epo, l1, l2⟩
                    · refine ⟨fun _ => ?_, fun h => absurd h (by omega), fun _ _ _ h => absurd h (by omega)⟩
                      walk_at "g"
                      intro H18 s18
                      refine ⟨fun h => absurd h (by omega), fun _ _ => ?_, fun _ _ _ _ e => nomatch (epo.symm.trans e)⟩
                      walk_at "g"
                      exact ⟨rfl, s17.trans s18⟩
                    · refine ⟨fun h => absurd h (by omega), fun _ e => (nomatch (epo.symm.trans e)), fun t' pa' lim' _ e hl' => ?_⟩
                      cases epo.symm.trans e
                      rw [papB_true (hpap _ _ epo) (fun s hs => (hl' s hs).trans (l1 s hs).symm) l2]
                      walk_at "g"
                      intro H18 s18
                      refine ⟨fun h => absurd h (by omega), fun _ e => (nomatch (epo.symm.trans e)), fun t' pa' lim' _ e hl' => ?_⟩
                      cases epo.symm.trans e
                      rw [papB_false hpv2 (hpap _ _ epo) ((feas_w hv2 (fun n hn => (hk1 n hn).2.1) hWr.nn (fun s hs => by rw [hl' s hs, Int.add_sub_cancel])).mpr ⟨hWr.ps, hWr.top⟩)]
                      walk_at "g"
                      exact ⟨rfl, s17.trans s18⟩
                  · obtain ⟨rfl, s17⟩ := hh.go
                    clear hh
                    have S717 := S716.trans s17
                    have hP17 := hP16.same s17
                    have hd17 := hd16.same s17
                    have hp17 : IntD H17 dp pk pr := s17 _ _ hp16
                    have hLob17 := s17 _ _ hLob16
                    have hWob17 := s17 _ _ hWob16
                    have hp1' : ∀ n ∈ rk, 1 ≤ pr n := fun n hn => (hk1 n hn).2.1
                    have hcnn : 0 ≤ costN rk rf pr f := cost_nn fun n hn => by have := hp1' n hn; omega
                    have hz : num = 0 ↔ costN rk rf pr f = 0 := by
                      constructor
                      · intro e
                        have h1 := (atm_zero hp1').mp (e ▸ hWr.top)
                        have h2' := (cost_zero hp1').mpr h1
                        have h3' := hmin fw hWr.ps
                        omega
                      · intro e
                        have h1 := (atm_zero hp1').mpr ((cost_zero hp1').mp e)
                        rcases hWr.lo with z | z
                        · exact z
                        · by_cases z2 : num = 0
                          · exact z2
                          · exact absurd (fun n hn => Int.le_trans (h1 n hn) (by omega)) (z f hPf)
                    have hfz : ∀ lim : Str → Int × Int, (∀ s ∈ pn.ss, lim s.name = limS rk rf s) → ((∃ g, Feas pn.knots pn.ss lim g) ↔ costN rk rf pr f = 0) := fun lim hl => by
                      constructor
                      · rintro ⟨g, hg⟩
                        obtain ⟨h1, h2'⟩ := (feas_s hv2 hl).mp hg
                        have h3' := hmin g h1
                        rw [(cost_zero hp1').mpr h2'] at h3'
                        omega
                      · intro e
                        exact ⟨f, (feas_s hv2 hl).mpr ⟨hPf, (cost_zero hp1').mp e⟩⟩
                    walk_at "g"
                    refine Cut.of (fun σ H' => Hold (σ = [some (.ref a0), y1, some (.ref kl), some (.ref a), some (.ref d), some (.ref dp), y6, some (.ref p), some (.ref R), some (.ref D9), some (.ref DW), some (.ref x), some (.ref x2), y13, none, none, none, none, none] ∧ Same H17 H')) ?_ (fun σ H18 hh => ?_)
                    · by_cases z : costN rk rf pr f = 0
                      · have zn := hz.mpr z
                        walk_at "g"
                        intro lim hl
                        refine ⟨fun H' _ h => absurd ((hfz lim hl).mpr z) h, fun H18 b g s18 _ => ?_⟩
                        have hLob18 := s18 _ _ hLob17
                        have hWob18 := s18 _ _ hWob17
                        have e8 : V.bl (decide (V.int (costN rk rf pr f) = V.int 0)) = V.bl (!decide (V.ref b = V.non)) := by
                          rw [decide_eq_true (congrArg V.int z), decide_eq_false (fun e => by cases e)]
                          rfl
                        have e9 : V.bl (decide (V.int num = V.int 0)) = V.bl (decide (V.int (costN rk rf pr f) = V.int 0)) := by
                          rw [decide_eq_true (congrArg V.int z), decide_eq_true (congrArg V.int zn)]
                        walk_at "g"
                        exact ⟨rfl, s18⟩
                      · have zn : ¬ num = 0 := fun e => z (hz.mp e)
                        walk_at "g"
                        intro lim hl
                        refine ⟨fun H18 s18 _ => ?_, fun H18 b g s18 h => absurd ((hfz lim hl).mp ⟨g, h⟩) z⟩
                        have hLob18 := s18 _ _ hLob17
                        have hWob18 := s18 _ _ hWob17
                        have e8 : V.bl (decide (V.int (costN rk rf pr f) = V.int 0)) = V.bl (!decide (V.non = V.non)) := by
                          rw [decide_eq_true (rfl : V.non = V.non), decide_eq_false (fun e => z (V.int.inj e))]
                          rfl
                        have e9 : V.bl (decide (V.int num = V.int 0)) = V.bl (decide (V.int (costN rk rf pr f) = V.int 0)) := by
                          rw [decide_eq_false (fun e => z (V.int.inj e)), decide_eq_false (fun e => zn (V.int.inj e))]
                        walk_at "g"
                        exact ⟨rfl, s18⟩
                    · obtain ⟨rfl, s18⟩ := hh.go
                      clear hh
                      have S718 := S717.trans s18
                      have h4 := h2.same S718
                      have hP18 := hP17.same s18
                      have hd18 := hd17.same s18
                      have hp18 : IntD H18 dp pk pr := s18 _ _ hp17
                      have hLob18 := s18 _ _ hLob17
                      have hWob18 := s18 _ _ hWob17
                      have hkk18 := h4.kk
                      have hss18 := h4.ss
                      have hsm18 := h4.sm
                      have hsb18 := h4.sb
                      have hv18 := h4.v
                      walk_at "g"
                      intro H19 b kvs lv s19 eb ek hlv
                      obtain ⟨f0, rfl, p0, m0⟩ : ∃ f, lv = .int (costN rk rf (fun _ => 1) f) ∧ Poss pl f ∧ ∀ g, Poss pl g → costN rk rf (fun _ => 1) f ≤ costN rk rf (fun _ => 1) g := by
                        rcases hlv with h | ⟨_, h⟩
                        · exact h
                        · exact absurd ((hPos f).mp hPf) (h f)
                      have g1 : DGet H19 b (.str "least") (some (.int (costN rk rf (fun _ => 1) f0))) := .inl ⟨kvs, kS "least", .inl eb, rfl, ek.symm⟩
                      have hone : ∀ g, Poss pn g → (∀ g', Poss pn g' → costN rk rf (fun _ => 1) g ≤ costN rk rf (fun _ => 1) g') → costN rk rf (fun _ => 1) g = costN rk rf (fun _ => 1) f0 := fun g hg hm => by
                        have a1 := hm f0 ((hPos f0).mpr p0)
                        have a2 := m0 g ((hPos g).mp hg)
                        omega
                      walk_at "g"
                      refine Cut.of (fun σ H' => Hold (σ = [some (.ref a0), y1, some (.ref kl), some (.ref a), some (.ref d), some (.ref dp), y6, some (.ref p), some (.ref R), some (.ref D9), some (.ref DW), some (.ref x), some (.ref x2), y13, some (.int (costN rk rf (fun _ => 1) f0)), none, none, none, none] ∧ Same H19 H')) ?_ (fun σ H20 hh => ?_)
                      · have hP19 := hP18.same s19
                        have hd19 := hd18.same s19
                        walk_at "g"
                        intro xk dxk nx ndx nex
                        have hn : Same H19 (upd (upd H19 dxk (.own xk)) xk (.ins (C_Desk K) dxk [])) := fun b o e => by
                          rw [upd_ne (ne_of_none e nx), upd_ne (ne_of_none e ndx)]
                          exact e
                        have hP20 := hP19.same hn
                        have hd20 := hd19.same hn
                        walk_at "g"
                        intro H20 kn sE hD nk
                        have S20 : Same H19 H20 := made nx ndx sE
                        have nk19 := upd_none (upd_none nk)
                        obtain ⟨dx', st, t1', t2', d', hob, _⟩ := hD.ob
                        refine ⟨rfl, ?_⟩
                        walk_at "g"
                        · intro H21 g s21 hg hgm
                          rw [hone g hg hgm]
                          have S21 : Same H19 H21 := fun b o e => s21 _ _ (ne_of_none e nk19) (S20 _ _ e)
                          have hP21 := hP19.same S21
                          have hd21' := hd19.same S21
                          have c3 : V.int (costN rk rf (fun _ => 1) f0) = V.int (costN rk rf (fun _ => 1) f0) := rfl
                          walk_at "g"
                          intro x2 dx2 nx2 ndx2 nex2
                          have hn2 : Same H21 (upd (upd H21 dx2 (.own x2)) x2 (.ins (C_Session K) dx2 [])) := fun b o e => by
                            rw [upd_ne (ne_of_none e nx2), upd_ne (ne_of_none e ndx2)]
                            exact e
                          have hP22 := hP21.same hn2
                          have hd22' := hd21'.same hn2
                          walk_at "g"
                          intro H22 kn2 sE2 hS nk2
                          have S22 : Same H21 H22 := made nx2 ndx2 sE2
                          have nk21 := upd_none (upd_none nk2)
                          obtain ⟨dxs, dk, hos, _⟩ := hS.ob
                          refine ⟨rfl, ?_⟩
                          walk_at "g"
                          · intro H23 g s23 hg hgm
                            rw [hone g hg hgm]
                            have S23 : Same H21 H23 := fun b o e => s23 _ _ (ne_of_none e nk21) (S22 _ _ e)
                            have c4 : V.str (toString (costN rk rf (fun _ => 1) f0)) = V.str (toString (costN rk rf (fun _ => 1) f0)) := rfl
                            walk_at "g"
                            refine .inl ⟨_, rfl, cost_small h2.sm.v h2.v p0, ?_⟩
                            walk_at "g"
                            exact ⟨rfl, S21.trans S23⟩
                          · intro H23 _ hx
                            exact absurd hx hno
                        · intro H21 _ hx
                          exact absurd hx hno
                      · obtain ⟨rfl, s20⟩ := hh.go
                        clear hh
                        have S720 := S718.trans (s19.trans s20)
                        have s1820 := s19.trans s20
                        have hP20 := hP18.same s1820
                        have hd20 := hd18.same s1820
                        have hp20 : IntD H20 dp pk pr := s1820 _ _ hp18
                        have hLob20 := s1820 _ _ hLob18
                        have hWob20 := s1820 _ _ hWob18
                        have hd201 := S720 _ _ hd21
                        walk_at "g"
                        have hrl63 : rk.length < 64 := by omega
                        intro ys sp pm so n_sp
                        generalize hG : upd H20 sp _ = H21; have s_H21 : Same H20 H21 := nw_same n_sp hG; have e_sp := nw_at hG; clear hG
                        walk_at "g"
                        intro sl n_sl
                        have hcut : cutV (ys.map V.str) none (some (2 : Int)) = (ys.take (min 2 ys.length)).map V.str := by
                          rw [show (2 : Int) = ((2 : Nat) : Int) from rfl, cutV_map, HT.sIx_none, HT.sIx_nat, List.drop_zero, Nat.sub_zero]
                        rw [hcut]
                        generalize hzs : ys.take (min 2 ys.length) = zz
                        have hzm : ∀ z ∈ zz, z ∈ rk := fun z hz' => by
                          have : z ∈ ys := List.mem_of_mem_take (hzs ▸ hz')
                          exact pm.mem_iff.mp this
                        generalize hG : upd H21 sl _ = H22; have s_H22 : Same H21 H22 := nw_same n_sl hG; have e_sl := nw_at hG; clear hG
                        have e_sl2 : H22 sl = some (.lst (zz.map V.str)) := e_sl
                        have s2022 : Same H20 H22 := s_H21.trans s_H22
                        walk_at "g"
                        refine ⟨forG (wk_listM (ys := zz) (m := V.str)) (fun i σ H' => Hold (∃ y15 y16 y17, σ = [some (.ref a0), y1, some (.ref kl), some (.ref a), some (.ref d), some (.ref dp), y6, some (.ref p), some (.ref R), some (.ref D9), some (.ref DW), some (.ref x), some (.ref x2), y13, some (.int (costN rk rf (fun _ => 1) f0)), y15, y16, y17, none] ∧ Same H22 H'))
                          ⟨_, _, _, rfl, Same.refl _⟩ (fun i σ H' _ h => ?_) (fun i n v' σ Ha Hb ex h s5 hv2' => ?_) (fun σ H' h => ?_)⟩
                        · obtain ⟨y15, y16, y17, rfl, t1⟩ := h.go
                          exact lstOf (t1 _ _ e_sl2)
                        · obtain ⟨y15, y16, y17, rfl, t1⟩ := h.go
                          subst hv2'
                          have hn : n ∈ rk := hzm n (List.mem_of_getElem? ex)
                          have hnp : n ∈ pk := (hk1 n hn).1
                          have u1 : Same H20 Hb := s2022.trans (t1.trans s5)
                          have hdb : Hb d = some (.dK (fdV rk fun k => .ref (r k))) := u1 _ _ hd201
                          have hpb : Hb dp = some (.dK (fdV pk fun k => .int (pr k))) := u1 _ _ hp20
                          have kv1 : V.str n = kV (kS n) := rfl
                          have vv1 : valV (fdV rk fun k => .ref (r k)) (kS n) = some (.ref (r n)) := fd_get (g := fun k => V.ref (r k)) hn
                          have vv2 : valV (fdV pk fun k => .int (pr k)) (kS n) = some (.int (pr n)) := fd_get (g := fun k => V.int (pr k)) hnp
                          walk_at "g"
                          intro b1 n_b1
                          generalize hG : upd Hb b1 _ = Hc; have s_Hc : Same Hb Hc := nw_same n_b1 hG; have e_b1 := nw_at hG; clear hG
                          have e_b1d : IsD Hc b1 := .inl ⟨_, .inl e_b1⟩
                          have hpU : Rd (upd Hc b1 (.dK (dropK (fdV rk fun k => .ref (r k)) (kS n)))) dp (.dK (fdV pk fun k => .int (pr k))) := .inl (same_put s_Hc n_b1 _ _ hpb)
                          walk_at "g"
                          rw [drop_fd]
                          generalize hU : upd Hc b1 _ = Hd
                          have s_Hd : Same Hb Hd := hU ▸ same_put s_Hc n_b1
                          have e_Hd : Hd b1 = some (.dK (fdV (rk.filter fun k => decide (k ≠ n)) fun k => .ref (r k))) := hU ▸ upd_same
                          clear hU hpU
                          intro b2 n_b2
                          generalize hG : upd Hd b2 _ = He; have s_He : Same Hd He := nw_same n_b2 hG; have e_b2 := nw_at hG; clear hG
                          have e_b2d : IsD He b2 := .inl ⟨_, .inl e_b2⟩
                          have hvF : RdV pn (rk.filter fun k => decide (k ≠ n)) rf := ⟨hv2.nd.filter _, fun m hm => hv2.inN m (List.mem_filter.mp hm).1, fun m hm => hv2.bd m (List.mem_filter.mp hm).1⟩
                          have hkF : ∀ m ∈ (rk.filter fun k => decide (k ≠ n)), m ∈ (pk.filter fun k => decide (k ≠ n)) ∧ 1 ≤ pr m ∧ pr m ≤ 1000000 := fun m hm => by
                            obtain ⟨a1, a2⟩ := List.mem_filter.mp hm
                            obtain ⟨b1, b2⟩ := hk1 m a1
                            exact ⟨List.mem_filter.mpr ⟨b1, a2⟩, b2⟩
                          have hkF2 : ∀ m ∈ (pk.filter fun k => decide (k ≠ n)), m ∈ (rk.filter fun k => decide (k ≠ n)) := fun m hm => by
                            obtain ⟨a1, a2⟩ := List.mem_filter.mp hm
                            exact List.mem_filter.mpr ⟨hk2 m a1, a2⟩
                          obtain ⟨Hf, hU⟩ : ∃ Hf, Hf = upd He b2 (.dK (dropK (fdV pk fun k => .int (pr k)) (kS n))) := ⟨_, rfl⟩
                          have s_Hf : Same Hd Hf := hU ▸ same_put s_He n_b2
                          have e_Hf : IntD Hf b2 (pk.filter fun k => decide (k ≠ n)) pr := by
                            rw [hU, drop_fd]
                            exact upd_same
                          have uF : Same H20 Hf := u1.trans (s_Hd.trans s_Hf)
                          have hPF := hP20.same uF
                          have hdF : PrD Hf b1 (rk.filter fun k => decide (k ≠ n)) rf := ⟨r, s_Hf _ _ e_Hd, fun m hm => (s_Hd.trans s_Hf) _ _ (u1 _ _ (S720 _ _ (hd22 m (List.mem_filter.mp hm).1)))⟩
                          have hsub : ∀ m ∈ (rk.filter fun k => decide (k ≠ n)), m ∈ rk := fun m hm => (List.mem_filter.mp hm).1
                          generalize hrk' : (rk.filter fun k => decide (k ≠ n)) = rk' at *
                          generalize hpk' : (pk.filter fun k => decide (k ≠ n)) = pk' at *
                          subst hU
                          walk_at "g"
                          · intro H30 x3 f3 h3' df3 dh3 s30 hLo3 hP3 hm3 _
                            obtain ⟨dx3, hob3⟩ := hLo3.ob
                            have uH := uF.trans s30
                            have hLob30 := uH _ _ hLob20
                            have hWob30 := uH _ _ hWob20
                            have hP30 := hPF.same s30
                            have hd30 := hdF.same s30
                            have hp30 : IntD H30 b2 pk' pr := s30 _ _ e_Hf
                            have c5 : ¬ (costN rk rf pr f < costN rk' rf pr f3) := by
                              have a1 := hm3 f hPf
                              have a2 := cost_fewer (rf := rf) (pr := pr) (f := f) h2.v.nd hvF.nd hsub fun m hm => by
                                have := hp1' m hm
                                omega
                              omega
                            walk_at "g"
                            · intro H31 x4 num4 f4 df4 v4 s31 hWo4 hWr4 _ _
                              obtain ⟨dx4, hob4⟩ := hWo4.ob
                              have hWob31 := s31 _ _ hWob30
                              have c6 : ¬ (num < num4) := fun l => by
                                rcases hWr4.lo with z | z
                                · omega
                                · exact z fw hWr.ps fun m hm => Int.le_trans (hWr.top m (hsub m hm)) (by omega)
                              walk_at "g"
                              exact ⟨_, _, _, rfl, (t1.trans s5).trans (s_Hd.trans (s_Hf.trans (s30.trans s31)))⟩
                            · intro H31 _ hx
                              exact absurd hx hno
                          · intro H30 _ hx
                            exact absurd hx hno
                        · obtain ⟨y15, y16, y17, rfl, t1⟩ := h.go
                          walk_at "g"
                          exact q _
          · intro H' _ hx
            exact absurd hx hno
end
end M
end
-- part J
set_option Elab.async false
set_option linter.all false
set_option maxRecDepth 100000
set_option maxHeartbeats 4000000
open PySem PySem.W PySem.Calls PyProof.Rows
theorem PySem.Challenge.cw_metersure_k76_whole_least_corrections_holds : PySem.Challenge.rw_metersure_k76_whole_least_corrections.Holds := by
  w_on; o_law
  refine HandSHeadRun.head_any (r := OpenLaw.row PySem.Challenge.rw_metersure_k76_whole_least_corrections) (q := view (OpenLaw.row PySem.Challenge.rw_metersure_k76_whole_least_corrections).prog [124]) (H := M.hk) (ob := M.ob) (M := 100000) (loose := M.names) (d := HandSHeadRun.topDef (OpenLaw.row PySem.Challenge.rw_metersure_k76_whole_least_corrections).prog 124) (kwd := []) M.ob_eq
    (by kernel_rfl) (fun s => by kernel_rfl) M.run (by kernel_rfl) (by kernel_rfl) (by kernel_rfl) (by rfl) (by first | assumption | decide +kernel) (by decide +kernel) ⟨rfl, rfl, rfl, rfl, rfl, by decide +kernel⟩ ?hw ?hc
  case hw => w_witness2
  case hc =>
    refine L2.walk_ofE (l := PySem.Challenge.rw_metersure_k76_whole_least_corrections) (n := 63) (k := 14) (x := "_law_script") (CX := L2.CX0) rfl (by decide) (by kernel_rfl) ⟨rfl, by decide, by decide⟩ ?F (fun _ _ _ _ z => z)
    intro w mg fa h Y G hmg0
    obtain ⟨K, KX, c⟩ := Y
    have T : M.Tx K mg := M.tx_of KX G c
    have hmg : mg ("law" : PySem.Str) = some (.ref fa) := by
      have e : (HandSHeadRun.topDef (OpenLaw.row PySem.Challenge.rw_metersure_k76_whole_least_corrections).prog 124).name = ("law" : PySem.Str) := by kernel_rfl
      rw [← e]
      exact hmg0
    have e := hmg.symm.trans T.g_L_law
    cases e
    obtain ⟨fd, F⟩ := T.F_L_law
    have b := L2.FunD.bindsA (ps := ["_law_script"]) F fun _ _ _ _ _ _ us hl => match us, hl with | [_], _ => rfl
    exact ⟨K, fd, M.sp_L_law K, KX, fun s v => b s [v] rfl, fun H a ns hl _ hS => ⟨a, ns, rfl, hS, hl, fun _ => rfl⟩, fun base _ _ => M.okF_L_law T F⟩
